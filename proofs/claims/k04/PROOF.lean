import PyProof.Rows.All
import Wide.All
import OpenK.AllK
import Wide.FinOn
import HandS.ForMost
import HandS.Exc
import HandS.WordsExc
import HandS.Defaults
import HandS.IsInst
import HandS.Wide
import HandS.Deep
import HandS.Conv
import HandS.Style
import HandS.TupAny
import HandS.TupMul
import HandS.Zip
import HandS.Strs
import HandS.SortInts
import HandS.ExcOwn
import HandS.CallSlots
import HandS.Flow
import KE.KTupSum
import HandS.SetFor
import PyProof.ExcBaseAll.ValueError
import HandS.Head0
import HandS.Head1
import HandS.Head2
import HandS.HeadEnd
import HandS.HeadHook1
import HandS.HeadHook2
import HandS.HeadHook3
import HandS.HeadHook4
import PyProof.TableCode
import HandS.HeadWalk
import PySem.Challenge.RW_heldkeys_k04_whole_thirty_figures_of_key
set_option Elab.async false
set_option linter.all false
/-! IpCore: a small language of expressions and statements, its data, and its evaluator. -/
namespace Ip
open PySem (Str)

/-- plain data: no mutable object in it -/
inductive P where
  | non | bl (b : Bool) | int (i : Int) | str (x : Str)
  | tup (ps : List P) | lst (ps : List P) | set (ps : List P) | dct (ks vs : List P)
  | scr (ps : List P)
  | glb (g : Nat)
  deriving Inhabited

inductive BOp where | add | sub | mul | fdiv | mod | pow
  deriving DecidableEq
inductive COp where | eq | ne | lt | le | gt | ge | is | isn | isin | nin
  deriving DecidableEq
inductive Ty where | int | bool | str | tup | lst | cls (g : Nat)
  deriving DecidableEq
/-- built-in functions of values -/
inductive Bf where | len | int | abs | sum | min | max | sorted | set | all | any | str | bool | tuple | list
  deriving DecidableEq
/-- targets -/
inductive Tg where | nm (i : Nat) | tp (ts : List Tg)

mutual
inductive CE where
  | var (i : Nat)
  | cst (p : P)
  | con (c : Nat)
  | glb (g : Nat)
  | tup (es : List CE)
  | lst (m : Bool) (es : List CE)
  | bin (m : Bool) (op : BOp) (a b : CE)
  | neg (a : CE)
  | cmp (op : COp) (a b : CE)
  | cmp2 (op op' : COp) (a b c : CE)
  | and (a b : CE)
  | or (a b : CE)
  | not (a : CE)
  | ife (c a b : CE)
  | call (m : Bool) (g : Nat) (es : List CE)
  | blt (m : Bool) (f : Bf) (es : List CE)
  | isi (e : CE) (t : Ty)
  | idx (o i : CE)
  | slc (o : CE) (lo hi : Option CE)
  | rev (o : CE)
  | ofr (t m : Bool) (lo : Option CE) (hi : CE)
  | comp (m : Bool) (elt : CE) (tg : Tg) (it : It) (ifs : Option CE) (own : List Nat)
  | comp2 (m : Bool) (elt : CE) (tg : Tg) (it : It) (tg1 : Tg) (it1 : It) (ifs1 : Option CE) (own own1 : List Nat)
  | frz (e : CE)
inductive It where
  | seq (e : CE)
  | rng (lo : Option CE) (hi : CE)
  | enum (e : CE)
  | zip (a b : CE)
end

inductive CS where
  | set (t : Tg) (e : CE)
  | par (i j : Nat) (a b : CE)
  | par3 (i j k : Nat) (a b c : CE)
  | parT (is : List Nat) (es : List CE)
  | sub (o i e : CE)
  | expr (e : CE)
  | app (o e : CE)
  | ife (c : CE) (a b : List CS)
  | for_ (t : Tg) (it : It) (body : List CS)
  | whl (c : CE) (body : List CS)
  | ret (e : CE)
  | rais (c : Nat) (e : CE)
  | brk | cont

/-! ### values of slots, the heap -/
inductive U where
  | p (x : P)
  | ref (i : Nat)
  | clo (np : Nat) (body : CE) (caps : List (Option U))
  | exn (c : Nat)
inductive MO where
  | lst (ps : List P)
  | dct (ks vs : List P)
  | dead
abbrev Hm := List MO
abbrev Rho := List (Option U)

inductive R (α : Type) where
  | ok (a : α) (m : Hm)
  | ex (c : Nat) (m : Hm)
  | no
def R.bind {α β : Type} (r : R α) (f : α → Hm → R β) : R β := match r with
  | .ok a m => f a m
  | .ex c m => .ex c m
  | .no => .no
def R.of {α : Type} (o : Option α) (m : Hm) : R α := match o with
  | some a => .ok a m
  | none => .no

/-! ### data: equality -/
mutual
def eqP : P → P → Bool
  | .non, .non => true
  | .bl a, .bl b => a == b
  | .bl a, .int j => (if a then 1 else 0) == j
  | .int i, .bl b => i == (if b then 1 else 0)
  | .int i, .int j => i == j
  | .str x, .str y => decide (x = y)
  | .tup xs, .tup ys => eqPs xs ys
  | .lst xs, .lst ys => eqPs xs ys
  | _, _ => false
def eqPs : List P → List P → Bool
  | [], [] => true
  | x :: xs, y :: ys => eqP x y && eqPs xs ys
  | _, _ => false
end
mutual
/-- no set, dict, function within; strings well formed; not deep -/
def shp : Nat → P → Bool
  | _, .non => true
  | _, .bl _ => true
  | _, .int _ => true
  | _, .str x => x.cps.all (fun c => decide (c < 1114112))
  | n + 1, .tup ps => shps n ps
  | n + 1, .lst ps => shps n ps
  | _, _ => false
def shps : Nat → List P → Bool
  | _, [] => true
  | n, p :: ps => shp n p && shps n ps
end
def scl : P → Bool
  | .non => true
  | .bl _ => true
  | .int _ => true
  | .str _ => true
  | _ => false
def LIM : Nat := 1000000

/-- a value as plain data: a list that may change is read -/
def rd (M : Hm) : U → Option P
  | .p x => some x
  | .ref i => match M[i]? with
    | some (.lst ps) => some (.lst ps)
    | _ => none
  | _ => none
def rdAll (M : Hm) : List U → Option (List P)
  | [] => some []
  | u :: us => match rd M u, rdAll M us with
    | some p, some ps => some (p :: ps)
    | _, _ => none
def asPs : List U → Option (List P)
  | [] => some []
  | .p x :: us => (asPs us).map (x :: ·)
  | _ => none
def seqOf : P → Option (List P)
  | .tup ps => some ps
  | .lst ps => some ps
  | _ => none

/-- .. or the script -/
def itsOf : P → Option (List P)
  | .tup ps => some ps
  | .lst ps => some ps
  | .scr ps => some ps
  | _ => none

def intsP : List P → Option (List Int)
  | [] => some []
  | .int i :: ps => (intsP ps).map (i :: ·)
  | _ => none
def boolsP : List P → Option (List Bool)
  | [] => some []
  | .bl b :: ps => (boolsP ps).map (b :: ·)
  | _ => none

def isL : P → Bool
  | .lst _ => true
  | _ => false
def mulOk (i j : Int) : Bool := decide (i.natAbs < 2 ^ 63) || decide (j.natAbs < 2 ^ 63) || (decide (i.natAbs < 2 ^ 4000) && decide (j.natAbs < 2 ^ 4000))
def divOk (i j : Int) : Bool := decide (j ≠ 0) && (decide (j.natAbs < 2 ^ 30) || (decide (0 < j) && decide (j.natAbs < 2 ^ 4000) && decide (i.natAbs < 2 ^ 4000)))
def addP : P → P → Option P
  | .int i, .int j => some (.int (i + j))
  | .str x, .str y => if x.length + y.length ≤ LIM then some (.str (x ++ y)) else none
  | .tup xs, .tup ys => if xs.length + ys.length ≤ LIM then some (.tup (xs ++ ys)) else none
  | .lst xs, .lst ys => if xs.length + ys.length ≤ LIM then some (.lst (xs ++ ys)) else none
  | _, _ => none
def subP : P → P → Option P
  | .int i, .int j => some (.int (i - j))
  | _, _ => none
def mulP : P → P → Option P
  | .int i, .int j => if mulOk i j then some (.int (i * j)) else none
  | .lst xs, .int j => if decide (0 ≤ j) && decide (j ≤ 1000) && decide (xs.length * j.toNat ≤ LIM) then some (.lst ((List.replicate j.toNat xs).flatten)) else none
  | .tup xs, .int j => if j = 1 then some (.tup xs) else if !xs.isEmpty && decide (2 ≤ j) && decide (j ≤ 1000) && decide (xs.length ≤ 1000) then some (.tup ((List.replicate j.toNat xs).flatten)) else none
  | _, _ => none
def fdvP : P → P → Option P
  | .int i, .int j => if divOk i j then some (.int (i.fdiv j)) else none
  | _, _ => none
def modP : P → P → Option P
  | .int i, .int j => if j ≠ 0 then some (.int (i.fmod j)) else none
  | _, _ => none
def powP : P → P → Option P
  | .int i, .int j => if decide (0 ≤ j) && decide (j ≤ 1000) && decide (i.natAbs < 2 ^ 63) then some (.int (i ^ j.toNat)) else none
  | _, _ => none
def binP : BOp → P → P → Option P
  | .add => addP
  | .sub => subP
  | .mul => mulP
  | .fdiv => fdvP
  | .mod => modP
  | .pow => powP
/-- two plain ones that == tells apart by what they are -/
def scl2 : P → P → Bool
  | .non, b => scl b
  | a, .non => scl a
  | .int _, .int _ => true
  | .bl _, .bl _ => true
  | .str _, .str _ => true
  | .int _, .str _ => true
  | .str _, .int _ => true
  | .bl _, .str _ => true
  | .str _, .bl _ => true
  | _, _ => false
def eqOk (a b : P) : Bool := scl2 a b || (shp 60 a && shp 60 b)
def eqC (a b : P) : Option Bool := if eqOk a b then some (eqP a b) else none
def neC (a b : P) : Option Bool := if eqOk a b then some (!eqP a b) else none
def intC (f : Int → Int → Bool) : P → P → Option Bool
  | .int i, .int j => some (f i j)
  | _, _ => none
def isNon : P → Bool
  | .non => true
  | _ => false
def isC : P → P → Option Bool
  | a, .non => some (isNon a)
  | .bl a, .bl b => some (decide (a = b))
  | _, _ => none
def hasP (a : P) (ps : List P) : Bool := ps.any fun q => eqP q a
def inC (a : P) : P → Option Bool
  | .lst ps => if (scl a && ps.all scl) || (shp 60 a && shps 59 ps) then some (hasP a ps) else none
  | .tup ps => if scl a && ps.all scl then some (hasP a ps) else none
  | _ => none
def cmpP : COp → P → P → Option Bool
  | .eq => eqC
  | .ne => neC
  | .lt => intC fun i j => decide (i < j)
  | .le => intC fun i j => decide (i ≤ j)
  | .gt => intC fun i j => decide (j < i)
  | .ge => intC fun i j => decide (j ≤ i)
  | .is => isC
  | .isn => fun a b => (isC a b).map (!·)
  | .isin => inC
  | .nin => fun a b => (inC a b).map (!·)
def truP : P → Option Bool
  | .non => some false
  | .bl b => some b
  | .int i => some (i != 0)
  | .tup ps => some (!ps.isEmpty)
  | .lst ps => some (!ps.isEmpty)
  | _ => none
/-- isinstance -/
def isiU (M : Hm) (t : Ty) : U → Option Bool
  | .p .non => some false
  | .p (.bl _) => some (match t with | .int | .bool => true | _ => false)
  | .p (.int _) => some (match t with | .int => true | _ => false)
  | .p (.str _) => some (match t with | .str => true | _ => false)
  | .p (.tup _) => some (match t with | .tup => true | _ => false)
  | .p (.lst _) => some (match t with | .lst => true | _ => false)
  | _ => none
/-- an index of any sign -/
def atP (ps : List P) (i : Int) : Option P :=
  if 0 ≤ i then ps[i.toNat]? else if 0 ≤ i + ps.length then ps[(i + ps.length).toNat]? else none
def bndP (n : Nat) (d : Nat) : Option Int → Nat
  | none => d
  | some i => if 0 ≤ i then min i.toNat n else (i + n).toNat
def cutP (ps : List P) (lo hi : Option Int) : List P :=
  let a := bndP ps.length 0 lo
  let b := bndP ps.length ps.length hi
  (ps.drop a).take (b - a)
def insP (i : Int) : List Int → List Int
  | [] => [i]
  | j :: js => if i ≤ j then i :: j :: js else j :: insP i js
def srtP : List Int → List Int
  | [] => []
  | i :: is => insP i (srtP is)
def rngP (lo hi : Int) : List P := (List.range (hi - lo).toNat).map fun (i : Nat) => P.int (lo + (i : Int))

def lenP : List P → Option P
  | [p] => match p with
    | .tup ps => some (.int ps.length)
    | .lst ps => some (.int ps.length)
    | .scr ps => some (.int ps.length)
    | _ => none
  | _ => none
def intP : List P → Option P
  | [p] => match p with
    | .int i => some (.int i)
    | .bl b => some (.int (if b then 1 else 0))
    | _ => none
  | _ => none
def absP : List P → Option P
  | [p] => match p with
    | .int i => some (.int (if i < 0 then -i else i))
    | _ => none
  | _ => none
/-- the intsP of a list, a tuple -/
def intsOf (p : P) : Option (List Int) := (seqOf p).bind intsP
def sumP : List P → Option P
  | [p] => match intsOf p with
    | some is => some (.int is.sum)
    | none => none
  | _ => none
def lstI : P → Option (List Int)
  | .lst ps => intsP ps
  | _ => none
def minL : List Int → Option Int
  | [] => none
  | [i] => some i
  | i :: is => (minL is).map fun j => if i ≤ j then i else j
def maxL : List Int → Option Int
  | [] => none
  | [i] => some i
  | i :: is => (maxL is).map fun j => if j ≤ i then i else j
def minP : List P → Option P
  | [p] => ((lstI p).bind minL).map .int
  | [p, q] => match p, q with
    | .int i, .int j => some (.int (if j < i then j else i))
    | _, _ => none
  | _ => none
def maxP : List P → Option P
  | [p] => ((lstI p).bind maxL).map .int
  | [p, q] => match p, q with
    | .int i, .int j => some (.int (if j > i then j else i))
    | _, _ => none
  | _ => none
def srtI (p : P) : Option (List Int) := match p with
  | .set ps => (intsP ps).bind fun is => if is.length < 64 then some is else none
  | .lst ps => (intsP ps).bind fun is => if is.length ≤ LIM then some is else none
  | .tup ps => (intsP ps).bind fun is => if is.length ≤ LIM then some is else none
  | _ => none
def sortedP : List P → Option P
  | [p] => (srtI p).map fun is => .lst ((srtP is).map .int)
  | _ => none
def dedI : List Int → List Int
  | [] => []
  | i :: is => i :: (dedI is).filter fun j => j != i
def setP : List P → Option P
  | [p] => (intsOf p).bind fun is => if is.length ≤ 4000 then some (.set ((dedI is).map .int)) else none
  | _ => none
def allP : List P → Option P
  | [p] => match p with
    | .lst ps => (boolsP ps).map fun bs => .bl (bs.all id)
    | _ => none
  | _ => none
def anyP : List P → Option P
  | [p] => match p with
    | .lst ps => (boolsP ps).map fun bs => .bl (bs.any id)
    | _ => none
  | _ => none
def boolP : List P → Option P
  | [p] => match p with
    | .bl b => some (.bl b)
    | .int i => some (.bl (i != 0))
    | _ => none
  | _ => none
def tupleP : List P → Option P
  | [p] => (seqOf p).map .tup
  | _ => none
def listP : List P → Option P
  | [p] => (seqOf p).map .lst
  | _ => none
def bltP : Bf → List P → Option P
  | .len => lenP
  | .int => intP
  | .abs => absP
  | .sum => sumP
  | .min => minP
  | .max => maxP
  | .sorted => sortedP
  | .set => setP
  | .all => allP
  | .any => anyP
  | .bool => boolP
  | .tuple => tupleP
  | .list => listP
  | .str => fun _ => none

/-! ### the evaluator -/
abbrev Cb := Nat → List U → Hm → R U
/-- a list is made: data, or (m) an object that may change -/
def mk (m : Bool) (q : P) (M : Hm) : R U := match m, q with
  | false, q => .ok (.p q) M
  | true, .lst ps => .ok (.ref M.length) (M ++ [.lst ps])
  | true, _ => .no
def put (t : Tg) (x : P) (ρ : Rho) : Option Rho := match t with
  | .nm i => if i < ρ.length then some (ρ.set i (some (.p x))) else none
  | .tp ts => match x with
    | .tup ps => puts ts ps ρ
    | _ => none
where
  puts : List Tg → List P → Rho → Option Rho
    | [], [], ρ => some ρ
    | t :: ts, p :: ps, ρ => (put t p ρ).bind (puts ts ps)
    | _, _, _ => none
def wip (ρ : Rho) : List Nat → Rho
  | [] => ρ
  | v :: vs => (wip ρ vs).set v none
/-- the turns of a comprehension -/
def cmpL (step : P → Hm → R (Option P)) : List P → List P → Hm → R (List P)
  | [], acc, M => .ok acc M
  | q :: qs, acc, M => match step q M with
    | .ok none M' => cmpL step qs acc M'
    | .ok (some y) M' => cmpL step qs (acc ++ [y]) M'
    | _ => .no
/-- .. of the first of two clauses -/
def cmpO (inner : P → List P → Hm → R (List P)) : List P → List P → Hm → R (List P)
  | [], acc, M => .ok acc M
  | q :: qs, acc, M => match inner q acc M with
    | .ok acc' M' => cmpO inner qs acc' M'
    | _ => .no

/-- a call with plain data: the callee sees none of our objects, and leaves none -/
def callD (us : List U) (r : R U) (M : Hm) : R U := match asPs us with
  | none => .no
  | some _ => match r with
    | .ok (.p x) _ => .ok (.p x) M
    | .ex c _ => .ex c M
    | _ => .no
section
variable (cb : Cb) (CN : Nat → Option P)
mutual
def evE : CE → Rho → Hm → R U
  | .var i, ρ, M => match ρ[i]? with
    | some (some u) => .ok u M
    | _ => .no
  | .cst p, _, M => .ok (.p p) M
  | .con c, _, M => R.of ((CN c).map .p) M
  | .glb g, _, M => .ok (.p (.glb g)) M
  | .tup es, ρ, M => (evU es ρ M).bind fun us M => (R.of (asPs us) M).bind fun ps M => .ok (.p (.tup ps)) M
  | .lst m es, ρ, M => (evU es ρ M).bind fun us M => (R.of (asPs us) M).bind fun ps M => mk m (.lst ps) M
  | .bin m op a b, ρ, M => (evE a ρ M).bind fun x M => (evE b ρ M).bind fun y M => match rd M x, rd M y with
    | some p, some q => (R.of (binP op p q) M).bind (mk m)
    | _, _ => .no
  | .neg a, ρ, M => (evE a ρ M).bind fun x M => match x with
    | .p (.int i) => .ok (.p (.int (-i))) M
    | _ => .no
  | .cmp op a b, ρ, M => (evE a ρ M).bind fun x M => (evE b ρ M).bind fun y M => match rd M x, rd M y with
    | some p, some q => (R.of (cmpP op p q) M).bind fun c M => .ok (.p (.bl c)) M
    | _, _ => .no
  | .cmp2 op op' a b c, ρ, M => (evE a ρ M).bind fun x M => (evE b ρ M).bind fun y M => match rd M x, rd M y with
    | some p, some q => (R.of (cmpP op p q) M).bind fun k M => if k then (evE c ρ M).bind fun z M => (match rd M y, rd M z with
        | some q, some r => (R.of (cmpP op' q r) M).bind fun k M => .ok (.p (.bl k)) M
        | _, _ => .no) else .ok (.p (.bl false)) M
    | _, _ => .no
  | .and a b, ρ, M => (evE a ρ M).bind fun x M => match (rd M x).bind truP with
    | some true => evE b ρ M
    | some false => .ok x M
    | none => .no
  | .or a b, ρ, M => (evE a ρ M).bind fun x M => match (rd M x).bind truP with
    | some true => .ok x M
    | some false => evE b ρ M
    | none => .no
  | .not a, ρ, M => (evE a ρ M).bind fun x M => match (rd M x).bind truP with
    | some k => .ok (.p (.bl (!k))) M
    | none => .no
  | .ife c a b, ρ, M => (evE c ρ M).bind fun x M => match (rd M x).bind truP with
    | some true => evE a ρ M
    | some false => evE b ρ M
    | none => .no
  | .call m g es, ρ, M => (evU es ρ M).bind fun us M => if m then cb g us M else callD us (cb g us []) M
  | .blt m f es, ρ, M => (evU es ρ M).bind fun us M => (R.of (rdAll M us) M).bind fun ps M => (R.of (bltP f ps) M).bind (mk m)
  | .isi e t, ρ, M => (evE e ρ M).bind fun x M => (R.of (isiU M t x) M).bind fun b M => .ok (.p (.bl b)) M
  | .idx o i, ρ, M => (evE o ρ M).bind fun x M => (evE i ρ M).bind fun y M => match (rd M x).bind itsOf, y with
    | some ps, .p (.int i) => (R.of (atP ps i) M).bind fun q M => .ok (.p q) M
    | _, _ => .no
  | .slc o lo hi, ρ, M => (evE o ρ M).bind fun x M => (evO lo ρ M).bind fun a M => (evO hi ρ M).bind fun b M => match rd M x with
    | some (.tup ps) => .ok (.p (.tup (cutP ps a b))) M
    | some (.lst ps) => .ok (.p (.lst (cutP ps a b))) M
    | _ => .no
  | .rev o, ρ, M => (evE o ρ M).bind fun x M => match rd M x with
    | some (.lst ps) => .ok (.p (.lst ps.reverse)) M
    | some (.tup ps) => .ok (.p (.tup ps.reverse)) M
    | _ => .no
  | .ofr t m lo hi, ρ, M => (evO lo ρ M).bind fun a M => (evE hi ρ M).bind fun y M => match y with
    | .p (.int j) => let i := a.getD 0
      if decide (-1000000000 ≤ i) && decide (i ≤ 1000000000) && decide (-1000000000 ≤ j) && decide (j ≤ 1000000000) && decide ((j - i).toNat ≤ LIM) then
        (if t then .ok (.p (.tup (rngP i j))) M else mk m (.lst (rngP i j)) M) else .no
    | _ => .no
  | .comp m elt tg it ifs own, ρ, M => (evI it ρ M).bind fun qs M =>
    if qs.length ≤ LIM then
      (cmpL (fun q M => match put tg q (wip ρ own) with
        | some ρ' => ((match ifs with
          | none => R.ok true M
          | some c => (evE c ρ' M).bind fun x M => R.of ((rd M x).bind truP) M) : R Bool).bind fun k M =>
            if k then (evE elt ρ' M).bind fun y M => (match y with
              | .p z => .ok (some z) M
              | _ => .no) else .ok none M
        | none => .no) qs [] M).bind fun ys M => mk m (.lst ys) M
    else .no
  | .comp2 m elt tg it tg1 it1 ifs own own1, ρ, M => (evI it ρ M).bind fun qs M =>
    if qs.length ≤ LIM then
      (cmpO (fun q acc M => match put tg q (wip ρ own) with
        | some ρ0 => (match evI it1 ρ0 M with
          | .ok qs1 M => if acc.length + qs1.length ≤ LIM then cmpL (fun q M => match put tg1 q (wip ρ0 own1) with
            | some ρ' => ((match ifs with
              | none => R.ok true M
              | some c => (evE c ρ' M).bind fun x M => R.of ((rd M x).bind truP) M) : R Bool).bind fun k M =>
                if k then (evE elt ρ' M).bind fun y M => (match y with
                  | .p z => .ok (some z) M
                  | _ => .no) else .ok none M
            | none => .no) qs1 acc M else .no
          | _ => .no)
        | none => .no) qs [] M).bind fun ys M => mk m (.lst ys) M
    else .no
  | .frz e, ρ, M => (evE e ρ M).bind fun x M => match x with
    | .ref i => (match M[i]? with
      | some (.lst ps) => .ok (.p (.lst ps)) (M.set i .dead)
      | some (.dct ks vs) => .ok (.p (.dct ks vs)) (M.set i .dead)
      | _ => .no)
    | _ => .no
/-- arguments, as they are -/
def evU : List CE → Rho → Hm → R (List U)
  | [], _, M => .ok [] M
  | e :: es, ρ, M => (evE e ρ M).bind fun u M => (evU es ρ M).bind fun us M => .ok (u :: us) M
def evO : Option CE → Rho → Hm → R (Option Int)
  | none, _, M => .ok none M
  | some e, ρ, M => (evE e ρ M).bind fun u M => match u with
    | .p (.int i) => .ok (some i) M
    | _ => .no
/-- what a loop walks: data -/
def evI : It → Rho → Hm → R (List P)
  | .seq e, ρ, M => (evE e ρ M).bind fun u M => match u with
    | .p x => R.of (seqOf x) M
    | _ => .no
  | .rng lo hi, ρ, M => (evO lo ρ M).bind fun a M => (evE hi ρ M).bind fun y M => match y with
    | .p (.int j) => let i := a.getD 0
      if decide (-1000000000 ≤ i) && decide (i ≤ 1000000000) && decide (-1000000000 ≤ j) && decide (j ≤ 1000000000) then .ok (rngP i j) M else .no
    | _ => .no
  | .enum e, ρ, M => (evE e ρ M).bind fun u M => match u with
    | .p (.lst ps) => .ok (ps.zipIdx.map fun x => .tup [.int x.2, x.1]) M
    | _ => .no
  | .zip a b, ρ, M => (evE a ρ M).bind fun u M => (evE b ρ M).bind fun w M => match u, w with
    | .p (.tup ps), .p (.tup qs) => .ok ((ps.zip qs).map fun x => .tup [x.1, x.2]) M
    | _, _ => .no
end
end

/-! ### statements -/
inductive RS where
  | next (ρ : Rho) (m : Hm)
  | ret (u : U) (m : Hm)
  | brk (ρ : Rho) (m : Hm)
  | cont (ρ : Rho) (m : Hm)
  | ex (c : Nat) (ρ : Rho) (m : Hm)
  | no
/-- an expression in a statement -/
def R.st {α : Type} (r : R α) (ρ : Rho) (f : α → Hm → RS) : RS := match r with
  | .ok a m => f a m
  | .ex c m => .ex c ρ m
  | .no => .no
def RS.thn (r : RS) (f : Rho → Hm → RS) : RS := match r with
  | .next ρ m => f ρ m
  | r => r
/-- a loop over items -/
def forL (put : P → Rho → Option Rho) (body : Rho → Hm → RS) : List P → Rho → Hm → RS
  | [], ρ, M => .next ρ M
  | q :: qs, ρ, M => match put q ρ with
    | none => .no
    | some ρ' => match body ρ' M with
      | .next ρ'' M' => forL put body qs ρ'' M'
      | .cont ρ'' M' => forL put body qs ρ'' M'
      | .brk ρ'' M' => .next ρ'' M'
      | r => r
/-- a while, at most so many turns -/
def whlL (test : Rho → Hm → R Bool) (body : Rho → Hm → RS) : Nat → Rho → Hm → RS
  | 0, _, _ => .no
  | n + 1, ρ, M => (test ρ M).st ρ fun k M => if k then (match body ρ M with
      | .next ρ' M' => whlL test body n ρ' M'
      | .cont ρ' M' => whlL test body n ρ' M'
      | .brk ρ' M' => .next ρ' M'
      | r => r) else .next ρ M
def putU (t : Tg) (u : U) (ρ : Rho) : Option Rho := match t, u with
  | .nm i, u => if i < ρ.length then some (ρ.set i (some u)) else none
  | t, .p x => put t x ρ
  | _, _ => none

/-- several slots at once -/
def setA (ρ : Rho) : List Nat → List U → Option Rho
  | [], [] => some ρ
  | i :: is, u :: us => if i < ρ.length then setA (ρ.set i (some u)) is us else none
  | _, _ => none
section
variable (cb : Cb) (CN : Nat → Option P) (W : Nat)
mutual
def evS : CS → Rho → Hm → RS
  | .set t e, ρ, M => (evE cb CN e ρ M).st ρ fun u M => match putU t u ρ with
    | some ρ' => .next ρ' M
    | none => .no
  | .par i j a b, ρ, M => (evE cb CN a ρ M).st ρ fun u M => (evE cb CN b ρ M).st ρ fun w M =>
    if i < ρ.length ∧ j < ρ.length then .next ((ρ.set i (some u)).set j (some w)) M else .no
  | .par3 i j k a b c, ρ, M => (evE cb CN a ρ M).st ρ fun u M => (evE cb CN b ρ M).st ρ fun w M => (evE cb CN c ρ M).st ρ fun z M =>
    if i < ρ.length ∧ j < ρ.length ∧ k < ρ.length then .next (((ρ.set i (some u)).set j (some w)).set k (some z)) M else .no
  | .parT is es, ρ, M => (evU cb CN es ρ M).st ρ fun us M => match setA ρ is us with
    | some ρ' => .next ρ' M
    | none => .no
  | .sub o i e, ρ, M => (evE cb CN e ρ M).st ρ fun u M => (evE cb CN o ρ M).st ρ fun x M => (evE cb CN i ρ M).st ρ fun y M => match u, x, y with
    | .p v, .ref a, .p (.int k) => (match M[a]? with
      | some (.lst ps) => if 0 ≤ k ∧ k < ps.length then .next ρ (M.set a (.lst (ps.set k.toNat v))) else .no
      | _ => .no)
    | _, _, _ => .no
  | .expr e, ρ, M => (evE cb CN e ρ M).st ρ fun _ M => .next ρ M
  | .app o e, ρ, M => (evE cb CN o ρ M).st ρ fun x M => match x with
    | .ref a => (match M[a]? with
      | some (.lst _) => (evE cb CN e ρ M).st ρ fun u M => (match u, M[a]? with
        | .p v, some (.lst ps) => if ps.length < LIM then .next ρ (M.set a (.lst (ps ++ [v]))) else .no
        | _, _ => .no)
      | _ => .no)
    | _ => .no
  | .ife c a b, ρ, M => (evE cb CN c ρ M).st ρ fun x M => match (rd M x).bind truP with
    | some true => evB a ρ M
    | some false => evB b ρ M
    | none => .no
  | .for_ t it body, ρ, M => (evI cb CN it ρ M).st ρ fun qs M => forL (put t) (evB body) qs ρ M
  | .whl c body, ρ, M => whlL (fun ρ M => (evE cb CN c ρ M).bind fun x M => R.of ((rd M x).bind truP) M) (evB body) W ρ M
  | .ret e, ρ, M => (evE cb CN e ρ M).st ρ fun u M => .ret u M
  | .rais c e, ρ, M => (evE cb CN e ρ M).st ρ fun _ M => .ex c ρ M
  | .brk, ρ, M => .brk ρ M
  | .cont, ρ, M => .cont ρ M
def evB : List CS → Rho → Hm → RS
  | [], ρ, M => .next ρ M
  | s :: ss, ρ, M => (evS s ρ M).thn (evB ss)
end
end

structure Fn where
  np : Nat
  ns : Nat
  keep : Bool
  body : List CS
/-- a call's end: what it made is dropped, but for a keeper -/
def finR (keep : Bool) (n : Nat) : RS → R U
  | .next _ M => .ok (.p .non) (if keep then M else M.take n)
  | .ret (.p x) M => .ok (.p x) (if keep then M else M.take n)
  | .ret (.ref i) M => if keep then .ok (.ref i) M else if i < n then .ok (.ref i) (M.take n) else .no
  | .ex c _ M => .ex c (if keep then M else M.take n)
  | _ => .no
def callN (FN : Nat → Option Fn) (CN : Nat → Option P) (W : Nat) : Nat → Cb
  | 0, _, _, _ => .no
  | n + 1, g, us, M => match FN g with
    | some f => if us.length = f.np then finR f.keep M.length (evB (callN FN CN W n) CN W f.body (us.map some ++ List.replicate (f.ns - f.np) none) M) else .no
    | none => .no
/-- the module's constants: name, value -/
def cnOf (cons : List (Str × P)) (i : Nat) : Option P := (cons[i]?).map (·.2)
end Ip

set_option Elab.async false
set_option linter.all false
/-! IpLoop: loops and comprehensions of the evaluator, by what a turn does. -/
namespace Ip
theorem cmpL_map {step : P → Hm → R (Option P)} {f : P → Option P} {M : Hm} : ∀ {qs acc : List P}, (∀ q ∈ qs, step q M = .ok (f q) M) → cmpL step qs acc M = .ok (acc ++ qs.filterMap f) M
  | [], acc, _ => by simp [cmpL]
  | q :: qs, acc, h => by
    have h1 := h q List.mem_cons_self
    have ih : ∀ acc, cmpL step qs acc M = .ok (acc ++ qs.filterMap f) M := fun acc => cmpL_map fun p hp => h p (List.mem_cons_of_mem _ hp)
    rw [cmpL, h1]
    cases e : f q with
    | none =>
      show cmpL step qs acc M = _
      rw [ih, List.filterMap_cons_none e]
    | some y =>
      show cmpL step qs (acc ++ [y]) M = _
      rw [ih, List.filterMap_cons_some e]
      simp
/-- .. every item stays -/
theorem cmpL_all {step : P → Hm → R (Option P)} {f : P → P} {M : Hm} {qs : List P} (h : ∀ q ∈ qs, step q M = .ok (some (f q)) M) : cmpL step qs [] M = .ok (qs.map f) M := by
  rw [cmpL_map (f := fun q => some (f q)) h, List.nil_append, List.filterMap_eq_map']
theorem cmpO_map {inner : P → List P → Hm → R (List P)} {g : P → List P} {M : Hm} : ∀ {qs acc : List P}, (∀ q ∈ qs, ∀ acc, inner q acc M = .ok (acc ++ g q) M) → cmpO inner qs acc M = .ok (acc ++ (qs.map g).flatten) M
  | [], acc, _ => by simp [cmpO]
  | q :: qs, acc, h => by
    rw [cmpO, h q List.mem_cons_self acc]
    show cmpO inner qs (acc ++ g q) M = _
    rw [cmpO_map fun p hp => h p (List.mem_cons_of_mem _ hp)]
    simp
/-- a for whose body never leaves -/
theorem forL_inv {pt : P → Rho → Option Rho} {body : Rho → Hm → RS} (Inv : Nat → Rho → Hm → Prop) : ∀ (qs : List P) (n : Nat) (ρ : Rho) (M : Hm), (∀ i q ρ M, qs[i]? = some q → Inv (n + i) ρ M → ∃ ρ1 ρ2 M2, pt q ρ = some ρ1 ∧ (body ρ1 M = .next ρ2 M2 ∨ body ρ1 M = .cont ρ2 M2) ∧ Inv (n + i + 1) ρ2 M2) → Inv n ρ M →
    ∃ ρ' M', forL pt body qs ρ M = .next ρ' M' ∧ Inv (n + qs.length) ρ' M'
  | [], n, ρ, M, _, h => ⟨ρ, M, by rw [forL], h⟩
  | q :: qs, n, ρ, M, hs, h => by
    obtain ⟨ρ1, ρ2, M2, e1, e2, h2⟩ := hs 0 q ρ M rfl h
    obtain ⟨ρ', M', e3, h3⟩ := forL_inv Inv qs (n + 1) ρ2 M2 (fun i q ρ M hq hi => by
      have := hs (i + 1) q ρ M (by simpa using hq) (by rw [show n + (i + 1) = n + 1 + i by omega]; exact hi)
      rw [show n + (i + 1) + 1 = n + 1 + i + 1 by omega] at this
      exact this) h2
    refine ⟨ρ', M', ?_, by rw [List.length_cons, show n + (qs.length + 1) = n + 1 + qs.length by omega]; exact h3⟩
    rw [forL, e1]
    rcases e2 with e2 | e2 <;> (simp only [e2]; exact e3)
/-- a while, by a measure -/
theorem whlL_inv {test : Rho → Hm → R Bool} {body : Rho → Hm → RS} (Inv : Nat → Rho → Hm → Prop) (Fin : Rho → Hm → Prop)
    (hs : ∀ m ρ M, Inv m ρ M → (test ρ M = .ok false M ∧ Fin ρ M) ∨ (test ρ M = .ok true M ∧ ∃ m' ρ' M', m = m' + 1 ∧ body ρ M = .next ρ' M' ∧ Inv m' ρ' M')) : ∀ (W m : Nat) (ρ : Rho) (M : Hm), m < W → Inv m ρ M → ∃ ρ' M', whlL test body W ρ M = .next ρ' M' ∧ Fin ρ' M'
  | 0, m, _, _, h, _ => absurd h (Nat.not_lt_zero m)
  | W + 1, m, ρ, M, hW, h => by
    rw [whlL]
    rcases hs m ρ M h with ⟨e, f⟩ | ⟨e, m', ρ', M', em, eb, h'⟩
    · rw [e]
      exact ⟨ρ, M, rfl, f⟩
    · rw [e]
      simp only [R.st, if_true, eb]
      exact whlL_inv Inv Fin hs W m' ρ' M' (by omega) h'
section
variable (cb : Cb) (CN : Nat → Option P)
def evT (ce : CE) (ρ : Rho) (M : Hm) : R Bool := (evE cb CN ce ρ M).bind fun x M => R.of ((rd M x).bind truP) M
def testC (ifs : Option CE) (ρ : Rho) (M : Hm) : R Bool := match ifs with
  | none => .ok true M
  | some c => evT cb CN c ρ M
def valC (elt : CE) (ρ : Rho) (k : Bool) (M : Hm) : R (Option P) := if k then (evE cb CN elt ρ M).bind fun y M => (match y with
  | .p z => .ok (some z) M
  | _ => .no) else .ok none M
/-- one turn -/
def stepC (elt : CE) (t : Tg) (ifs : Option CE) (own : List Nat) (ρ : Rho) : P → Hm → R (Option P) := fun q M => match put t q (wip ρ own) with
  | some ρ' => (testC cb CN ifs ρ' M).bind (valC cb CN elt ρ')
  | none => .no
end
/-- two clauses -/
def innerC (cb : Cb) (CN : Nat → Option P) (celt : CE) (t : Tg) (t1 : Tg) (it1 : It) (cifs : Option CE) (vs vs1 : List Nat) (ρ : Rho) : P → List P → Hm → R (List P) := fun q acc M => match put t q (wip ρ vs) with
  | some ρ0 => (match evI cb CN it1 ρ0 M with
    | .ok qs1 M => if acc.length + qs1.length ≤ LIM then cmpL (stepC cb CN celt t1 cifs vs1 ρ0) qs1 acc M else .no
    | _ => .no)
  | none => .no
section
variable {cb : Cb} {CN : Nat → Option P}
theorem comp_eq {m : Bool} {elt : CE} {t : Tg} {it : It} {ifs : Option CE} {own : List Nat} {ρ : Rho} {M : Hm} : evE cb CN (.comp m elt t it ifs own) ρ M = (evI cb CN it ρ M).bind fun qs M => if qs.length ≤ LIM then (cmpL (stepC cb CN elt t ifs own ρ) qs [] M).bind fun ys M => mk m (.lst ys) M else .no := by
  rw [evE]
  refine congrArg _ (funext fun qs => funext fun M => ?_)
  cases ifs <;> rfl
theorem comp2_eq {m : Bool} {elt : CE} {t t1 : Tg} {it it1 : It} {ifs : Option CE} {own own1 : List Nat} {ρ : Rho} {M : Hm} : evE cb CN (.comp2 m elt t it t1 it1 ifs own own1) ρ M = (evI cb CN it ρ M).bind fun qs M => if qs.length ≤ LIM then (cmpO (innerC cb CN elt t t1 it1 ifs own own1 ρ) qs [] M).bind fun ys M => mk m (.lst ys) M else .no := by
  rw [evE]
  refine congrArg _ (funext fun qs => funext fun M => ?_)
  cases ifs <;> rfl
end
theorem cmpL_cons {step : P → Hm → R (Option P)} {q : P} {qs acc : List P} {M : Hm} : cmpL step (q :: qs) acc M = match step q M with
    | .ok o M' => cmpL step qs (acc ++ o.toList) M'
    | _ => .no := by
  rw [cmpL]
  cases step q M with
  | ok o M' =>
    cases o with
    | none => simp
    | some y => simp
  | ex c M' => rfl
  | no => rfl
theorem cmpO_cons {inner : P → List P → Hm → R (List P)} {q : P} {qs acc : List P} {M : Hm} : cmpO inner (q :: qs) acc M = match inner q acc M with
    | .ok acc' M' => cmpO inner qs acc' M'
    | _ => .no := by
  first
    | (rw [cmpO]; done)
    | (rw [cmpO]; cases inner q acc M <;> rfl)
theorem insP_perm (i : Int) : ∀ is : List Int, (insP i is).Perm (i :: is)
  | [] => .refl _
  | j :: js => by
    unfold insP
    split
    · exact .refl _
    · exact ((insP_perm i js).cons j).trans (.swap i j js)
theorem srtP_perm : ∀ is : List Int, (srtP is).Perm is
  | [] => .refl _
  | i :: is => (insP_perm i (srtP is)).trans ((srtP_perm is).cons i)
theorem insP_sorted (i : Int) : ∀ is : List Int, is.Pairwise (· ≤ ·) → (insP i is).Pairwise (· ≤ ·)
  | [], _ => List.pairwise_singleton _ _
  | j :: js, h => by
    obtain ⟨h1, h2⟩ := List.pairwise_cons.mp h
    unfold insP
    split
    · rename_i hij
      refine List.pairwise_cons.mpr ⟨fun x hx => ?_, h⟩
      rcases List.mem_cons.mp hx with rfl | hx
      · exact hij
      · exact Int.le_trans hij (h1 x hx)
    · rename_i hij
      refine List.pairwise_cons.mpr ⟨fun x hx => ?_, insP_sorted i js h2⟩
      rcases List.mem_cons.mp ((insP_perm i js).mem_iff.mp hx) with rfl | hx
      · omega
      · exact h1 x hx
theorem srtP_sorted : ∀ is : List Int, (srtP is).Pairwise (· ≤ ·)
  | [] => .nil
  | i :: is => insP_sorted i _ (srtP_sorted is)
theorem sorted_one {a b : List Int} (h : a.Perm b) (ha : a.Pairwise (· ≤ ·)) (hb : b.Pairwise (· ≤ ·)) : a = b :=
  h.eq_of_pairwise (fun x y _ _ h1 h2 => Int.le_antisymm h1 h2) ha hb
theorem srtP_eq {a is : List Int} (h : a.Perm is) (ha : a.Pairwise (· ≤ ·)) : a = srtP is := sorted_one (h.trans (srtP_perm is).symm) ha (srtP_sorted is)
theorem srtP_length (is : List Int) : (srtP is).length = is.length := (srtP_perm is).length_eq
theorem dedI_mem : ∀ (l : List Int) (x : Int), x ∈ dedI l ↔ x ∈ l
  | [], x => by simp [dedI]
  | a :: l, x => by
    have ih := dedI_mem l x
    simp only [dedI, List.mem_cons, List.mem_filter, ih, bne_iff_ne]
    by_cases h : x = a <;> simp [h]
theorem dedI_nodup : ∀ l : List Int, (dedI l).Nodup
  | [] => .nil
  | a :: l => by
    unfold dedI
    refine List.nodup_cons.mpr ⟨by simp, (dedI_nodup l).filter _⟩
theorem dedI_len : ∀ l : List Int, (dedI l).length ≤ l.length
  | [] => Nat.le_refl _
  | a :: l => by
    have h1 := dedI_len l
    have h2 := List.length_filter_le (fun j => j != a) (dedI l)
    simp only [dedI, List.length_cons]
    omega
theorem srtP_mem (is : List Int) (x : Int) : x ∈ srtP is ↔ x ∈ is := (srtP_perm is).mem_iff
end Ip

set_option Elab.async false
set_option linter.all false
set_option maxRecDepth 100000
set_option maxHeartbeats 2000000
/-! IpRel: what stands for a piece of data in the abstract heap; how heaps go on. -/
namespace Ip
open PySem PySem.Spec PyProof.Rows L2

/-- where the objects that may change stand (none: no more) -/
abbrev Io := List (Option Addr)
/-- a list that nobody changes -/
def SqS (K : PySem.W.Frag) (H : Hp) (a : Addr) (xs : List V) : Prop := (∃ o, H a = some (.frz o (.lst xs))) ∨
  ∃ (o : Obj) (its : Array Value) (n : Nat), K.lookup a = some o ∧ o.cls = .type "list" ∧ o.dict = none ∧ o.data = .seq its n ∧ its.size ≤ sizeLine ∧ Vals xs its.toList
theorem SqS.sq {K : PySem.W.Frag} {H : Hp} {a : Addr} {xs : List V} (h : SqS K H a xs) : SqL K H a xs := h.elim (fun ⟨o, h⟩ => .inl (.inr ⟨o, h⟩)) .inr
theorem SqS.to {K : PySem.W.Frag} {H H' : Hp} {a : Addr} {xs : List V} (h : SqS K H a xs) (hf : ∀ o u, H a = some (.frz o u) → H' a = some (.frz o u)) : SqS K H' a xs := h.elim (fun ⟨o, h⟩ => .inl ⟨o, hf o _ h⟩) .inr
section
variable (w : World) (mg : Str → Option Value) (nm : Nat → Str) (K : PySem.W.Frag)
mutual
inductive Rp (H : Hp) (L : Addr → Prop) : V → P → Prop
  | non : Rp H L .non .non
  | bl (b : Bool) : Rp H L (.bl b) (.bl b)
  | int (i : Int) : Rp H L (.int i) (.int i)
  | str (x : Str) : Rp H L (.str x) (.str x)
  | tup {a : Addr} {xs : List V} {ps : List P} : SqT K H a xs → Rps H L xs ps → Rp H L (.ref a) (.tup ps)
  | lst {a : Addr} {xs : List V} {ps : List P} : H a = some (.lst xs) → ¬ L a → Rps H L xs ps → Rp H L (.ref a) (.lst ps)
  | scr {a : Addr} {xs : List V} {ps : List P} : SqS K H a xs → Rps H L xs ps → Rp H L (.ref a) (.scr ps)
  | set {a : Addr} {ns : List Int} {ps : List P} : H a = some (SetO w a (fun k => decide (k ∈ ns)) ns.length) → ¬ L a → ps = ns.map .int → ns.Nodup → Rp H L (.ref a) (.set ps)
  | glb {a : Addr} {g : Nat} : mg (nm g) = some (.ref a) → Rp H L (.ref a) (.glb g)
inductive Rps (H : Hp) (L : Addr → Prop) : List V → List P → Prop
  | nil : Rps H L [] []
  | cons {v : V} {vs : List V} {p : P} {ps : List P} : Rp H L v p → Rps H L vs ps → Rps H L (v :: vs) (p :: ps)
end
end

/-- what is to be kept from one heap to a later one -/
structure Ev (H : Hp) (ι : Io) (H' : Hp) (ι' : Io) : Prop where
  kp : ∀ a o, H a = some o → some a ∉ ι → H' a = some o ∧ some a ∉ ι'
  tp : ∀ a xs, H a = some (.tup xs) → H' a = some (.tup xs)
  fz : ∀ a o u, H a = some (.frz o u) → H' a = some (.frz o u)
  ic : ∀ i, i < ι.length → i < ι'.length ∧ (ι'[i]? = ι[i]? ∨ ι'[i]? = some none)
theorem Ev.refl {H : Hp} {ι : Io} : Ev H ι H ι := ⟨fun _ _ h n => ⟨h, n⟩, fun _ _ h => h, fun _ _ _ h => h, fun _ h => ⟨h, .inl rfl⟩⟩
theorem Ev.trans {H H1 H2 : Hp} {ι ι1 ι2 : Io} (a : Ev H ι H1 ι1) (b : Ev H1 ι1 H2 ι2) : Ev H ι H2 ι2 := by
  refine ⟨fun c o h n => ?_, fun c xs h => b.tp c xs (a.tp c xs h), fun c o u h => b.fz c o u (a.fz c o u h), fun i hi => ?_⟩
  · obtain ⟨h1, n1⟩ := a.kp c o h n
    exact b.kp c o h1 n1
  · obtain ⟨h1, e1⟩ := a.ic i hi
    obtain ⟨h2, e2⟩ := b.ic i h1
    refine ⟨h2, ?_⟩
    rcases e2 with e2 | e2
    · rcases e1 with e1 | e1
      · exact .inl (e2.trans e1)
      · exact .inr (e2.trans e1)
    · exact .inr e2
theorem Ev.rd {H H' : Hp} {ι ι' : Io} (e : Ev H ι H' ι') {a : Addr} {o : HO} (n : some a ∉ ι) (h : Rd H a o) : Rd H' a o ∧ some a ∉ ι' := by
  rcases h with h | ⟨u, h⟩
  · obtain ⟨h1, h2⟩ := e.kp a o h n
    exact ⟨.inl h1, h2⟩
  · obtain ⟨h1, h2⟩ := e.kp a _ h n
    exact ⟨.inr ⟨u, h1⟩, h2⟩
theorem Ev.sqT {H H' : Hp} {ι ι' : Io} (e : Ev H ι H' ι') {K : PySem.W.Frag} {a : Addr} {xs : List V} (h : SqT K H a xs) : SqT K H' a xs := by
  rcases h with (h | ⟨u, h⟩) | h
  · exact .inl (.inl (e.tp a xs h))
  · exact .inl (.inr ⟨u, e.fz a u _ h⟩)
  · exact .inr h
def Lv (ι : Io) (Z : Addr → Prop) : Addr → Prop := fun a => some a ∈ ι ∨ Z a
section
variable {w : World} {mg : Str → Option Value} {nm : Nat → Str} {K : PySem.W.Frag} {H H' : Hp} {ι ι' : Io} {Z : Addr → Prop}
mutual
theorem Rp.ev (e : Ev H ι H' ι') : ∀ (p : P) (v : V), Rp w mg nm K H (Lv ι Z) v p → Rp w mg nm K H' (Lv ι' Z) v p
  | .non, _, h => by cases h; exact .non
  | .bl _, _, h => by cases h; exact .bl _
  | .int _, _, h => by cases h; exact .int _
  | .str _, _, h => by cases h; exact .str _
  | .tup ps, _, h => by
    cases h with
    | tup h1 h2 => exact .tup (e.sqT h1) (Rps.ev e ps _ h2)
  | .lst ps, _, h => by
    cases h with
    | lst h1 h2 h3 =>
      obtain ⟨h4, h5⟩ := e.kp _ _ h1 (fun z => h2 (.inl z))
      exact .lst h4 (fun z => z.elim h5 fun z => h2 (.inr z)) (Rps.ev e ps _ h3)
  | .set ps, _, h => by
    cases h with
    | set h1 h2 h3 h4 =>
      obtain ⟨h5, h6⟩ := e.kp _ _ h1 (fun z => h2 (.inl z))
      exact .set h5 (fun z => z.elim h6 fun z => h2 (.inr z)) h3 h4
  | .dct _ _, _, h => by cases h
  | .scr ps, _, h => by
    cases h with
    | scr h1 h2 => exact .scr (h1.to fun _ _ h => e.fz _ _ _ h) (Rps.ev e ps _ h2)
  | .glb _, _, h => by
    cases h with
    | glb h => exact .glb h
theorem Rps.ev (e : Ev H ι H' ι') : ∀ (ps : List P) (vs : List V), Rps w mg nm K H (Lv ι Z) vs ps → Rps w mg nm K H' (Lv ι' Z) vs ps
  | [], _, h => by cases h; exact .nil
  | p :: ps, _, h => by
    cases h with
    | cons h1 h2 => exact .cons (Rp.ev e p _ h1) (Rps.ev e ps _ h2)
end
mutual
/-- a change at an address that is meant by no list, tuple, set of the data -/
theorem Rp.to {L L' : Addr → Prop} (ht : ∀ a xs, SqT K H a xs → SqT K H' a xs) (hl : ∀ a xs, ¬ L a → H a = some (.lst xs) → H' a = some (.lst xs) ∧ ¬ L' a) (hf : ∀ a o u, H a = some (.frz o u) → H' a = some (.frz o u)) (hs : ∀ a φ, ¬ L a → H a = some (.ext φ) → H' a = some (.ext φ) ∧ ¬ L' a) :
    ∀ (p : P) (v : V), Rp w mg nm K H L v p → Rp w mg nm K H' L' v p
  | .non, _, h => by cases h; exact .non
  | .bl _, _, h => by cases h; exact .bl _
  | .int _, _, h => by cases h; exact .int _
  | .str _, _, h => by cases h; exact .str _
  | .tup ps, _, h => by
    cases h with
    | tup h1 h2 => exact .tup (ht _ _ h1) (Rps.to ht hl hf hs ps _ h2)
  | .lst ps, _, h => by
    cases h with
    | lst h1 h2 h3 =>
      obtain ⟨h4, h5⟩ := hl _ _ h2 h1
      exact .lst h4 h5 (Rps.to ht hl hf hs ps _ h3)
  | .set ps, _, h => by
    cases h with
    | set h1 h2 h3 h4 =>
      obtain ⟨h5, h6⟩ := hs _ _ h2 h1
      exact .set h5 h6 h3 h4
  | .dct _ _, _, h => by cases h
  | .scr ps, _, h => by
    cases h with
    | scr h1 h2 => exact .scr (h1.to fun _ _ h => hf _ _ _ h) (Rps.to ht hl hf hs ps _ h2)
  | .glb _, _, h => by
    cases h with
    | glb h => exact .glb h
theorem Rps.to {L L' : Addr → Prop} (ht : ∀ a xs, SqT K H a xs → SqT K H' a xs) (hl : ∀ a xs, ¬ L a → H a = some (.lst xs) → H' a = some (.lst xs) ∧ ¬ L' a) (hf : ∀ a o u, H a = some (.frz o u) → H' a = some (.frz o u)) (hs : ∀ a φ, ¬ L a → H a = some (.ext φ) → H' a = some (.ext φ) ∧ ¬ L' a) :
    ∀ (ps : List P) (vs : List V), Rps w mg nm K H L vs ps → Rps w mg nm K H' L' vs ps
  | [], _, h => by cases h; exact .nil
  | p :: ps, _, h => by
    cases h with
    | cons h1 h2 => exact .cons (Rp.to ht hl hf hs p _ h1) (Rps.to ht hl hf hs ps _ h2)
end
theorem Rps.get {L : Addr → Prop} : ∀ {vs : List V} {ps : List P} {i : Nat} {p : P}, Rps w mg nm K H L vs ps → ps[i]? = some p → ∃ v, vs[i]? = some v ∧ Rp w mg nm K H L v p
  | _, _, i, _, .nil, e => by simp at e
  | _, _, 0, _, .cons r _, e => by simp at e; subst e; exact ⟨_, rfl, r⟩
  | _, _, i + 1, p, .cons _ t, e => by
    obtain ⟨v, h1, h2⟩ := Rps.get (i := i) (p := p) t (by simpa using e)
    exact ⟨v, by simpa using h1, h2⟩
theorem Rps.length {L : Addr → Prop} : ∀ {vs : List V} {ps : List P}, Rps w mg nm K H L vs ps → vs.length = ps.length
  | _, _, .nil => rfl
  | _, _, .cons _ t => by simp [Rps.length t]
theorem Rps.append {L : Addr → Prop} : ∀ {vs us : List V} {ps qs : List P}, Rps w mg nm K H L vs ps → Rps w mg nm K H L us qs → Rps w mg nm K H L (vs ++ us) (ps ++ qs)
  | _, _, _, _, .nil, s => s
  | _, _, _, _, .cons r t, s => .cons r (Rps.append t s)
theorem Rps.set {L : Addr → Prop} {v : V} {p : P} (r : Rp w mg nm K H L v p) : ∀ {vs : List V} {ps : List P} (i : Nat), Rps w mg nm K H L vs ps → Rps w mg nm K H L (vs.set i v) (ps.set i p)
  | _, _, _, .nil => .nil
  | _, _, 0, .cons _ t => .cons r t
  | _, _, i + 1, .cons q t => .cons q (Rps.set r i t)
theorem Rps.take {L : Addr → Prop} : ∀ {vs : List V} {ps : List P} (n : Nat), Rps w mg nm K H L vs ps → Rps w mg nm K H L (vs.take n) (ps.take n)
  | _, _, 0, _ => .nil
  | _, _, _ + 1, .nil => .nil
  | _, _, n + 1, .cons r t => .cons r (Rps.take n t)
theorem Rps.drop {L : Addr → Prop} : ∀ {vs : List V} {ps : List P} (n : Nat), Rps w mg nm K H L vs ps → Rps w mg nm K H L (vs.drop n) (ps.drop n)
  | _, _, 0, r => r
  | _, _, _ + 1, .nil => .nil
  | _, _, n + 1, .cons _ t => Rps.drop n t
theorem Rps.snoc {L : Addr → Prop} {vs : List V} {ps : List P} {v : V} {p : P} (a : Rps w mg nm K H L vs ps) (b : Rp w mg nm K H L v p) : Rps w mg nm K H L (vs ++ [v]) (ps ++ [p]) := a.append (.cons b .nil)
theorem Rps.reverse {L : Addr → Prop} : ∀ {vs : List V} {ps : List P}, Rps w mg nm K H L vs ps → Rps w mg nm K H L vs.reverse ps.reverse
  | _, _, .nil => .nil
  | _, _, .cons r t => by rw [List.reverse_cons, List.reverse_cons]; exact (Rps.reverse t).snoc r
theorem Rps.flat {L : Addr → Prop} {vs : List V} {ps : List P} (a : Rps w mg nm K H L vs ps) : ∀ n : Nat, Rps w mg nm K H L (List.replicate n vs).flatten (List.replicate n ps).flatten
  | 0 => .nil
  | n + 1 => by rw [List.replicate_succ, List.replicate_succ, List.flatten_cons, List.flatten_cons]; exact a.append (Rps.flat a n)

/-! ### the objects that may change -/
variable (w mg nm K) in
def EntOk (H : Hp) (L : Addr → Prop) (a : Addr) : MO → Prop
  | .lst ps => ∃ xs, H a = some (.lst xs) ∧ Rps w mg nm K H L xs ps
  | .dct _ _ => False
  | .dead => False
def isDead : MO → Bool
  | .dead => true
  | _ => false
variable (w mg nm K) in
structure SR (H : Hp) (ι : Io) (Z : Addr → Prop) (M : Hm) : Prop where
  len : ι.length = M.length
  ent : ∀ (i : Nat) a, ι[i]? = some (some a) → ∃ o, M[i]? = some o ∧ EntOk w mg nm K H (Lv ι Z) a o
  liv : ∀ (i : Nat) o, M[i]? = some o → isDead o = false → ∃ a, ι[i]? = some (some a)
  nd : ∀ (i j : Nat) a, ι[i]? = some (some a) → ι[j]? = some (some a) → i = j
  zi : ∀ a, Z a → some a ∉ ι
  zt : ∀ a, Z a → ∃ o, H a = some o
variable (w mg nm K) in
def RU (H : Hp) (ι : Io) (Z : Addr → Prop) (v : V) : U → Prop
  | .p x => Rp w mg nm K H (Lv ι Z) v x
  | .ref i => i < ι.length ∧ ∀ a, ι[i]? = some (some a) → v = .ref a
  | .clo _ _ _ => False
  | .exn _ => False
theorem RU.ev {v : V} {u : U} (e : Ev H ι H' ι') (h : RU w mg nm K H ι Z v u) : RU w mg nm K H' ι' Z v u := by
  cases u with
  | p x => exact Rp.ev e x v h
  | ref i =>
    obtain ⟨h1, h2⟩ := h
    obtain ⟨h3, h4⟩ := e.ic i h1
    refine ⟨h3, fun a ha => ?_⟩
    rcases h4 with h4 | h4
    · exact h2 a (h4.symm.trans ha)
    · rw [h4] at ha; cases ha
  | clo _ _ _ => exact h
  | exn _ => exact h
variable (w mg nm K) in
structure RE (H : Hp) (ι : Io) (Z : Addr → Prop) (σ : L2.St) (ρ : Rho) : Prop where
  len : σ.length = ρ.length
  at_ : ∀ (i : Nat) u, ρ[i]? = some (some u) → ∃ v, σ[i]? = some (some v) ∧ RU w mg nm K H ι Z v u
theorem RE.ev {σ : L2.St} {ρ : Rho} (e : Ev H ι H' ι') (h : RE w mg nm K H ι Z σ ρ) : RE w mg nm K H' ι' Z σ ρ := ⟨h.len, fun i u hi => by
  obtain ⟨v, h1, h2⟩ := h.at_ i u hi
  exact ⟨v, h1, h2.ev e⟩⟩
theorem RE.set {σ : L2.St} {ρ : Rho} {i : Nat} {v : V} {u : U} (h : RE w mg nm K H ι Z σ ρ) (r : RU w mg nm K H ι Z v u) : RE w mg nm K H ι Z (σ.set i (some v)) (ρ.set i (some u)) := by
  refine ⟨by simp [h.len], fun j u' hj => ?_⟩
  by_cases e : i = j
  · subst e
    by_cases hi : i < ρ.length
    · rw [List.getElem?_set_self hi] at hj
      cases hj
      exact ⟨v, List.getElem?_set_self (by rw [h.len]; exact hi), r⟩
    · rw [List.getElem?_eq_none (by simpa using hi)] at hj
      cases hj
  · rw [List.getElem?_set_ne e] at hj
    obtain ⟨v', h1, h2⟩ := h.at_ j u' hj
    exact ⟨v', by rw [List.getElem?_set_ne e]; exact h1, h2⟩
theorem RE.wip {σ : L2.St} {ρ : Rho} (h : RE w mg nm K H ι Z σ ρ) : ∀ own : List Nat, RE w mg nm K H ι Z (wipe σ own) (wip ρ own)
  | [] => h
  | v :: vs => by
    have ih := RE.wip h vs
    unfold wipe Ip.wip
    refine ⟨by simp [ih.len], fun j u hj => ?_⟩
    by_cases e : v = j
    · subst e
      by_cases hi : v < (Ip.wip ρ vs).length
      · rw [List.getElem?_set_self hi] at hj
        cases hj
      · rw [List.getElem?_eq_none (by simpa using hi)] at hj
        cases hj
    · rw [List.getElem?_set_ne e] at hj
      obtain ⟨v', h1, h2⟩ := ih.at_ j u hj
      exact ⟨v', by rw [List.getElem?_set_ne e]; exact h1, h2⟩

/-! ### steps of heaps -/
theorem Ev.new {p : Addr} {o : HO} (hp : H p = none) : Ev H ι (upd H p o) ι :=
  ⟨fun a x h n => ⟨by rw [upd_ne (ne_of_none h hp)]; exact h, n⟩, fun a xs h => by rw [upd_ne (ne_of_none h hp)]; exact h, fun a x u h => by rw [upd_ne (ne_of_none h hp)]; exact h, fun _ h => ⟨h, .inl rfl⟩⟩
theorem Ev.newM {p : Addr} {o : HO} (hp : H p = none) : Ev H ι (upd H p o) (ι ++ [some p]) :=
  ⟨fun a x h n => ⟨by rw [upd_ne (ne_of_none h hp)]; exact h, fun z => by
      rcases List.mem_append.mp z with z | z
      · exact n z
      · have e : a = p := by simpa using z
        exact ne_of_none h hp e⟩,
    fun a xs h => by rw [upd_ne (ne_of_none h hp)]; exact h, fun a x u h => by rw [upd_ne (ne_of_none h hp)]; exact h,
    fun i h => ⟨by rw [List.length_append]; omega, .inl (List.getElem?_append_left h)⟩⟩
theorem Ev.chg {i : Nat} {a : Addr} {xs ys : List V} (hi : ι[i]? = some (some a)) (ha : H a = some (.lst xs)) : Ev H ι (upd H a (.lst ys)) ι := by
  have hm : some a ∈ ι := List.mem_of_getElem? hi
  refine ⟨fun b o h n => ⟨?_, n⟩, fun b zs h => ?_, fun b o u h => ?_, fun _ h => ⟨h, .inl rfl⟩⟩
  · rw [upd_ne (fun e => n (by rw [e]; exact hm))]; exact h
  · rw [upd_ne (fun e => by rw [e, ha] at h; cases h)]; exact h
  · rw [upd_ne (fun e => by rw [e, ha] at h; cases h)]; exact h
theorem Ev.kill {i : Nat} : Ev H ι H (ι.set i none) := by
  refine ⟨fun b o h n => ⟨h, fun z => n ?_⟩, fun _ _ h => h, fun _ _ _ h => h, fun j hj => ⟨by simpa using hj, ?_⟩⟩
  · obtain ⟨j, hj⟩ := List.mem_iff_getElem?.mp z
    by_cases e : i = j
    · subst e
      by_cases hi : i < ι.length
      · rw [List.getElem?_set_self hi] at hj; cases hj
      · rw [List.getElem?_eq_none (by simpa using hi)] at hj; cases hj
    · rw [List.getElem?_set_ne e] at hj
      exact List.mem_of_getElem? hj
  · by_cases e : i = j
    · subst e
      exact .inr (List.getElem?_set_self hj)
    · exact .inl (List.getElem?_set_ne e)
theorem EntOk.ev {a : Addr} {o : MO} (e : Ev H ι H' ι') (ha : ∀ xs, H a = some (.lst xs) → H' a = some (.lst xs)) (h : EntOk w mg nm K H (Lv ι Z) a o) : EntOk w mg nm K H' (Lv ι' Z) a o := by
  cases o with
  | lst ps =>
    obtain ⟨xs, h1, h2⟩ := h
    exact ⟨xs, ha xs h1, Rps.ev e ps xs h2⟩
  | dct _ _ => exact h
  | dead => exact h
/-- a new object that never changes -/
theorem SR.new {p : Addr} {o : HO} {M : Hm} (s : SR w mg nm K H ι Z M) (hp : H p = none) : SR w mg nm K (upd H p o) ι Z M := by
  refine ⟨s.len, fun i a hi => ?_, s.liv, s.nd, s.zi, fun a ha => ?_⟩
  · obtain ⟨m, h1, h2⟩ := s.ent i a hi
    exact ⟨m, h1, h2.ev (Ev.new hp) fun xs h => by rw [upd_ne (ne_of_none h hp)]; exact h⟩
  · obtain ⟨x, h⟩ := s.zt a ha
    exact ⟨x, by rw [upd_ne (ne_of_none h hp)]; exact h⟩
theorem SR.fresh {p : Addr} {M : Hm} (s : SR w mg nm K H ι Z M) (hp : H p = none) : ¬ Lv ι Z p := by
  rintro (h | h)
  · obtain ⟨i, hi⟩ := List.mem_iff_getElem?.mp h
    obtain ⟨o, _, h2⟩ := s.ent i p hi
    cases o with
    | lst ps =>
      obtain ⟨xs, h3, _⟩ := h2
      rw [hp] at h3; cases h3
    | dct _ _ => exact h2
    | dead => exact h2
  · obtain ⟨o, h⟩ := s.zt p h
    rw [hp] at h; cases h
/-- a new list that may change -/
theorem SR.newM {p : Addr} {xs : List V} {ps : List P} {M : Hm} (s : SR w mg nm K H ι Z M) (hp : H p = none) (r : Rps w mg nm K H (Lv ι Z) xs ps) : SR w mg nm K (upd H p (.lst xs)) (ι ++ [some p]) Z (M ++ [.lst ps]) := by
  have e : Ev H ι (upd H p (.lst xs)) (ι ++ [some p]) := Ev.newM hp
  have hf := s.fresh hp
  refine ⟨by simp [s.len], fun i a hi => ?_, fun i qs hi hq => ?_, fun i j a hi hj => ?_, fun a ha z => ?_, fun a ha => ?_⟩
  · by_cases hl : i < ι.length
    · rw [List.getElem?_append_left hl] at hi
      obtain ⟨m, h1, h2⟩ := s.ent i a hi
      exact ⟨m, by rw [List.getElem?_append_left (by rw [← s.len]; exact hl)]; exact h1, h2.ev e fun xs h => by rw [upd_ne (ne_of_none h hp)]; exact h⟩
    · rw [List.getElem?_append_right (by omega)] at hi
      have h0 : i - ι.length = 0 := by
        by_cases z : i - ι.length = 0
        · exact z
        · rw [List.getElem?_eq_none (by simp; omega)] at hi; cases hi
      rw [h0] at hi
      have ea : p = a := by simpa using hi
      subst ea
      refine ⟨.lst ps, ?_, xs, upd_same, Rps.ev e ps xs r⟩
      rw [List.getElem?_append_right (by rw [← s.len]; omega), ← s.len, h0]
      rfl
  · by_cases hl : i < ι.length
    · rw [List.getElem?_append_left (by rw [← s.len]; exact hl)] at hi
      obtain ⟨a, ha⟩ := s.liv i qs hi hq
      exact ⟨a, by rw [List.getElem?_append_left hl]; exact ha⟩
    · have h0 : i = ι.length := by
        by_cases z : i = ι.length
        · exact z
        · rw [List.getElem?_eq_none (by rw [List.length_append, ← s.len]; simp; omega)] at hi; cases hi
      exact ⟨p, by rw [h0, List.getElem?_append_right (Nat.le_refl _)]; simp⟩
  · have aux : ∀ {i : Nat} {a : Addr}, (ι ++ [some p])[i]? = some (some a) → (i < ι.length ∧ ι[i]? = some (some a)) ∨ (i = ι.length ∧ a = p) := fun {i a} h => by
      by_cases hl : i < ι.length
      · rw [List.getElem?_append_left hl] at h
        exact .inl ⟨hl, h⟩
      · by_cases z : i = ι.length
        · subst z
          rw [List.getElem?_append_right (Nat.le_refl _)] at h
          exact .inr ⟨rfl, by simpa using h.symm⟩
        · rw [List.getElem?_eq_none (by simp; omega)] at h; cases h
    rcases aux hi with ⟨_, h1⟩ | ⟨h1, e1⟩
    · rcases aux hj with ⟨_, h2⟩ | ⟨h2, e2⟩
      · exact s.nd i j a h1 h2
      · exact absurd (.inl (List.mem_of_getElem? (by rw [← e2]; exact h1))) hf
    · rcases aux hj with ⟨_, h2⟩ | ⟨h2, e2⟩
      · exact absurd (.inl (List.mem_of_getElem? (by rw [← e1]; exact h2))) hf
      · rw [h1, h2]
  · rcases List.mem_append.mp z with z | z
    · exact s.zi a ha z
    · have ea : a = p := by simpa using z
      subst ea
      exact hf (.inr ha)
  · obtain ⟨x, h⟩ := s.zt a ha
    exact ⟨x, by rw [upd_ne (ne_of_none h hp)]; exact h⟩
/-- a list is changed -/
theorem SR.chg {i : Nat} {a : Addr} {xs ys : List V} {qs : List P} {M : Hm} (s : SR w mg nm K H ι Z M) (hi : ι[i]? = some (some a)) (ha : H a = some (.lst xs)) (r : Rps w mg nm K H (Lv ι Z) ys qs) : SR w mg nm K (upd H a (.lst ys)) ι Z (M.set i (.lst qs)) := by
  have e : Ev H ι (upd H a (.lst ys)) ι := Ev.chg hi ha
  have hl : i < ι.length := (List.getElem?_eq_some_iff.mp hi).1
  have hlM : i < M.length := by rw [← s.len]; exact hl
  refine ⟨by simp [s.len], fun j b hj => ?_, fun j ps hj hq => ?_, s.nd, s.zi, fun b hb => ?_⟩
  · by_cases z : i = j
    · subst z
      rw [hi] at hj
      cases hj
      exact ⟨.lst qs, List.getElem?_set_self hlM, ys, upd_same, Rps.ev e qs ys r⟩
    · obtain ⟨m, h1, h2⟩ := s.ent j b hj
      have hb : b ≠ a := fun q => z (s.nd i j a hi (by rw [← q]; exact hj))
      exact ⟨m, by rw [List.getElem?_set_ne z]; exact h1, h2.ev e fun xs h => by rw [upd_ne hb]; exact h⟩
  · by_cases z : i = j
    · subst z
      exact ⟨a, hi⟩
    · rw [List.getElem?_set_ne z] at hj
      exact s.liv j ps hj hq
  · obtain ⟨x, h⟩ := s.zt b hb
    exact ⟨x, by rw [upd_ne (fun q => s.zi b hb (by rw [q]; exact List.mem_of_getElem? hi))]; exact h⟩
/-- a list changes no more -/
theorem SR.kill {i : Nat} {M : Hm} (s : SR w mg nm K H ι Z M) : SR w mg nm K H (ι.set i none) Z (M.set i .dead) := by
  have e : Ev H ι H (ι.set i none) := Ev.kill
  have back : ∀ {j : Nat} {a : Addr}, (ι.set i none)[j]? = some (some a) → i ≠ j ∧ ι[j]? = some (some a) := fun {j a} h => by
    by_cases z : i = j
    · subst z
      by_cases hi : i < ι.length
      · rw [List.getElem?_set_self hi] at h; cases h
      · rw [List.getElem?_eq_none (by simpa using hi)] at h; cases h
    · rw [List.getElem?_set_ne z] at h
      exact ⟨z, h⟩
  refine ⟨by simp [s.len], fun j b hj => ?_, fun j ps hj hq => ?_, fun j k a hj hk => s.nd j k a (back hj).2 (back hk).2, fun a ha z => ?_, s.zt⟩
  · obtain ⟨z, hj⟩ := back hj
    obtain ⟨m, h1, h2⟩ := s.ent j b hj
    exact ⟨m, by rw [List.getElem?_set_ne z]; exact h1, h2.ev e fun _ h => h⟩
  · by_cases z : i = j
    · subst z
      by_cases hi : i < M.length
      · rw [List.getElem?_set_self hi] at hj; cases hj; cases hq
      · rw [List.getElem?_eq_none (by simpa using hi)] at hj; cases hj
    · rw [List.getElem?_set_ne z] at hj
      obtain ⟨a, ha⟩ := s.liv j ps hj hq
      exact ⟨a, by rw [List.getElem?_set_ne z]; exact ha⟩
  · obtain ⟨j, hj⟩ := List.mem_iff_getElem?.mp z
    exact s.zi a ha (List.mem_of_getElem? (back hj).2)
end
end Ip

set_option Elab.async false
set_option linter.all false
set_option maxRecDepth 100000
set_option maxHeartbeats 2000000
/-! IpOps: readings by the evaluator; operators. -/
namespace Ip
open PySem PySem.Spec PyProof.Rows L2
section
variable {w : World} {mg : Str → Option Value} {nm : Nat → Str} {K : PySem.W.Frag} {H H' H1 : Hp} {ι ι' ι1 : Io} {Z : Addr → Prop}
/-! ### ends -/
variable (w mg nm K) in
def Po {α β : Type} (S : Hp → Io → β → α → Prop) (H : Hp) (ι : Io) (Z : Addr → Prop) (r : R α) (Q : β → Hp → Prop) (Ex : XK) : Prop := match r with
  | .ok u M' => ∀ v H' ι', Ev H ι H' ι' → S H' ι' v u → SR w mg nm K H' ι' Z M' → Q v H'
  | .ex c M' => ∀ a d H' ι', Ev H ι H' ι' → SR w mg nm K H' ι' Z M' → mg (nm c) = some (.ref a) → Ex (.ref a) d H'
  | .no => False
theorem Po.ev {α β : Type} {S : Hp → Io → β → α → Prop} {r : R α} {Q : β → Hp → Prop} {Ex : XK} (h : Po w mg nm K S H ι Z r Q Ex) (e : Ev H ι H1 ι1) : Po w mg nm K S H1 ι1 Z r Q Ex := by
  cases r with
  | ok u M' => exact fun v H' ι' e' => h v H' ι' (e.trans e')
  | ex c M' => exact fun a d H' ι' e' => h a d H' ι' (e.trans e')
  | no => exact h
variable (w mg nm K) in
abbrev SU (Z : Addr → Prop) : Hp → Io → V → U → Prop := fun H ι v u => RU w mg nm K H ι Z v u
variable (w mg nm K) in
abbrev SUs (Z : Addr → Prop) : Hp → Io → List V → List U → Prop := fun H ι vs us => Paired (fun v u => RU w mg nm K H ι Z v u) vs us
abbrev SB : Hp → Io → Bool → Bool → Prop := fun _ _ v u => v = u
abbrev NoX : XK := fun _ _ _ => False
/-! ### data read -/
variable (w mg nm K) in
inductive Rq (H : Hp) (L : Addr → Prop) : V → P → Prop
  | p {v : V} {p : P} : Rp w mg nm K H L v p → Rq H L v p
  | l {a : Addr} {xs : List V} {ps : List P} : H a = some (.lst xs) → Rps w mg nm K H L xs ps → Rq H L (.ref a) (.lst ps)
theorem rd_q {M : Hm} {x : V} {u : U} {p : P} (r : RU w mg nm K H ι Z x u) (s : SR w mg nm K H ι Z M) (e : rd M u = some p) : Rq w mg nm K H (Lv ι Z) x p := by
  cases u with
  | p y => cases e; exact .p r
  | ref i =>
    obtain ⟨h1, h2⟩ := r
    cases hm : M[i]? with
    | none => simp [rd, hm] at e
    | some o =>
      cases o with
      | lst ps =>
        simp only [rd, hm, Option.some.injEq] at e
        subst e
        obtain ⟨a, ha⟩ := s.liv _ _ hm rfl
        obtain ⟨o, h3, h4⟩ := s.ent _ a ha
        rw [hm] at h3
        cases h3
        obtain ⟨xs, h5, h6⟩ := h4
        rw [h2 a ha]
        exact .l h5 h6
      | dct _ _ => simp [rd, hm] at e
      | dead => simp [rd, hm] at e
  | clo _ _ _ => cases e
  | exn _ => cases e
theorem Rq.int {L : Addr → Prop} {x : V} {i : Int} (h : Rq w mg nm K H L x (.int i)) : x = .int i := by
  cases h with
  | p h => cases h; rfl
theorem Rq.bl {L : Addr → Prop} {x : V} {b : Bool} (h : Rq w mg nm K H L x (.bl b)) : x = .bl b := by
  cases h with
  | p h => cases h; rfl
theorem Rq.non {L : Addr → Prop} {x : V} (h : Rq w mg nm K H L x .non) : x = .non := by
  cases h with
  | p h => cases h; rfl
theorem Rq.str {L : Addr → Prop} {x : V} {z : Str} (h : Rq w mg nm K H L x (.str z)) : x = .str z := by
  cases h with
  | p h => cases h; rfl
theorem Rq.tup {L : Addr → Prop} {x : V} {ps : List P} (h : Rq w mg nm K H L x (.tup ps)) : ∃ a xs, x = .ref a ∧ SqT K H a xs ∧ Rps w mg nm K H L xs ps := by
  cases h with
  | p h => cases h with
    | tup h1 h2 => exact ⟨_, _, rfl, h1, h2⟩
theorem Rq.lst {L : Addr → Prop} {x : V} {ps : List P} (h : Rq w mg nm K H L x (.lst ps)) : ∃ a xs, x = .ref a ∧ H a = some (.lst xs) ∧ Rps w mg nm K H L xs ps := by
  cases h with
  | p h => cases h with
    | lst h1 _ h2 => exact ⟨_, _, rfl, h1, h2⟩
  | l h1 h2 => exact ⟨_, _, rfl, h1, h2⟩
theorem Rq.seq {L : Addr → Prop} {x : V} {p : P} {ps : List P} (h : Rq w mg nm K H L x p) (e : seqOf p = some ps) : ∃ a xs, x = .ref a ∧ Rps w mg nm K H L xs ps ∧ ((p = .lst ps ∧ SqL K H a xs) ∨ (p = .tup ps ∧ SqT K H a xs)) := by
  cases p with
  | tup qs =>
    cases e
    obtain ⟨a, xs, e, h1, h2⟩ := h.tup
    exact ⟨a, xs, e, h2, .inr ⟨rfl, h1⟩⟩
  | lst qs =>
    cases e
    obtain ⟨a, xs, e, h1, h2⟩ := h.lst
    exact ⟨a, xs, e, h2, .inl ⟨rfl, .of h1⟩⟩
  | _ => cases e
/-! ### equality -/
mutual
def pd : P → PyData
  | .non => .none
  | .bl b => .bool b
  | .int i => .int i
  | .str x => .str x
  | .tup ps => .tuple (pds ps)
  | .lst ps => .list (pds ps)
  | .set _ => .none
  | .dct _ _ => .none
  | .scr _ => .none
  | .glb _ => .none
def pds : List P → List PyData
  | [] => []
  | p :: ps => pd p :: pds ps
end
mutual
theorem Rp.dp {L : Addr → Prop} : ∀ (n : Nat) (p : P) (v : V), shp n p = true → Rp w mg nm K H L v p → Dp K H v (pd p)
  | _, .non, _, _, h => by cases h; exact .non
  | _, .bl _, _, _, h => by cases h; exact .bl _
  | _, .int _, _, _, h => by cases h; exact .int _
  | _, .str _, _, _, h => by cases h; exact .str _
  | n + 1, .tup ps, _, s, h => by
    cases h with
    | tup h1 h2 => exact .tup h1 (Rps.dp n ps _ (by rw [shp] at s; exact s) h2)
  | n + 1, .lst ps, _, s, h => by
    cases h with
    | lst h1 _ h2 => exact .lst (.of h1) (Rps.dp n ps _ (by rw [shp] at s; exact s) h2)
  | 0, .tup ps, _, s, _ => by simp [shp] at s
  | 0, .lst ps, _, s, _ => by simp [shp] at s
  | _, .set _, _, s, _ => by simp [shp] at s
  | _, .dct _ _, _, s, _ => by simp [shp] at s
  | _, .scr _, _, s, _ => by simp [shp] at s
  | _, .glb _, _, s, _ => by simp [shp] at s
theorem Rps.dp {L : Addr → Prop} : ∀ (n : Nat) (ps : List P) (vs : List V), shps n ps = true → Rps w mg nm K H L vs ps → DpAll K H vs (pds ps)
  | _, [], _, _, h => by cases h; exact .nil
  | n, p :: ps, _, s, h => by
    rw [shps, Bool.and_eq_true] at s
    cases h with
    | cons h1 h2 => exact .cons (Rp.dp n p _ s.1 h1) (Rps.dp n ps _ s.2 h2)
end
theorem Rq.dp {L : Addr → Prop} {n : Nat} {p : P} {v : V} (s : shp n p = true) (h : Rq w mg nm K H L v p) : Dp K H v (pd p) := by
  cases h with
  | p h => exact Rp.dp n p v s h
  | @l a xs ps h1 h2 =>
    cases n with
    | zero => simp [shp] at s
    | succ n => exact .lst (.of h1) (Rps.dp n ps _ (by rw [shp] at s; exact s) h2)
theorem stOk_eq (x : Str) : (x.cps.all fun c => decide (c < 1114112)) = PyData.strOk x := rfl
mutual
theorem shp_lay : ∀ (n : Nat) (p : P), shp n p = true → (pd p).canLay0 = true ∧ (pd p).depth ≤ n
  | n, .non, _ => ⟨by simp [pd, PyData.canLay0], by simp [pd, PyData.depth]⟩
  | n, .bl _, _ => ⟨by simp [pd, PyData.canLay0], by simp [pd, PyData.depth]⟩
  | n, .int _, _ => ⟨by simp [pd, PyData.canLay0], by simp [pd, PyData.depth]⟩
  | n, .str x, h => ⟨by rw [shp, stOk_eq] at h; simp [pd, PyData.canLay0, h], by simp [pd, PyData.depth]⟩
  | n + 1, .tup ps, h => by
    obtain ⟨h1, h2⟩ := shps_lay n ps (by rw [shp] at h; exact h)
    exact ⟨by simp [pd, PyData.canLay0, h1], by simp [pd, PyData.depth]; omega⟩
  | n + 1, .lst ps, h => by
    obtain ⟨h1, h2⟩ := shps_lay n ps (by rw [shp] at h; exact h)
    exact ⟨by simp [pd, PyData.canLay0, h1], by simp [pd, PyData.depth]; omega⟩
  | 0, .tup ps, s => by simp [shp] at s
  | 0, .lst ps, s => by simp [shp] at s
  | _, .set _, s => by simp [shp] at s
  | _, .dct _ _, s => by simp [shp] at s
  | _, .scr _, s => by simp [shp] at s
  | _, .glb _, s => by simp [shp] at s
theorem shps_lay : ∀ (n : Nat) (ps : List P), shps n ps = true → PyData.canLayAll0 (pds ps) = true ∧ PyData.depthAll (pds ps) ≤ n
  | n, [], _ => ⟨by simp [pds, PyData.canLayAll0], by simp [pds, PyData.depthAll]⟩
  | n, p :: ps, h => by
    rw [shps, Bool.and_eq_true] at h
    obtain ⟨a1, a2⟩ := shp_lay n p h.1
    obtain ⟨b1, b2⟩ := shps_lay n ps h.2
    exact ⟨by simp [pds, PyData.canLayAll0, a1, b1], by simp only [pds, PyData.depthAll]; omega⟩
end
theorem shaped_of {p : P} (h : shp 60 p = true) : SeqAt.shaped (pd p) = true := by
  obtain ⟨h1, h2⟩ := shp_lay 60 p h
  unfold SeqAt.shaped
  rw [h1, Bool.true_and]
  exact decide_eq_true (by omega)
theorem dec_beq (x y : Str) : (x == y) = decide (x = y) := by
  by_cases h : x = y
  · subst h; simp
  · rw [decide_eq_false h]
    exact beq_eq_false_iff_ne.mpr h
mutual
theorem eqP_eqv : ∀ (n m : Nat) (p q : P), shp n p = true → shp m q = true → PyData.eqv (pd p) (pd q) = eqP p q
  | n, m, .tup ps, .tup qs, h1, h2 => by
    cases n with
    | zero => simp [shp] at h1
    | succ n =>
      cases m with
      | zero => simp [shp] at h2
      | succ m =>
        simp only [pd, PyData.eqv, eqP]
        exact eqPs_eqv n m ps qs (by rw [shp] at h1; exact h1) (by rw [shp] at h2; exact h2)
  | n, m, .lst ps, .lst qs, h1, h2 => by
    cases n with
    | zero => simp [shp] at h1
    | succ n =>
      cases m with
      | zero => simp [shp] at h2
      | succ m =>
        simp only [pd, PyData.eqv, eqP]
        exact eqPs_eqv n m ps qs (by rw [shp] at h1; exact h1) (by rw [shp] at h2; exact h2)
  | n, m, .str x, .str y, _, _ => by simp only [pd, PyData.eqv, eqP, dec_beq]
  | n, m, .bl _, q, h1, h2 => by cases q <;> simp [pd, PyData.eqv, eqP, shp] at h2 ⊢
  | n, m, .int _, q, h1, h2 => by cases q <;> simp [pd, PyData.eqv, eqP, shp] at h2 ⊢
  | n, m, .non, q, h1, h2 => by cases q <;> simp [pd, PyData.eqv, eqP, shp] at h2 ⊢
  | n, m, .set _, _, h1, _ => by simp [shp] at h1
  | n, m, .dct _ _, _, h1, _ => by simp [shp] at h1
  | n, m, .scr _, _, h1, _ => by simp [shp] at h1
  | n, m, .glb _, _, h1, _ => by simp [shp] at h1
  | n, m, .str _, .non, _, h2 => by simp [pd, PyData.eqv, eqP]
  | n, m, .str _, .bl _, _, h2 => by simp [pd, PyData.eqv, eqP]
  | n, m, .str _, .int _, _, h2 => by simp [pd, PyData.eqv, eqP]
  | n, m, .str _, .tup _, _, h2 => by simp [pd, PyData.eqv, eqP]
  | n, m, .str _, .lst _, _, h2 => by simp [pd, PyData.eqv, eqP]
  | n, m, .str _, .set _, _, h2 => by simp [shp] at h2
  | n, m, .str _, .dct _ _, _, h2 => by simp [shp] at h2
  | n, m, .str _, .scr _, _, h2 => by simp [shp] at h2
  | n, m, .str _, .glb _, _, h2 => by simp [shp] at h2
  | n, m, .tup _, .non, _, h2 => by simp [pd, PyData.eqv, eqP]
  | n, m, .tup _, .bl _, _, h2 => by simp [pd, PyData.eqv, eqP]
  | n, m, .tup _, .int _, _, h2 => by simp [pd, PyData.eqv, eqP]
  | n, m, .tup _, .str _, _, h2 => by simp [pd, PyData.eqv, eqP]
  | n, m, .tup _, .lst _, _, h2 => by simp [pd, PyData.eqv, eqP]
  | n, m, .tup _, .set _, _, h2 => by simp [shp] at h2
  | n, m, .tup _, .dct _ _, _, h2 => by simp [shp] at h2
  | n, m, .tup _, .scr _, _, h2 => by simp [shp] at h2
  | n, m, .tup _, .glb _, _, h2 => by simp [shp] at h2
  | n, m, .lst _, .non, _, h2 => by simp [pd, PyData.eqv, eqP]
  | n, m, .lst _, .bl _, _, h2 => by simp [pd, PyData.eqv, eqP]
  | n, m, .lst _, .int _, _, h2 => by simp [pd, PyData.eqv, eqP]
  | n, m, .lst _, .str _, _, h2 => by simp [pd, PyData.eqv, eqP]
  | n, m, .lst _, .tup _, _, h2 => by simp [pd, PyData.eqv, eqP]
  | n, m, .lst _, .set _, _, h2 => by simp [shp] at h2
  | n, m, .lst _, .dct _ _, _, h2 => by simp [shp] at h2
  | n, m, .lst _, .scr _, _, h2 => by simp [shp] at h2
  | n, m, .lst _, .glb _, _, h2 => by simp [shp] at h2
theorem eqPs_eqv : ∀ (n m : Nat) (ps qs : List P), shps n ps = true → shps m qs = true → PyData.eqvAll (pds ps) (pds qs) = eqPs ps qs
  | _, _, [], [], _, _ => by simp [pds, PyData.eqvAll, eqPs]
  | _, _, [], _ :: _, _, _ => by simp [pds, PyData.eqvAll, eqPs]
  | _, _, _ :: _, [], _, _ => by simp [pds, PyData.eqvAll, eqPs]
  | n, m, p :: ps, q :: qs, h1, h2 => by
    rw [shps, Bool.and_eq_true] at h1 h2
    simp only [pds, PyData.eqvAll, eqPs]
    rw [eqP_eqv n m p q h1.1 h2.1, eqPs_eqv n m ps qs h1.2 h2.2]
end
end
end Ip

set_option Elab.async false
set_option linter.all false
set_option maxRecDepth 100000
set_option maxHeartbeats 4000000
/-! IpMul1: t * 1, t not empty. -/
namespace Ip
open PySem PySem.Spec PyProof.Rows L2
theorem tuple_mulW1 (l : Addr) (items : Array Value) (n : Nat) (sl : Array (Option Value)) (dd : Option Addr) (x : Int) (u : Tok) (c0 : (decide (x < -(2 ^ 63)) || decide (x ≥ 2 ^ 63)) = false) (c1 : (items.isEmpty || x == 1) = true) :
    Meets (Builtin.«tuple.__mul__» ⟨[.ref l, .int x u], []⟩) (fun _ R s => s.heap.get? l = some { cls := .type "tuple", dict := dd, data := .seq items n, slots := sl } ∧
      R (.ok (.ret (Value.ref l))) s) :=
  .of_wp fun prog w A R s h => by
    obtain ⟨hp, g, d, tk, os⟩ := s
    obtain ⟨hl, h⟩ := h
    have f1 := AutoSeq1.idx_int
    wp_walk using wpAny_loadPart' hl
    repeat (first
      | (refine wpAny_ite_false (decide_eq_false (by rw [c0]; exact Bool.false_ne_true)) ?_; wp_walk using wpAny_loadPart' hl)
      | (refine wpAny_ite_true (decide_eq_true (by rw [c1])) ?_; wp_walk using wpAny_loadPart' hl))
    exact ⟨_, rfl, h⟩
def rRep1 (K : PySem.W.Frag) : R2 := fun x y H Q => ∃ l xs, x = .ref l ∧ y = .int 1 ∧ SqT K H l xs ∧ Q (.ref l) H
theorem op_rep1 {X : Cx} : OpR X (binaryOp .Mult) (rRep1 X.K) := by
  intro pins s σ H x y v u Q I rx ry h
  obtain ⟨l, xs, rfl, rfl, hT, q⟩ := h
  cases rx
  obtain ⟨t, rfl⟩ := ry
  obtain ⟨its, r, ⟨⟨cls, dd, data, sl⟩, ho, hc, n, hd⟩, hs⟩ := I.tuple hT
  simp only at hc hd
  subst hc hd
  refine wpAny_binaryOp_repeat_ref (T := "tuple") (U := "int") (by decide) ⟨_, ho, rfl⟩ (fun s' => typeIs_int s' 1 t) noFill_tuple_mul F.fills_int_mul F.slot_int_rmul repeat_tuple F.slot_int_index.lookup
    (call_meets F.slot_int_rmul (typeIs_int s 1 t) F.entry_int_rmul (F.args_int_rmul_2 _ _) (int_rmul_tuple 1 t l its.toArray n dd sl)
      ⟨ho, rfl, ⟨_, ho, rfl⟩, call_meets F.slot_tuple_mul ⟨_, ho, rfl⟩ F.entry_tuple_mul (F.args_tuple_mul_2 _ _) (tuple_mulW1 l its.toArray n sl dd 1 t (by decide) (by rw [show ((1 : Int) == 1) = true from rfl, Bool.or_true])) ⟨ho, ?_⟩⟩)
  exact ⟨.ref l, H, I, rfl, q⟩
end Ip

set_option Elab.async false
set_option linter.all false
set_option maxRecDepth 100000
set_option maxHeartbeats 2000000
/-! IpBin: binary operators and comparisons by data. -/
namespace Ip
open PySem PySem.Spec PyProof.Rows L2
section
variable {X : Cx} {nm : Nat → Str} {H H' H1 : Hp} {ι ι' ι1 : Io} {Z : Addr → Prop} {M : Hm} {Q : VK} {Ex : XK}
abbrev RpX (X : Cx) (nm : Nat → Str) := Rp X.w X.mg nm X.K
abbrev RpsX (X : Cx) (nm : Nat → Str) := Rps X.w X.mg nm X.K
abbrev RqX (X : Cx) (nm : Nat → Str) := Rq X.w X.mg nm X.K
abbrev RUX (X : Cx) (nm : Nat → Str) := RU X.w X.mg nm X.K
abbrev SRX (X : Cx) (nm : Nat → Str) := SR X.w X.mg nm X.K
abbrev REX (X : Cx) (nm : Nat → Str) := RE X.w X.mg nm X.K
/-- a value's end -/
abbrev PoU (X : Cx) (nm : Nat → Str) (H : Hp) (ι : Io) (Z : Addr → Prop) (r : R U) (Q : VK) (Ex : XK) : Prop := Po X.w X.mg nm X.K (SU X.w X.mg nm X.K Z) H ι Z r Q Ex
theorem po_p {p : P} {v : V} (h : PoU X nm H ι Z (.ok (.p p) M) Q Ex) (s : SRX X nm H ι Z M) (r : RpX X nm H (Lv ι Z) v p) : Q v H := h v H ι Ev.refl r s
theorem mk_p {m : Bool} {p : P} {v : V} (hn : isL p = false) (h : PoU X nm H ι Z (mk m p M) Q Ex) (s : SRX X nm H ι Z M) (r : RpX X nm H (Lv ι Z) v p) : Q v H := by
  cases m with
  | false => exact po_p h s r
  | true => cases p <;> first | exact h.elim | cases hn
/-- a new list -/
theorem mk_lst {m : Bool} {ps : List P} {xs : List V} {a : Addr} (h : PoU X nm H ι Z (mk m (.lst ps) M) Q Ex) (s : SRX X nm H ι Z M) (r : RpsX X nm H (Lv ι Z) xs ps) (ha : H a = none) : Q (.ref a) (upd H a (.lst xs)) := by
  cases m with
  | false =>
    refine h _ _ ι (Ev.new ha) ?_ (s.new ha)
    exact .lst upd_same (s.fresh ha) (Rps.ev (Ev.new ha) ps xs r)
  | true =>
    refine h _ _ _ (Ev.newM ha) ⟨?_, fun b hb => ?_⟩ (s.newM ha r)
    · rw [List.length_append, ← s.len]
      simp
    · have hM : M.length = ι.length := s.len.symm
      rw [hM, List.getElem?_append_right (Nat.le_refl _)] at hb
      have e : a = b := by simpa using hb
      rw [e]
/-- a new tuple -/
theorem po_tup {ps : List P} {xs : List V} {a : Addr} (h : PoU X nm H ι Z (.ok (.p (.tup ps)) M) Q Ex) (s : SRX X nm H ι Z M) (r : RpsX X nm H (Lv ι Z) xs ps) (ha : H a = none) : Q (.ref a) (upd H a (.tup xs)) :=
  h _ _ ι (Ev.new ha) (.tup (.inl (.inl upd_same)) (Rps.ev (Ev.new ha) ps xs r)) (s.new ha)
/-- an operator by data -/
def r2 (X : Cx) (nm : Nat → Str) (f : P → P → Option P) (m : Bool) : R2 := fun x y H Q => ∃ ι Z M p q z, RqX X nm H (Lv ι Z) x p ∧ RqX X nm H (Lv ι Z) y q ∧ SRX X nm H ι Z M ∧ f p q = some z ∧ ∃ Ex, PoU X nm H ι Z (mk m z M) Q Ex
theorem LIM_line : LIM ≤ sizeLine := by unfold LIM; rw [sizeLine_eq]; decide
theorem log2_lt {n a : Nat} (h : n < 2 ^ a) (ha : 0 < a) : n.log2 < a := PySem.Flt.log2_lt_of ha h
end
section
variable {X : Cx} {nm : Nat → Str}
theorem op_addD {m : Bool} : OpR X (binaryOp .Add) (r2 X nm addP m) := by
  intro pins s σ H x y v u Q I rx ry h
  obtain ⟨ι, Z, M, p, q, z, hp, hq, hs, e, Ex, hz⟩ := h
  unfold addP at e
  split at e
  · cases e
    rw [hp.int] at rx
    rw [hq.int] at ry
    exact op_add pins s σ H _ _ v u Q I rx ry ⟨_, _, rfl, rfl, mk_p rfl hz hs (.int _)⟩
  · split at e
    · cases e
      rename_i hl
      rw [hp.str] at rx
      rw [hq.str] at ry
      exact op_add_str pins s σ H _ _ v u Q I rx ry ⟨_, _, rfl, rfl, Nat.le_trans hl LIM_line, mk_p rfl hz hs (.str _)⟩
    · cases e
  · split at e
    · cases e
      rename_i hl
      obtain ⟨a, xs, rfl, ha, ra⟩ := hp.tup
      obtain ⟨b, ys, rfl, hb, rb⟩ := hq.tup
      have l1 := ra.length
      have l2 := rb.length
      refine op_catA pins s σ H _ _ v u Q I rx ry ⟨a, b, xs, ys, rfl, rfl, ha, hb, Nat.le_trans (by omega) LIM_line, fun e0 => ?_, fun e0 e1 => ?_, fun e0 e1 p hp => ?_⟩
      · subst e0
        cases ra
        exact mk_p rfl hz hs (.tup hb rb)
      · subst e1
        cases rb
        exact mk_p rfl hz hs (.tup ha (by rw [List.append_nil]; exact ra))
      · cases m with
        | false => exact po_tup hz hs (ra.append rb) hp
        | true => exact hz.elim
    · cases e
  · split at e
    · cases e
      rename_i hl
      obtain ⟨a, xs, rfl, ha, ra⟩ := hp.lst
      obtain ⟨b, ys, rfl, hb, rb⟩ := hq.lst
      have l1 := ra.length
      have l2 := rb.length
      exact op_cat pins s σ H _ _ v u Q I rx ry ⟨a, b, xs, ys, rfl, rfl, ha, hb, Nat.le_trans (by omega) LIM_line, fun p hp => mk_lst hz hs (ra.append rb) hp⟩
    · cases e
  · cases e
theorem op_subD {m : Bool} : OpR X (binaryOp .Sub) (r2 X nm subP m) := by
  intro pins s σ H x y v u Q I rx ry h
  obtain ⟨ι, Z, M, p, q, z, hp, hq, hs, e, Ex, hz⟩ := h
  unfold subP at e
  split at e
  · cases e
    rw [hp.int] at rx
    rw [hq.int] at ry
    exact op_sub pins s σ H _ _ v u Q I rx ry ⟨_, _, rfl, rfl, mk_p rfl hz hs (.int _)⟩
  · cases e
theorem lt64 {i : Int} (h : i.natAbs < 2 ^ 63) : -(2 ^ 64) < i ∧ i < 2 ^ 64 := by omega
theorem op_mulI {i j : Int} {pins : List (Addr × Obj)} {s : Shared} {σ : L2.St} {H : Hp} {v u : Value} {Q : VK} (I : Inv X pins σ H s) (rx : RelV (.int i) v) (ry : RelV (.int j) u) (h : mulOk i j = true) (q : Q (.int (i * j)) H) : wpAny (model X.prog X.w) X.A (binaryOp .Mult v u) (EP X pins σ Q) X.xe s := by
  unfold mulOk at h
  simp only [Bool.or_eq_true, Bool.and_eq_true, decide_eq_true_eq] at h
  rcases h with (h | h) | ⟨h1, h2⟩
  · exact op_mul pins s σ H _ _ v u Q I rx ry ⟨_, _, rfl, rfl, .inl (lt64 h), q⟩
  · exact op_mul pins s σ H _ _ v u Q I rx ry ⟨_, _, rfl, rfl, .inr (lt64 h), q⟩
  · exact op_mulW pins s σ H _ _ v u Q I rx ry ⟨_, _, rfl, rfl, wide_mul h1 h2 (by decide) (by decide) (by decide), q⟩
theorem op_mulD {m : Bool} : OpR X (binaryOp .Mult) (r2 X nm mulP m) := by
  intro pins s σ H x y v u Q I rx ry h
  obtain ⟨ι, Z, M, p, q, z, hp, hq, hs, e, Ex, hz⟩ := h
  unfold mulP at e
  split at e
  · split at e
    · cases e
      rename_i hl
      rw [hp.int] at rx
      rw [hq.int] at ry
      exact op_mulI I rx ry hl (mk_p rfl hz hs (.int _))
    · cases e
  · split at e
    · cases e
      rename_i hl
      simp only [Bool.and_eq_true, decide_eq_true_eq] at hl
      obtain ⟨⟨h1, h2⟩, h3⟩ := hl
      obtain ⟨a, xs, rfl, ha, ra⟩ := hp.lst
      rw [hq.int] at ry
      exact op_rep pins s σ H _ _ v u Q I rx ry ⟨a, _, xs, rfl, rfl, ha, by omega, by omega, Nat.le_trans (by rw [ra.length]; exact h3) LIM_line, fun p hp => mk_lst hz hs (ra.flat _) hp⟩
    · cases e
  · split at e
    · rename_i h1
      cases e
      subst h1
      obtain ⟨a, xs, rfl, ha, ra⟩ := hp.tup
      rw [hq.int] at ry
      refine op_rep1 pins s σ H _ _ v u Q I rx ry ⟨a, xs, rfl, rfl, ha, ?_⟩
      cases m with
      | false => exact hz (.ref a) H ι Ev.refl (.tup ha ra) hs
      | true => exact hz.elim
    · split at e
      · cases e
        rename_i hl
        simp only [Bool.and_eq_true, decide_eq_true_eq, Bool.not_eq_true', List.isEmpty_eq_false_iff] at hl
        obtain ⟨⟨⟨h0, h1⟩, h2⟩, h3⟩ := hl
        obtain ⟨a, xs, rfl, ha, ra⟩ := hp.tup
        rw [hq.int] at ry
        have hl := ra.length
        refine op_repT pins s σ H _ _ v u Q I rx ry ⟨a, _, xs, rfl, rfl, ha, fun z => h0 ?_, h1, h2, by omega, fun p hp => ?_⟩
        · subst z
          exact List.length_eq_zero_iff.mp (by simpa using hl.symm)
        · cases m with
          | false => exact po_tup hz hs (ra.flat _) hp
          | true => exact hz.elim
      · cases e
  · cases e
theorem op_fdivD {m : Bool} : OpR X (binaryOp .FloorDiv) (r2 X nm fdvP m) := by
  intro pins s σ H x y v u Q I rx ry h
  obtain ⟨ι, Z, M, p, q, z, hp, hq, hs, e, Ex, hz⟩ := h
  unfold fdvP at e
  split at e
  · split at e
    · cases e
      rename_i hl
      rw [hp.int] at rx
      rw [hq.int] at ry
      unfold divOk at hl
      simp only [Bool.or_eq_true, Bool.and_eq_true, decide_eq_true_eq] at hl
      obtain ⟨h0, h | ⟨⟨h1, h2⟩, h3⟩⟩ := hl
      · exact op_fdivN pins s σ H _ _ v u Q I rx ry ⟨_, _, rfl, rfl, ⟨h0, h⟩, mk_p rfl hz hs (.int _)⟩
      · refine op_fdivW pins s σ H _ _ v u Q I rx ry ⟨_, _, rfl, rfl, wide_div h1 h2 (by decide) (by decide), ?_⟩
        have q := mk_p rfl hz hs (.int _)
        rw [Int.fdiv_eq_ediv_of_nonneg _ (Int.le_of_lt h1)] at q
        exact q
    · cases e
  · cases e
theorem op_modD {m : Bool} : OpR X (binaryOp .Mod) (r2 X nm modP m) := by
  intro pins s σ H x y v u Q I rx ry h
  obtain ⟨ι, Z, M, p, q, z, hp, hq, hs, e, Ex, hz⟩ := h
  unfold modP at e
  split at e
  · split at e
    · cases e
      rename_i hl
      rw [hp.int] at rx
      rw [hq.int] at ry
      exact op_modN pins s σ H _ _ v u Q I rx ry ⟨_, _, rfl, rfl, hl, mk_p rfl hz hs (.int _)⟩
    · cases e
  · cases e
theorem op_powD {m : Bool} : OpR X (binaryOp .Pow) (r2 X nm powP m) := by
  intro pins s σ H x y v u Q I rx ry h
  obtain ⟨ι, Z, M, p, q, z, hp, hq, hs, e, Ex, hz⟩ := h
  unfold powP at e
  split at e
  · split at e
    · cases e
      rename_i hl
      simp only [Bool.and_eq_true, decide_eq_true_eq] at hl
      obtain ⟨⟨h1, h2⟩, h3⟩ := hl
      rw [hp.int] at rx
      rw [hq.int] at ry
      exact op_pow pins s σ H _ _ v u Q I rx ry ⟨_, _, rfl, rfl, ⟨h1, by omega, by omega⟩, mk_p rfl hz hs (.int _)⟩
    · cases e
  · cases e
def toOp : BOp → Operator
  | .add => .Add | .sub => .Sub | .mul => .Mult | .fdiv => .FloorDiv | .mod => .Mod | .pow => .Pow
theorem op_binD (op : BOp) {m : Bool} : OpR X (binaryOp (toOp op)) (r2 X nm (binP op) m) := by
  cases op
  · exact op_addD
  · exact op_subD
  · exact op_mulD
  · exact op_fdivD
  · exact op_modD
  · exact op_powD
end
end Ip

set_option Elab.async false
set_option linter.all false
set_option maxRecDepth 100000
set_option maxHeartbeats 2000000
/-! IpCmp: comparisons, truth, unary minus by data. -/
namespace Ip
open PySem PySem.Spec PyProof.Rows L2
section
variable {X : Cx} {nm : Nat → Str}
def rB2 (X : Cx) (nm : Nat → Str) (f : P → P → Option Bool) : R2 := fun x y H Q => ∃ ι Z M p q b, RqX X nm H (Lv ι Z) x p ∧ RqX X nm H (Lv ι Z) y q ∧ SRX X nm H ι Z M ∧ f p q = some b ∧ Q (.bl b) H
/-- plain values -/
def vOf : P → V
  | .non => .non
  | .bl b => .bl b
  | .int i => .int i
  | .str x => .str x
  | _ => .non
theorem Rp.scl {w : World} {mg : Str → Option Value} {K : PySem.W.Frag} {H : Hp} {L : Addr → Prop} {v : V} {p : P} (h : Rp w mg nm K H L v p) (s : scl p = true) : v = vOf p := by
  cases h <;> first | rfl | cases s
theorem Rq.scl {w : World} {mg : Str → Option Value} {K : PySem.W.Frag} {H : Hp} {L : Addr → Prop} {v : V} {p : P} (h : Rq w mg nm K H L v p) (s : Ip.scl p = true) : v = vOf p := by
  cases h with
  | p h => exact h.scl s
  | l _ _ => cases s
theorem scl2_eq {p q : P} (h : scl2 p q = true) : scal (vOf p) (vOf q) = true ∧ decide (vOf p = vOf q) = eqP p q ∧ scl p = true ∧ scl q = true := by
  cases p <;> cases q <;> first
    | (refine ⟨rfl, ?_, rfl, rfl⟩; simp [vOf, eqP]; done)
    | (refine ⟨rfl, ?_, rfl, rfl⟩; rw [Bool.eq_iff_iff]; simp [vOf, eqP]; done)
    | (exact absurd h (by simp [scl2, scl]))
theorem op_eqD' (hu : X.A.units + 64 < cLine) : OpR X (compareOp .Eq) (rB2 X nm eqC) := by
  intro pins s σ H x y v u Q I rx ry h
  obtain ⟨ι, Z, M, p, q, b, hp, hq, hs, e, hb⟩ := h
  unfold eqC eqOk at e
  split at e
  · cases e
    rename_i hk
    rcases Bool.or_eq_true_iff.mp hk with h2 | h2
    · obtain ⟨h3, h4, h5, h6⟩ := scl2_eq h2
      rw [hp.scl h5] at rx
      rw [hq.scl h6] at ry
      exact op_eq pins s σ H _ _ v u Q I rx ry ⟨h3, by rw [h4]; exact hb⟩
    · obtain ⟨h3, h4⟩ := Bool.and_eq_true_iff.mp h2
      exact op_eqD hu pins s σ H _ _ v u Q I rx ry ⟨_, _, hp.dp h3, hq.dp h4, shaped_of h3, shaped_of h4, by rw [eqP_eqv 60 60 p q h3 h4]; exact hb⟩
  · cases e
theorem op_neD' (hu : X.A.units + 64 < cLine) : OpR X (compareOp .NotEq) (rB2 X nm neC) := by
  intro pins s σ H x y v u Q I rx ry h
  obtain ⟨ι, Z, M, p, q, b, hp, hq, hs, e, hb⟩ := h
  unfold neC eqOk at e
  split at e
  · cases e
    rename_i hk
    rcases Bool.or_eq_true_iff.mp hk with h2 | h2
    · obtain ⟨h3, h4, h5, h6⟩ := scl2_eq h2
      rw [hp.scl h5] at rx
      rw [hq.scl h6] at ry
      exact op_ne pins s σ H _ _ v u Q I rx ry ⟨h3, by rw [h4]; exact hb⟩
    · obtain ⟨h3, h4⟩ := Bool.and_eq_true_iff.mp h2
      exact op_neD hu pins s σ H _ _ v u Q I rx ry ⟨_, _, hp.dp h3, hq.dp h4, shaped_of h3, shaped_of h4, by rw [eqP_eqv 60 60 p q h3 h4]; exact hb⟩
  · cases e
theorem intC_some {f : Int → Int → Bool} {p q : P} {b : Bool} (e : intC f p q = some b) : ∃ i j, p = .int i ∧ q = .int j ∧ b = f i j := by
  unfold intC at e
  split at e
  · cases e
    exact ⟨_, _, rfl, rfl, rfl⟩
  · cases e
theorem op_intD {op : CmpOp} {f : Int → Int → Bool} (ho : OpR X (compareOp op) (rI0 fun i j => .bl (f i j))) : OpR X (compareOp op) (rB2 X nm (intC f)) := by
  intro pins s σ H x y v u Q I rx ry h
  obtain ⟨ι, Z, M, p, q, b, hp, hq, hs, e, hb⟩ := h
  obtain ⟨i, j, rfl, rfl, rfl⟩ := intC_some e
  rw [hp.int] at rx
  rw [hq.int] at ry
  exact ho pins s σ H _ _ v u Q I rx ry ⟨_, _, rfl, rfl, hb⟩
theorem Rq.isNon {w : World} {mg : Str → Option Value} {K : PySem.W.Frag} {H : Hp} {L : Addr → Prop} {v : V} {p : P} (h : Rq w mg nm K H L v p) : decide (v = .non) = isNon p := by
  cases h with
  | p h => cases h <;> first | rfl | simp [Ip.isNon]
  | l _ _ => simp [Ip.isNon]
theorem isC_some {p q : P} {b : Bool} (e : isC p q = some b) : (q = .non ∧ b = isNon p) ∨ ∃ c d, p = .bl c ∧ q = .bl d ∧ b = decide (c = d) := by
  unfold isC at e
  split at e
  · cases e
    exact .inl ⟨rfl, rfl⟩
  · cases e
    exact .inr ⟨_, _, rfl, rfl, rfl⟩
  · cases e
theorem op_isD : OpR X (compareOp .Is) (rB2 X nm isC) := by
  intro pins s σ H x y v u Q I rx ry h
  obtain ⟨ι, Z, M, p, q, b, hp, hq, hs, e, hb⟩ := h
  rcases isC_some e with ⟨rfl, rfl⟩ | ⟨c, d, rfl, rfl, rfl⟩
  · rw [hq.non] at ry
    exact op_isN pins s σ H _ _ v u Q I rx ry ⟨rfl, by rw [hp.isNon]; exact hb⟩
  · rw [hp.bl] at rx
    rw [hq.bl] at ry
    exact op_isBl pins s σ H _ _ v u Q I rx ry ⟨c, d, rfl, rfl, hb⟩
theorem map_some {α β : Type} {o : Option α} {f : α → β} {b : β} (h : o.map f = some b) : ∃ a, o = some a ∧ b = f a := by
  cases o with
  | none => cases h
  | some a => exact ⟨a, rfl, (Option.some.inj h).symm⟩
theorem op_isnD : OpR X (compareOp .IsNot) (rB2 X nm fun a b => (isC a b).map (!·)) := by
  intro pins s σ H x y v u Q I rx ry h
  obtain ⟨ι, Z, M, p, q, b, hp, hq, hs, e, hb⟩ := h
  obtain ⟨b0, e2, rfl⟩ := map_some e
  rcases isC_some e2 with ⟨rfl, rfl⟩ | ⟨c, d, rfl, rfl, rfl⟩
  · rw [hq.non] at ry
    exact op_notN pins s σ H _ _ v u Q I rx ry ⟨rfl, by rw [hp.isNon]; exact hb⟩
  · rw [hp.bl] at rx
    rw [hq.bl] at ry
    exact op_notBl pins s σ H _ _ v u Q I rx ry ⟨c, d, rfl, rfl, hb⟩
theorem scl_flat {p : P} (h : scl p = true) : flatV (vOf p) = true := by
  cases p <;> first | rfl | cases h
theorem scl_eqV {p q : P} (hp : scl p = true) (hq : scl q = true) : eqV (vOf p) (vOf q) = eqP p q := by
  cases p <;> first
    | (cases hp; done)
    | (cases q <;> first
        | (cases hq; done)
        | (simp [vOf, eqV, eqP]; done)
        | (rw [Bool.eq_iff_iff]; simp [vOf, eqV, eqP]; done))
theorem flat_all {w : World} {mg : Str → Option Value} {K : PySem.W.Frag} {H : Hp} {L : Addr → Prop} {a : P} (ha : scl a = true) : ∀ {vs : List V} {ps : List P}, Rps w mg nm K H L vs ps → ps.all scl = true → vs.all flatV = true ∧ inV (vOf a) vs = hasP a ps
  | _, _, .nil, _ => ⟨rfl, rfl⟩
  | _, _, .cons r t, h => by
    simp only [List.all_cons, Bool.and_eq_true] at h
    obtain ⟨h1, h2⟩ := flat_all ha t h.2
    rw [r.scl h.1]
    refine ⟨by simp [scl_flat h.1, h1], ?_⟩
    unfold inV hasP at h2 ⊢
    rw [List.any_cons, List.any_cons, h2, scl_eqV h.1 ha]
theorem pds_any {a : P} (ha : shp 60 a = true) : ∀ (ps : List P), shps 59 ps = true → ((pds ps).any fun z => PyData.eqv z (pd a)) = hasP a ps
  | [], _ => rfl
  | p :: ps, h => by
    rw [shps, Bool.and_eq_true] at h
    have ih := pds_any ha ps h.2
    unfold hasP at ih ⊢
    rw [pds, List.any_cons, List.any_cons, ih, eqP_eqv 59 60 p a h.1 ha]
theorem inC_some {a q : P} {b : Bool} (e : inC a q = some b) : (∃ ps, (q = .lst ps ∨ q = .tup ps) ∧ scl a = true ∧ ps.all scl = true ∧ b = hasP a ps) ∨ ∃ ps, q = .lst ps ∧ shp 60 a = true ∧ shps 59 ps = true ∧ b = hasP a ps := by
  unfold inC at e
  split at e
  · split at e
    · cases e
      rename_i h
      rcases Bool.or_eq_true_iff.mp h with h | h
      · obtain ⟨h1, h2⟩ := Bool.and_eq_true_iff.mp h
        exact .inl ⟨_, .inl rfl, h1, h2, rfl⟩
      · obtain ⟨h1, h2⟩ := Bool.and_eq_true_iff.mp h
        exact .inr ⟨_, rfl, h1, h2, rfl⟩
    · cases e
  · split at e
    · cases e
      rename_i h
      obtain ⟨h1, h2⟩ := Bool.and_eq_true_iff.mp h
      exact .inl ⟨_, .inr rfl, h1, h2, rfl⟩
    · cases e
  · cases e
theorem op_inC (hu : X.A.units + 65 < cLine) : OpR X (compareOp .In) (rB2 X nm inC) := by
  intro pins s σ H x y v u Q I rx ry h
  obtain ⟨ι, Z, M, p, q, b, hp, hq, hs, e, hb⟩ := h
  rcases inC_some e with ⟨ps, hk, h1, h2, rfl⟩ | ⟨ps, rfl, h1, h2, rfl⟩
  · have hx := hp.scl h1
    subst hx
    have aux : ∀ {a : Addr} {xs : List V}, y = .ref a → (SqL X.K H a xs ∨ SqT X.K H a xs) → RpsX X nm H (Lv ι Z) xs ps → wpAny (model X.prog X.w) X.A (compareOp .In v u) (EP X pins σ Q) X.xe s := fun {a xs} ey hsq r => by
      obtain ⟨h3, h4⟩ := flat_all h1 r h2
      exact op_in_seq pins s σ H _ _ v u Q I rx ry ⟨a, xs, ey, hsq, scl_flat h1, h3, by rw [if_neg (by decide), h4]; exact hb⟩
    rcases hk with rfl | rfl
    · obtain ⟨a, xs, ey, ha, r⟩ := hq.lst
      exact aux ey (.inl (.of ha)) r
    · obtain ⟨a, xs, ey, ha, r⟩ := hq.tup
      exact aux ey (.inr ha) r
  · have h3 : shp 60 (.lst ps) = true := by rw [shp]; exact h2
    have d1 := hq.dp h3
    rw [pd] at d1
    have s1 := shaped_of h3
    rw [pd] at s1
    exact op_inD hu pins s σ H _ _ v u Q I rx ry ⟨_, _, hp.dp h1, d1, shaped_of h1, s1, by rw [pds_any h1 ps h2]; exact hb⟩
theorem op_ninC (hu : X.A.units + 65 < cLine) : OpR X (compareOp .NotIn) (rB2 X nm fun a b => (inC a b).map (!·)) := by
  intro pins s σ H x y v u Q I rx ry h
  obtain ⟨ι, Z, M, p, q, b, hp, hq, hs, e, hb⟩ := h
  obtain ⟨b0, e2, rfl⟩ := map_some e
  rcases inC_some e2 with ⟨ps, hk, h1, h2, rfl⟩ | ⟨ps, rfl, h1, h2, rfl⟩
  · have hx := hp.scl h1
    subst hx
    have aux : ∀ {a : Addr} {xs : List V}, y = .ref a → (SqL X.K H a xs ∨ SqT X.K H a xs) → RpsX X nm H (Lv ι Z) xs ps → wpAny (model X.prog X.w) X.A (compareOp .NotIn v u) (EP X pins σ Q) X.xe s := fun {a xs} ey hsq r => by
      obtain ⟨h3, h4⟩ := flat_all h1 r h2
      exact op_notIn_seq pins s σ H _ _ v u Q I rx ry ⟨a, xs, ey, hsq, scl_flat h1, h3, by rw [if_pos rfl, h4]; exact hb⟩
    rcases hk with rfl | rfl
    · obtain ⟨a, xs, ey, ha, r⟩ := hq.lst
      exact aux ey (.inl (.of ha)) r
    · obtain ⟨a, xs, ey, ha, r⟩ := hq.tup
      exact aux ey (.inr ha) r
  · have h3 : shp 60 (.lst ps) = true := by rw [shp]; exact h2
    have d1 := hq.dp h3
    rw [pd] at d1
    have s1 := shaped_of h3
    rw [pd] at s1
    exact op_notInD hu pins s σ H _ _ v u Q I rx ry ⟨_, _, hp.dp h1, d1, shaped_of h1, s1, by rw [pds_any h1 ps h2]; exact hb⟩
def toCmp : COp → CmpOp
  | .eq => .Eq | .ne => .NotEq | .lt => .Lt | .le => .LtE | .gt => .Gt | .ge => .GtE | .is => .Is | .isn => .IsNot | .isin => .In | .nin => .NotIn
theorem op_cmpD (op : COp) (hu : X.A.units + 65 < cLine) : OpR X (compareOp (toCmp op)) (rB2 X nm (cmpP op)) := by
  have hu' : X.A.units + 64 < cLine := by omega
  cases op
  · exact op_eqD' hu'
  · exact op_neD' hu'
  · exact op_intD op_lt
  · exact op_intD op_le
  · exact op_intD op_gt
  · exact op_intD op_ge
  · exact op_isD
  · exact op_isnD
  · exact op_inC hu
  · exact op_ninC hu
end
/-! ### truth -/
section
variable {w : World} {mg : Str → Option Value} {nm : Nat → Str} {K : PySem.W.Frag} {H : Hp} {L : Addr → Prop}
theorem Rps.isEmpty {vs : List V} {ps : List P} (h : Rps w mg nm K H L vs ps) : vs.isEmpty = ps.isEmpty := by
  cases h <;> rfl
theorem Rq.tru {x : V} {p : P} {b : Bool} (h : Rq w mg nm K H L x p) (e : truP p = some b) : TruV K x H b := by
  cases p with
  | non => cases e; rw [h.non]; rfl
  | bl c => cases e; rw [h.bl]; rfl
  | int i => cases e; rw [h.int]; rfl
  | tup ps =>
    cases e
    obtain ⟨a, xs, rfl, ha, r⟩ := h.tup
    exact .inr (.inl ⟨xs, ha, by rw [r.isEmpty]⟩)
  | lst ps =>
    cases e
    obtain ⟨a, xs, rfl, ha, r⟩ := h.lst
    exact .inl ⟨xs, .of ha, by rw [r.isEmpty]⟩
  | _ => cases e
end
end Ip

set_option Elab.async false
set_option linter.all false
set_option maxRecDepth 100000
set_option maxHeartbeats 2000000
/-! IpNode: the nodes of expressions. -/
namespace Ip
open PySem PySem.Spec PyProof.Rows L2
theorem po_bind {w : World} {mg : Str → Option Value} {nm : Nat → Str} {K : PySem.W.Frag} {H : Hp} {ι : Io} {Z : Addr → Prop} {α β γ δ : Type} {S : Hp → Io → β → α → Prop} {S' : Hp → Io → δ → γ → Prop} {r : R α} {f : α → Hm → R γ} {Q : δ → Hp → Prop} {Q' : β → Hp → Prop} {Ex : XK}
    (h : Po w mg nm K S' H ι Z (r.bind f) Q Ex) (k : ∀ u M1 v H1 ι1, r = .ok u M1 → Ev H ι H1 ι1 → S H1 ι1 v u → SR w mg nm K H1 ι1 Z M1 → Po w mg nm K S' H1 ι1 Z (f u M1) Q Ex → Q' v H1) : Po w mg nm K S H ι Z r Q' Ex := by
  cases r with
  | ok u M1 => exact fun v H1 ι1 ev s sr => k u M1 v H1 ι1 rfl ev s sr (Po.ev h ev)
  | ex c M1 => exact h
  | no => exact h
theorem po_of {w : World} {mg : Str → Option Value} {nm : Nat → Str} {K : PySem.W.Frag} {H : Hp} {ι : Io} {Z : Addr → Prop} {α γ δ : Type} {S' : Hp → Io → δ → γ → Prop} {o : Option α} {M : Hm} {f : α → Hm → R γ} {Q : δ → Hp → Prop} {Ex : XK}
    (h : Po w mg nm K S' H ι Z ((R.of o M).bind f) Q Ex) : ∃ a, o = some a ∧ Po w mg nm K S' H ι Z (f a M) Q Ex := by
  cases o with
  | none => exact h.elim
  | some a => exact ⟨a, rfl, h⟩
section
variable (X : Cx) (nm : Nat → Str) (cb : Cb) (CN : Nat → Option P) (Wx : WX)
/-- an expression's reading by the evaluator -/
def tD (ce : CE) : TE := fun σ H Q => ∃ ι Z ρ M, REX X nm H ι Z σ ρ ∧ SRX X nm H ι Z M ∧ PoU X nm H ι Z (evE cb CN ce ρ M) Q (fun c d H' => Wx c d σ H')

/-- a test's -/
def tT (ce : CE) : TT := fun σ H Q => ∃ ι Z ρ M, REX X nm H ι Z σ ρ ∧ SRX X nm H ι Z M ∧ Po X.w X.mg nm X.K SB H ι Z (evT cb CN ce ρ M) Q (fun c d H' => Wx c d σ H')
/-- arguments' -/
def tA (es : List CE) : TA := fun σ H Q => ∃ ι Z ρ M, REX X nm H ι Z σ ρ ∧ SRX X nm H ι Z M ∧ Po X.w X.mg nm X.K (SUs X.w X.mg nm X.K Z) H ι Z (evU cb CN es ρ M) Q (fun c d H' => Wx c d σ H')
end
section
variable {X : Cx} {e : Expr} {es : List Expr} {c : Expr} {st : Stmt} {sts : List Stmt}
theorem _root_.L2.PE.imp {t t' : TE} (h : PE X e t) (hi : ∀ σ H Q, t' σ H Q → t σ H Q) : PE X e t' := ⟨fun pins s σ H Q I q => h.run pins s σ H Q I (hi σ H Q q)⟩
theorem _root_.L2.PT.imp {t t' : TT} (h : PT X e t) (hi : ∀ σ H Q, t' σ H Q → t σ H Q) : PT X e t' := ⟨fun pins s σ H Q I q => h.run pins s σ H Q I (hi σ H Q q)⟩
theorem _root_.L2.PA.imp {t t' : TA} (h : PA X es t) (hi : ∀ σ H Q, t' σ H Q → t σ H Q) : PA X es t' := ⟨fun pos pins s σ H Q I q => h.run pos pins s σ H Q I (hi σ H Q q)⟩
end
/-- what an expression is not -/
def noStar : Expr → Bool
  | .Starred .. => false
  | _ => true
def noSet : Expr → Bool
  | .Set .. => false
  | _ => true
def plainT : Expr → Bool
  | .UnaryOp .. => false
  | .BoolOp .. => false
  | .IfExp .. => false
  | .Compare .. => false
  | _ => true
def noComp : Expr → Bool
  | .ListComp .. => false
  | .SetComp .. => false
  | .DictComp .. => false
  | _ => true
theorem star_cons {e : Expr} {es : List Expr} {env : Env} (h : noStar e = true) : starEach (e :: es) env = (false, eval e env) :: starEach es env := by
  cases e <;> first | rfl | cases h
theorem star_none {env : Env} {pos : Pos} : ∀ {es : List Expr}, es.all noStar = true → (backTo pos (starEach es env)).any (·.1) = false
  | [], _ => rfl
  | e :: es, h => by
    simp only [List.all_cons, Bool.and_eq_true] at h
    rw [star_cons h.1]
    show (false || (backTo pos (starEach es env)).any (·.1)) = false
    rw [star_none h.2]
    rfl
theorem mark_no {op : CmpOp} {e : Expr} (h : noSet e = true) : behindInMarks op e = false := by
  cases e <;> first | rfl | cases h
theorem isTrue_pl {e : Expr} {env : Env} (h : plainT e = true) (whole : Sem Value) : isTrue e env whole = (do let v ← whole; standAt e.pos; holding [v] (truthy v)) := by
  cases e <;> first | rfl | cases h
section
variable {X : Cx} {nm : Nat → Str} {cb : Cb} {CN : Nat → Option P} {Wx : WX} {pos : Pos}
/-! ### leaves -/
theorem d_var {i : Nat} {x : Str} (hN : X.N[i]? = some x) (hv : Vis X.env.scope x) (hd : (x == ("__debug__" : Str)) = false) (hcd : (x == ("__classdict__" : Str)) = false) : PE X (.Name x pos) (tD X nm cb CN Wx (.var i)) := by
  refine (pe_var hN hv hd hcd).imp fun σ H Q h => ?_
  obtain ⟨ι, Z, ρ, M, re, sr, h⟩ := h
  rw [evE] at h
  cases hr : ρ[i]? with
  | none => rw [hr] at h; exact h.elim
  | some o =>
    cases o with
    | none => rw [hr] at h; exact h.elim
    | some u =>
      rw [hr] at h
      obtain ⟨v, h1, h2⟩ := re.at_ i u hr
      exact ⟨v, h1, h v H ι Ev.refl h2 sr⟩
def constB : P → Const → Bool
  | .non, .none => true
  | .bl a, .bool b => a == b
  | .int i, .int j => i == j
  | .str x, .str y => decide (x = y)
  | _, _ => false
theorem d_cst {p : P} {c : Const} {j : Nat} (h : constB p c = true) : PE X (.Constant c j pos) (tD X nm cb CN Wx (.cst p)) := by
  cases p <;> cases c <;> first
    | (cases h; done)
    | (refine pe_non.imp fun σ H Q h => ?_
       obtain ⟨ι, Z, ρ, M, re, sr, h⟩ := h
       exact h _ H ι Ev.refl .non sr)
    | (have e := eq_of_beq h
       subst e
       first
         | (refine pe_bl.imp fun σ H Q h => ?_
            obtain ⟨ι, Z, ρ, M, re, sr, h⟩ := h
            exact h _ H ι Ev.refl (.bl _) sr)
         | (refine pe_int.imp fun σ H Q h => ?_
            obtain ⟨ι, Z, ρ, M, re, sr, h⟩ := h
            exact h _ H ι Ev.refl (.int _) sr))
    | (have e := of_decide_eq_true h
       subst e
       refine pe_str.imp fun σ H Q h => ?_
       obtain ⟨ι, Z, ρ, M, re, sr, h⟩ := h
       exact h _ H ι Ev.refl (.str _) sr)
/-- what the module's constants are -/
def ConOk (co : Nat → Bool) (w : World) (mg : Str → Option Value) (nm : Nat → Str) (K : PySem.W.Frag) (cn : Nat → Str) (CN : Nat → Option P) : Prop :=
  ∀ c p, co c = true → CN c = some p → ∃ u v, mg (cn c) = some u ∧ RelV v u ∧ ∀ H L, Rp w mg nm K H L v p
theorem d_con {co : Nat → Bool} {cn : Nat → Str} {c : Nat} {x : Str} (hC : ConOk co X.w X.mg nm X.K cn CN) (hco : co c = true) (hg : Gl X x) (hx : cn c = x) (hd : (x == ("__debug__" : Str)) = false) : PE X (.Name x pos) (tD X nm cb CN Wx (.con c)) := by
  cases e : CN c with
  | none =>
    refine ⟨fun pins s σ H Q I h => ?_⟩
    obtain ⟨ι, Z, ρ, M, re, sr, h⟩ := h
    rw [evE, e] at h
    exact h.elim
  | some p =>
    obtain ⟨u, v, h1, h2, h3⟩ := hC c p hco e
    rw [hx] at h1
    refine (pe_glob hg h1 h2 hd).imp fun σ H Q h => ?_
    obtain ⟨ι, Z, ρ, M, re, sr, h⟩ := h
    rw [evE, e] at h
    exact h v H ι Ev.refl (h3 _ _) sr
theorem d_glb {g : Nat} {x : Str} {a : Addr} (hg : Gl X x) (hx : nm g = x) (hm : X.mg x = some (.ref a)) (hd : (x == ("__debug__" : Str)) = false) : PE X (.Name x pos) (tD X nm cb CN Wx (.glb g)) := by
  refine (pe_glob (v := .ref a) hg hm rfl hd).imp fun σ H Q h => ?_
  obtain ⟨ι, Z, ρ, M, re, sr, h⟩ := h
  rw [evE] at h
  exact h (.ref a) H ι Ev.refl (.glb (by rw [hx]; exact hm)) sr
/-! ### arguments -/
theorem d_nil : PA X [] (tA X nm cb CN Wx []) := by
  refine pa_nil.imp fun σ H Q h => ?_
  obtain ⟨ι, Z, ρ, M, re, sr, h⟩ := h
  rw [evU] at h
  exact h [] H ι Ev.refl .nil sr
theorem d_cons {e : Expr} {es : List Expr} {ce : CE} {ces : List CE} (hs : noStar e = true) (h1 : PE X e (tD X nm cb CN Wx ce)) (h2 : PA X es (tA X nm cb CN Wx ces)) : PA X (e :: es) (tA X nm cb CN Wx (ce :: ces)) := by
  refine (pa_cons h1 h2 (star_cons hs)).imp fun σ H Q h => ?_
  obtain ⟨ι, Z, ρ, M, re, sr, h⟩ := h
  rw [evU] at h
  refine ⟨ι, Z, ρ, M, re, sr, po_bind h fun u M1 v H1 ι1 _ ev ru sr1 h1 => ⟨ι1, Z, ρ, M1, re.ev ev, sr1, po_bind h1 fun us M2 vs H2 ι2 _ ev2 rus sr2 h2 => ?_⟩⟩
  exact h2 (v :: vs) H2 ι2 Ev.refl (.cons (ru.ev ev2) rus) sr2
theorem asPs_ok {w : World} {mg : Str → Option Value} {K : PySem.W.Frag} {H : Hp} {ι : Io} {Z : Addr → Prop} : ∀ {us : List U} {vs : List V} {ps : List P}, asPs us = some ps → Paired (fun v u => RU w mg nm K H ι Z v u) vs us → Rps w mg nm K H (Lv ι Z) vs ps
  | [], _, _, e, h => by
    cases h
    cases e
    exact .nil
  | u :: us, _, _, e, h => by
    cases h with
    | cons r t =>
      cases u with
      | p x =>
        rw [asPs] at e
        obtain ⟨ps, e2, rfl⟩ := map_some e
        exact .cons r (asPs_ok e2 t)
      | _ => simp [asPs] at e
theorem rdAll_ok {w : World} {mg : Str → Option Value} {K : PySem.W.Frag} {H : Hp} {ι : Io} {Z : Addr → Prop} {M : Hm} (s : SR w mg nm K H ι Z M) : ∀ {us : List U} {vs : List V} {ps : List P}, rdAll M us = some ps → Paired (fun v u => RU w mg nm K H ι Z v u) vs us → Paired (fun v p => Rq w mg nm K H (Lv ι Z) v p) vs ps
  | [], _, _, e, h => by
    cases h
    cases e
    exact .nil
  | u :: us, _, _, e, h => by
    cases h with
    | cons r t =>
      rw [rdAll] at e
      split at e
      · cases e
        rename_i h1 h2
        exact .cons (rd_q r s h1) (rdAll_ok s h2 t)
      · cases e
theorem paired_len {α β : Type} {F : α → β → Prop} : ∀ {xs : List α} {ys : List β}, Paired F xs ys → xs.length = ys.length
  | _, _, .nil => rfl
  | _, _, .cons _ t => by simp [paired_len t]
theorem evU_len {es : List CE} {ρ : Rho} : ∀ {M : Hm} {us : List U} {M' : Hm}, evU cb CN es ρ M = .ok us M' → us.length = es.length := by
  induction es with
  | nil =>
    intro M us M' h
    rw [evU] at h
    cases h
    rfl
  | cons e es ih =>
    intro M us M' h
    rw [evU] at h
    cases h1 : evE cb CN e ρ M with
    | ok u M1 =>
      rw [h1] at h
      simp only [R.bind] at h
      cases h2 : evU cb CN es ρ M1 with
      | ok us1 M2 =>
        rw [h2] at h
        cases h
        simp [ih h2]
      | ex c M2 => rw [h2] at h; cases h
      | no => rw [h2] at h; cases h
    | ex c M1 => rw [h1] at h; cases h
    | no => rw [h1] at h; cases h
theorem small_line {n : Nat} (h : n ≤ 1000) : n ≤ sizeLine := by rw [sizeLine_eq]; omega
theorem d_tup {es : List Expr} {ces : List CE} {k : Nat} (hl : ces.length ≤ 1000) (h : PA X es (tA X nm cb CN Wx ces)) : PE X (.Tuple es k pos) (tD X nm cb CN Wx (.tup ces)) := by
  refine (pe_tup h).imp fun σ H Q h => ?_
  obtain ⟨ι, Z, ρ, M, re, sr, h⟩ := h
  rw [evE] at h
  refine ⟨ι, Z, ρ, M, re, sr, po_bind h fun us M1 vs H1 ι1 e1 ev rus sr1 h1 => ?_⟩
  obtain ⟨ps, e2, h2⟩ := po_of h1
  exact ⟨small_line (by rw [paired_len rus, evU_len e1]; exact hl), fun p hp => po_tup h2 sr1 (asPs_ok e2 rus) hp⟩
theorem d_lst {es : List Expr} {ces : List CE} {m : Bool} (hl : ces.length ≤ 1000) (h : PA X es (tA X nm cb CN Wx ces)) : PE X (.List es pos) (tD X nm cb CN Wx (.lst m ces)) := by
  refine (pe_lst h).imp fun σ H Q h => ?_
  obtain ⟨ι, Z, ρ, M, re, sr, h⟩ := h
  rw [evE] at h
  refine ⟨ι, Z, ρ, M, re, sr, po_bind h fun us M1 vs H1 ι1 e1 ev rus sr1 h1 => ?_⟩
  obtain ⟨ps, e2, h2⟩ := po_of h1
  exact ⟨small_line (by rw [paired_len rus, evU_len e1]; exact hl), fun p hp => mk_lst h2 sr1 (asPs_ok e2 rus) hp⟩
/-! ### operators -/
variable {a b c : Expr} {ca cc cd : CE}
theorem d_bin {op : BOp} {m : Bool} (ha : PE X a (tD X nm cb CN Wx ca)) (hb : PE X b (tD X nm cb CN Wx cc)) : PE X (.BinOp a (toOp op) b pos) (tD X nm cb CN Wx (.bin m op ca cc)) := by
  refine (pe_op (op_binD (nm := nm) op (m := m)) ha hb).imp fun σ H Q h => ?_
  obtain ⟨ι, Z, ρ, M, re, sr, h⟩ := h
  rw [evE] at h
  refine ⟨ι, Z, ρ, M, re, sr, po_bind h fun u M1 v H1 ι1 e1 ev ru sr1 h1 => ⟨ι1, Z, ρ, M1, re.ev ev, sr1, po_bind h1 fun u2 M2 v2 H2 ι2 e2 ev2 ru2 sr2 h2 => ?_⟩⟩
  split at h2
  · rename_i p q hp hq
    obtain ⟨z, e3, h3⟩ := po_of h2
    exact ⟨ι2, Z, M2, p, q, z, rd_q (ru.ev ev2) sr2 hp, rd_q ru2 sr2 hq, sr2, e3, _, h3⟩
  · exact h2.elim
theorem d_neg (ha : PE X a (tD X nm cb CN Wx ca)) : PE X (.UnaryOp .USub a pos) (tD X nm cb CN Wx (.neg ca)) := by
  refine (pe_un un_neg ha).imp fun σ H Q h => ?_
  obtain ⟨ι, Z, ρ, M, re, sr, h⟩ := h
  rw [evE] at h
  refine ⟨ι, Z, ρ, M, re, sr, po_bind h fun u M1 v H1 ι1 e1 ev ru sr1 h1 => ?_⟩
  split at h1
  · cases ru
    exact ⟨_, rfl, h1 _ H1 ι1 Ev.refl (.int _) sr1⟩
  · exact h1.elim
/-- the reading of a comparison -/
theorem tD_cmp {op : COp} {σ : L2.St} {H : Hp} {Q : VK} (h : tD X nm cb CN Wx (.cmp op ca cc) σ H Q) : tOp (rB2 X nm (cmpP op)) (tD X nm cb CN Wx ca) (tD X nm cb CN Wx cc) σ H Q := by
  obtain ⟨ι, Z, ρ, M, re, sr, h⟩ := h
  rw [evE] at h
  refine ⟨ι, Z, ρ, M, re, sr, po_bind h fun u M1 v H1 ι1 e1 ev ru sr1 h1 => ⟨ι1, Z, ρ, M1, re.ev ev, sr1, po_bind h1 fun u2 M2 v2 H2 ι2 e2 ev2 ru2 sr2 h2 => ?_⟩⟩
  split at h2
  · rename_i p q hp hq
    obtain ⟨z, e3, h3⟩ := po_of h2
    exact ⟨ι2, Z, M2, p, q, z, rd_q (ru.ev ev2) sr2 hp, rd_q ru2 sr2 hq, sr2, e3, h3 _ H2 ι2 Ev.refl (.bl z) sr2⟩
  · exact h2.elim
/-- a test's reading from its value's -/
theorem tT_of {ce : CE} {σ : L2.St} {H : Hp} {Q : Bool → Hp → Prop} (h : tT X nm cb CN Wx ce σ H Q) : tD X nm cb CN Wx ce σ H fun x H' => ∃ k, TruV X.K x H' k ∧ Q k H' := by
  obtain ⟨ι, Z, ρ, M, re, sr, h⟩ := h
  refine ⟨ι, Z, ρ, M, re, sr, po_bind h fun u M1 v H1 ι1 e1 ev ru sr1 h1 => ?_⟩
  cases e : (rd M1 u).bind truP with
  | none => rw [e] at h1; exact h1.elim
  | some k =>
    rw [e] at h1
    obtain ⟨p, e2, e3⟩ := Option.bind_eq_some_iff.mp e
    exact ⟨k, (rd_q ru sr1 e2).tru e3, h1 k H1 ι1 Ev.refl rfl sr1⟩
theorem t_plain {ce : CE} (hp : plainT e = true) (h : PE X e (tD X nm cb CN Wx ce)) : PT X e (tT X nm cb CN Wx ce) :=
  (pt_truth h (isTrue_pl hp)).imp fun _ _ _ q => tT_of q
/-- .. where the value is a bool -/
theorem tT_bl {ce : CE} (hb : ∀ ρ M u M', evE cb CN ce ρ M = .ok u M' → ∃ k, u = .p (.bl k)) {σ : L2.St} {H : Hp} {Q : Bool → Hp → Prop} (h : tT X nm cb CN Wx ce σ H Q) : tD X nm cb CN Wx ce σ H fun x H' => ∃ k, x = .bl k ∧ Q k H' := by
  obtain ⟨ι, Z, ρ, M, re, sr, h⟩ := h
  refine ⟨ι, Z, ρ, M, re, sr, po_bind h fun u M1 v H1 ι1 e1 ev ru sr1 h1 => ?_⟩
  obtain ⟨k, rfl⟩ := hb _ _ _ _ e1
  cases ru
  exact ⟨k, rfl, h1 k H1 ι1 Ev.refl rfl sr1⟩
theorem bl_bind {α : Type} {r : R α} {f : α → Hm → R U} (hf : ∀ a M u M', f a M = .ok u M' → ∃ k, u = .p (.bl k)) {u : U} {M' : Hm} (h : r.bind f = .ok u M') : ∃ k, u = .p (.bl k) := by
  cases r with
  | ok a M => exact hf a M u M' h
  | ex c M => cases h
  | no => cases h
theorem bl_cmp {op : COp} {ρ : Rho} {M : Hm} {u : U} {M' : Hm} (h : evE cb CN (.cmp op ca cc) ρ M = .ok u M') : ∃ k, u = .p (.bl k) := by
  rw [evE] at h
  refine bl_bind (fun x M u M' h => bl_bind (fun y M u M' h => ?_) h) h
  split at h
  · refine bl_bind (fun k M u M' h => ?_) h
    cases h
    exact ⟨_, rfl⟩
  · cases h
theorem d_cmp {op : COp} (hu : X.A.units + 65 < cLine) (hs : noSet b = true) (ha : PE X a (tD X nm cb CN Wx ca)) (hb : PE X b (tD X nm cb CN Wx cc)) : PE X (.Compare a [toCmp op] [b] pos) (tD X nm cb CN Wx (.cmp op ca cc)) :=
  (pe_cmpR (op_cmpD op hu) ha hb (mark_no hs)).imp fun _ _ _ h => tD_cmp h
theorem t_cmp {op : COp} (hu : X.A.units + 65 < cLine) (hs : noSet b = true) (ha : PE X a (tD X nm cb CN Wx ca)) (hb : PE X b (tD X nm cb CN Wx cc)) : PT X (.Compare a [toCmp op] [b] pos) (tT X nm cb CN Wx (.cmp op ca cc)) :=
  (pt_cmpR (op_cmpD op hu) ha hb (mark_no hs)).imp fun _ _ _ h => tD_cmp (tT_bl (fun _ _ _ _ => bl_cmp) h)
theorem bl_cmp2 {op op' : COp} {ρ : Rho} {M : Hm} {u : U} {M' : Hm} (h : evE cb CN (.cmp2 op op' ca cc cd) ρ M = .ok u M') : ∃ k, u = .p (.bl k) := by
  rw [evE] at h
  refine bl_bind (fun x M u M' h => bl_bind (fun y M u M' h => ?_) h) h
  split at h
  · refine bl_bind (fun k M u M' h => ?_) h
    split at h
    · refine bl_bind (fun z M u M' h => ?_) h
      split at h
      · refine bl_bind (fun k M u M' h => ?_) h
        cases h
        exact ⟨_, rfl⟩
      · cases h
    · cases h
      exact ⟨_, rfl⟩
  · cases h
theorem tD_cmp2 {op op' : COp} {σ : L2.St} {H : Hp} {Q : VK} (h : tD X nm cb CN Wx (.cmp2 op op' ca cc cd) σ H Q) : tChain (rB2 X nm (cmpP op)) (rB2 X nm (cmpP op')) (tD X nm cb CN Wx ca) (tD X nm cb CN Wx cc) (tD X nm cb CN Wx cd) σ H Q := by
  obtain ⟨ι, Z, ρ, M, re, sr, h⟩ := h
  rw [evE] at h
  refine ⟨ι, Z, ρ, M, re, sr, po_bind h fun u M1 v H1 ι1 e1 ev ru sr1 h1 => ⟨ι1, Z, ρ, M1, re.ev ev, sr1, po_bind h1 fun u2 M2 v2 H2 ι2 e2 ev2 ru2 sr2 h2 => ?_⟩⟩
  split at h2
  · rename_i p q hp hq
    obtain ⟨k, e3, h3⟩ := po_of h2
    refine ⟨ι2, Z, M2, p, q, k, rd_q (ru.ev ev2) sr2 hp, rd_q ru2 sr2 hq, sr2, e3, k, rfl, ?_⟩
    cases k with
    | true =>
      rw [if_pos rfl] at h3
      rw [if_pos rfl]
      refine ⟨ι2, Z, ρ, M2, (re.ev ev).ev ev2, sr2, po_bind h3 fun u3 M3 v3 H3 ι3 e3 ev3 ru3 sr3 h4 => ?_⟩
      split at h4
      · rename_i q' r hq' hr
        obtain ⟨k2, e5, h5⟩ := po_of h4
        exact ⟨ι3, Z, M3, q', r, k2, rd_q (ru2.ev ev3) sr3 hq', rd_q ru3 sr3 hr, sr3, e5, h5 _ H3 ι3 Ev.refl (.bl k2) sr3⟩
      · exact h4.elim
    | false =>
      rw [if_neg Bool.false_ne_true] at h3
      rw [if_neg Bool.false_ne_true]
      exact h3 _ H2 ι2 Ev.refl (.bl _) sr2
  · exact h2.elim
end
end Ip

set_option Elab.async false
set_option linter.all false
set_option maxRecDepth 100000
set_option maxHeartbeats 2000000
/-! IpNode2: the nodes of expressions, on. -/
namespace Ip
open PySem PySem.Spec PyProof.Rows L2
section
variable {X : Cx} {nm : Nat → Str} {cb : Cb} {CN : Nat → Option P} {Wx : WX} {pos : Pos} {a b c : Expr} {ca cc cd : CE} {rest : List Expr}
theorem d_cmp2 {op op' : COp} (hu : X.A.units + 65 < cLine) (hm : noSet c = true) (ha : PE X a (tD X nm cb CN Wx ca)) (hb : PE X b (tD X nm cb CN Wx cc)) (hc : PE X c (tD X nm cb CN Wx cd)) : PE X (.Compare a [toCmp op, toCmp op'] [b, c] pos) (tD X nm cb CN Wx (.cmp2 op op' ca cc cd)) :=
  (pe_chain (op_cmpD op hu) (op_cmpD op' hu) ha hb hc (mark_no hm)).imp fun _ _ _ h => tD_cmp2 h
theorem t_cmp2 {op op' : COp} (hu : X.A.units + 65 < cLine) (hm : noSet c = true) (ha : PE X a (tD X nm cb CN Wx ca)) (hb : PE X b (tD X nm cb CN Wx cc)) (hc : PE X c (tD X nm cb CN Wx cd)) : PT X (.Compare a [toCmp op, toCmp op'] [b, c] pos) (tT X nm cb CN Wx (.cmp2 op op' ca cc cd)) :=
  (pt_chain (op_cmpD op hu) (op_cmpD op' hu) ha hb hc (mark_no hm)).imp fun _ _ _ h => tD_cmp2 (tT_bl (fun _ _ _ _ => bl_cmp2) h)
/-! ### and, or, not, if else -/
theorem evE_ife {ρ : Rho} {M : Hm} : evE cb CN (.ife ca cc cd) ρ M = (evT cb CN ca ρ M).bind fun k M => if k then evE cb CN cc ρ M else evE cb CN cd ρ M := by
  rw [evE, evT]
  cases evE cb CN ca ρ M with
  | ok u M1 =>
    simp only [R.bind]
    cases (rd M1 u).bind truP with
    | none => rfl
    | some k => cases k <;> rfl
  | ex c M1 => rfl
  | no => rfl
theorem evT_ife {ρ : Rho} {M : Hm} : evT cb CN (.ife ca cc cd) ρ M = (evT cb CN ca ρ M).bind fun k M => if k then evT cb CN cc ρ M else evT cb CN cd ρ M := by
  rw [evT, evE_ife]
  cases evT cb CN ca ρ M with
  | ok k M1 => cases k <;> rfl
  | ex c M1 => rfl
  | no => rfl
theorem evT_and {ρ : Rho} {M : Hm} : evT cb CN (.and ca cc) ρ M = (evT cb CN ca ρ M).bind fun k M => if k then evT cb CN cc ρ M else .ok false M := by
  rw [evT, evE, evT]
  cases evE cb CN ca ρ M with
  | ok u M1 =>
    simp only [R.bind]
    cases e : (rd M1 u).bind truP with
    | none => rfl
    | some k =>
      cases k with
      | true => rfl
      | false =>
        show R.of ((rd M1 u).bind truP) M1 = _
        rw [e]
        rfl
  | ex c M1 => rfl
  | no => rfl
theorem evT_or {ρ : Rho} {M : Hm} : evT cb CN (.or ca cc) ρ M = (evT cb CN ca ρ M).bind fun k M => if k then .ok true M else evT cb CN cc ρ M := by
  rw [evT, evE, evT]
  cases evE cb CN ca ρ M with
  | ok u M1 =>
    simp only [R.bind]
    cases e : (rd M1 u).bind truP with
    | none => rfl
    | some k =>
      cases k with
      | false => rfl
      | true =>
        show R.of ((rd M1 u).bind truP) M1 = _
        rw [e]
        rfl
  | ex c M1 => rfl
  | no => rfl
theorem evT_not {ρ : Rho} {M : Hm} : evT cb CN (.not ca) ρ M = (evT cb CN ca ρ M).bind fun k M => .ok (!k) M := by
  rw [evT, evE, evT]
  cases evE cb CN ca ρ M with
  | ok u M1 =>
    simp only [R.bind]
    cases e : (rd M1 u).bind truP with
    | none => rfl
    | some k => cases k <;> rfl
  | ex c M1 => rfl
  | no => rfl
theorem d_ife (hc : PT X c (tT X nm cb CN Wx cc)) (ha : PE X a (tD X nm cb CN Wx ca)) (hb : PE X b (tD X nm cb CN Wx cd)) : PE X (.IfExp c a b pos) (tD X nm cb CN Wx (.ife cc ca cd)) := by
  refine (pe_ifExp hc ha hb).imp fun σ H Q h => ?_
  obtain ⟨ι, Z, ρ, M, re, sr, h⟩ := h
  rw [evE_ife] at h
  refine ⟨ι, Z, ρ, M, re, sr, po_bind h fun k M1 v H1 ι1 e1 ev ru sr1 h1 => ?_⟩
  have e : v = k := ru
  subst e
  cases v with
  | true =>
    rw [if_pos rfl] at h1 ⊢
    exact ⟨ι1, Z, ρ, M1, re.ev ev, sr1, h1⟩
  | false =>
    rw [if_neg Bool.false_ne_true] at h1 ⊢
    exact ⟨ι1, Z, ρ, M1, re.ev ev, sr1, h1⟩
theorem pt_ife {t ta tb : TT} (hc : PT X c t) (ha : PT X a ta) (hb : PT X b tb) : PT X (.IfExp c a b pos) (fun σ H Q => t σ H fun k H1 => if k = true then ta σ H1 Q else tb σ H1 Q) := by
  refine ⟨fun pins s σ H Q I h => ?_⟩
  show wpAny _ _ (do if ← isTrue c X.env (eval c X.env) then isTrue a X.env (eval a X.env) else isTrue b X.env (eval b X.env)) _ _ _
  refine wpAny_bind (thn (hc.run pins s σ H _ I h) fun k s1 ⟨H1, I1, q1⟩ => ?_)
  cases k with
  | true => exact ha.run pins s1 σ H1 Q I1 q1
  | false => exact hb.run pins s1 σ H1 Q I1 q1
theorem t_ife (hc : PT X c (tT X nm cb CN Wx cc)) (ha : PT X a (tT X nm cb CN Wx ca)) (hb : PT X b (tT X nm cb CN Wx cd)) : PT X (.IfExp c a b pos) (tT X nm cb CN Wx (.ife cc ca cd)) := by
  refine (pt_ife hc ha hb).imp fun σ H Q h => ?_
  obtain ⟨ι, Z, ρ, M, re, sr, h⟩ := h
  rw [evT_ife] at h
  refine ⟨ι, Z, ρ, M, re, sr, po_bind h fun k M1 v H1 ι1 e1 ev ru sr1 h1 => ?_⟩
  have e : v = k := ru
  subst e
  cases v with
  | true =>
    rw [if_pos rfl] at h1 ⊢
    exact ⟨ι1, Z, ρ, M1, re.ev ev, sr1, h1⟩
  | false =>
    rw [if_neg Bool.false_ne_true] at h1 ⊢
    exact ⟨ι1, Z, ρ, M1, re.ev ev, sr1, h1⟩
/-- a value's truth ahead of what is done with it -/
theorem tD_tru {f : U → Bool → Hm → R U} {ce : CE} {σ : L2.St} {H : Hp} {ι : Io} {Z : Addr → Prop} {ρ : Rho} {M : Hm} {Q : VK} {Q' : V → Hp → Prop} (re : REX X nm H ι Z σ ρ) (sr : SRX X nm H ι Z M)
    (h : PoU X nm H ι Z ((evE cb CN ce ρ M).bind fun x M => match (rd M x).bind truP with
      | some k => f x k M
      | none => .no) Q (fun c d H' => Wx c d σ H'))
    (k : ∀ u k M1 v H1 ι1, RUX X nm H1 ι1 Z v u → REX X nm H1 ι1 Z σ ρ → SRX X nm H1 ι1 Z M1 → TruV X.K v H1 k → PoU X nm H1 ι1 Z (f u k M1) Q (fun c d H' => Wx c d σ H') → Q' v H1) : tD X nm cb CN Wx ce σ H Q' := by
  refine ⟨ι, Z, ρ, M, re, sr, po_bind h fun u M1 v H1 ι1 e1 ev ru sr1 h1 => ?_⟩
  cases e : (rd M1 u).bind truP with
  | none => rw [e] at h1; exact h1.elim
  | some b =>
    rw [e] at h1
    obtain ⟨p, e2, e3⟩ := Option.bind_eq_some_iff.mp e
    exact k u b M1 v H1 ι1 ru (re.ev ev) sr1 ((rd_q ru sr1 e2).tru e3) h1
theorem d_and (ha : PE X a (tD X nm cb CN Wx ca)) (hb : PE X (.BoolOp .And (b :: rest) pos) (tD X nm cb CN Wx cc)) : PE X (.BoolOp .And (a :: b :: rest) pos) (tD X nm cb CN Wx (.and ca cc)) := by
  refine (pe_andT ha hb).imp fun σ H Q h => ?_
  obtain ⟨ι, Z, ρ, M, re, sr, h⟩ := h
  rw [evE] at h
  refine tD_tru (f := fun x k M => if k then evE cb CN cc ρ M else .ok x M) re sr (by
    refine Eq.mp (congrArg (fun r => PoU X nm H ι Z r Q (fun c d H' => Wx c d σ H')) ?_) h
    refine congrArg _ (funext fun x => funext fun M => ?_)
    cases (rd M x).bind truP with
    | none => rfl
    | some k => cases k <;> rfl) fun u k M1 v H1 ι1 ru re1 sr1 tv h1 => ⟨k, tv, ?_⟩
  cases k with
  | true =>
    rw [if_pos rfl] at h1 ⊢
    exact ⟨ι1, Z, ρ, M1, re1, sr1, h1⟩
  | false =>
    rw [if_neg Bool.false_ne_true] at h1 ⊢
    exact h1 v H1 ι1 Ev.refl ru sr1
theorem d_or (ha : PE X a (tD X nm cb CN Wx ca)) (hb : PE X (.BoolOp .Or (b :: rest) pos) (tD X nm cb CN Wx cc)) : PE X (.BoolOp .Or (a :: b :: rest) pos) (tD X nm cb CN Wx (.or ca cc)) := by
  refine (pe_orT ha hb).imp fun σ H Q h => ?_
  obtain ⟨ι, Z, ρ, M, re, sr, h⟩ := h
  rw [evE] at h
  refine tD_tru (f := fun x k M => if k then .ok x M else evE cb CN cc ρ M) re sr (by
    refine Eq.mp (congrArg (fun r => PoU X nm H ι Z r Q (fun c d H' => Wx c d σ H')) ?_) h
    refine congrArg _ (funext fun x => funext fun M => ?_)
    cases (rd M x).bind truP with
    | none => rfl
    | some k => cases k <;> rfl) fun u k M1 v H1 ι1 ru re1 sr1 tv h1 => ⟨k, tv, ?_⟩
  cases k with
  | false =>
    rw [if_neg Bool.false_ne_true] at h1 ⊢
    exact ⟨ι1, Z, ρ, M1, re1, sr1, h1⟩
  | true =>
    rw [if_pos rfl] at h1 ⊢
    exact h1 v H1 ι1 Ev.refl ru sr1
theorem d_not (ha : PE X a (tD X nm cb CN Wx ca)) : PE X (.UnaryOp .Not a pos) (tD X nm cb CN Wx (.not ca)) := by
  refine (pe_notT ha).imp fun σ H Q h => ?_
  obtain ⟨ι, Z, ρ, M, re, sr, h⟩ := h
  rw [evE] at h
  exact tD_tru (f := fun x k M => .ok (.p (.bl (!k))) M) re sr h fun u k M1 v H1 ι1 ru re1 sr1 tv h1 => ⟨k, tv, h1 _ H1 ι1 Ev.refl (.bl _) sr1⟩
theorem d_one {op : BoolOp} (ha : PE X a (tD X nm cb CN Wx ca)) : PE X (.BoolOp op [a] pos) (tD X nm cb CN Wx ca) := pe_one ha
theorem _root_.L2.PW.imp {e : Expr} {t t' : TT} (h : PW X e t) (hi : ∀ σ H Q, t' σ H Q → t σ H Q) : PW X e t' := ⟨fun wh pins s σ H Q I q => h.run wh pins s σ H Q I (hi σ H Q q)⟩
theorem t_and (ha : PT X a (tT X nm cb CN Wx ca)) (hb : PW X (.BoolOp .And (b :: rest) pos) (tT X nm cb CN Wx cc)) : PW X (.BoolOp .And (a :: b :: rest) pos) (tT X nm cb CN Wx (.and ca cc)) := by
  refine (pw_and ha hb).imp fun σ H Q h => ?_
  obtain ⟨ι, Z, ρ, M, re, sr, h⟩ := h
  rw [evT_and] at h
  refine ⟨ι, Z, ρ, M, re, sr, po_bind h fun k M1 v H1 ι1 e1 ev ru sr1 h1 => ?_⟩
  have e : v = k := ru
  subst e
  cases v with
  | true =>
    rw [if_pos rfl] at h1 ⊢
    exact ⟨ι1, Z, ρ, M1, re.ev ev, sr1, h1⟩
  | false =>
    rw [if_neg Bool.false_ne_true] at h1 ⊢
    exact h1 false H1 ι1 Ev.refl rfl sr1
theorem t_or (ha : PT X a (tT X nm cb CN Wx ca)) (hb : PW X (.BoolOp .Or (b :: rest) pos) (tT X nm cb CN Wx cc)) : PW X (.BoolOp .Or (a :: b :: rest) pos) (tT X nm cb CN Wx (.or ca cc)) := by
  refine (pw_or ha hb).imp fun σ H Q h => ?_
  obtain ⟨ι, Z, ρ, M, re, sr, h⟩ := h
  rw [evT_or] at h
  refine ⟨ι, Z, ρ, M, re, sr, po_bind h fun k M1 v H1 ι1 e1 ev ru sr1 h1 => ?_⟩
  have e : v = k := ru
  subst e
  cases v with
  | false =>
    rw [if_neg Bool.false_ne_true] at h1 ⊢
    exact ⟨ι1, Z, ρ, M1, re.ev ev, sr1, h1⟩
  | true =>
    rw [if_pos rfl] at h1 ⊢
    exact h1 true H1 ι1 Ev.refl rfl sr1
theorem t_and1 (ha : PT X a (tT X nm cb CN Wx ca)) : PW X (.BoolOp .And [a] pos) (tT X nm cb CN Wx ca) := pw_and1 ha
theorem t_or1 (ha : PT X a (tT X nm cb CN Wx ca)) : PW X (.BoolOp .Or [a] pos) (tT X nm cb CN Wx ca) := pw_or1 ha
theorem t_not (ha : PT X a (tT X nm cb CN Wx ca)) : PT X (.UnaryOp .Not a pos) (tT X nm cb CN Wx (.not ca)) := by
  refine (pt_not ha).imp fun σ H Q h => ?_
  obtain ⟨ι, Z, ρ, M, re, sr, h⟩ := h
  rw [evT_not] at h
  refine ⟨ι, Z, ρ, M, re, sr, po_bind h fun k M1 v H1 ι1 e1 ev ru sr1 h1 => ?_⟩
  have e : v = k := ru
  subst e
  exact h1 (!v) H1 ι1 Ev.refl rfl sr1
/-! ### a list that changes no more -/
theorem d_frz {e : Expr} {ce : CE} (h : PE X e (tD X nm cb CN Wx ce)) : PE X e (tD X nm cb CN Wx (.frz ce)) := by
  refine h.imp fun σ H Q h => ?_
  obtain ⟨ι, Z, ρ, M, re, sr, h⟩ := h
  rw [evE] at h
  refine ⟨ι, Z, ρ, M, re, sr, po_bind h fun u M1 v H1 ι1 e1 ev ru sr1 h1 => ?_⟩
  cases u with
  | ref i =>
    cases hm : M1[i]? with
    | none => simp only [hm] at h1; exact h1.elim
    | some o =>
      cases o with
      | lst ps =>
        simp only [hm] at h1
        obtain ⟨a, ha⟩ := sr1.liv i _ hm rfl
        obtain ⟨o, h3, h4⟩ := sr1.ent i a ha
        rw [hm] at h3
        cases h3
        obtain ⟨xs, h5, h6⟩ := h4
        have ev2 : Ev H1 ι1 H1 (ι1.set i none) := Ev.kill
        rw [ru.2 a ha]
        refine h1 _ H1 _ ev2 (.lst h5 ?_ (Rps.ev ev2 ps xs h6)) sr1.kill
        rintro (z | z)
        · obtain ⟨j, hj⟩ := List.mem_iff_getElem?.mp z
          by_cases q : i = j
          · subst q
            rw [List.getElem?_set_self (List.getElem?_eq_some_iff.mp ha).1] at hj
            cases hj
          · rw [List.getElem?_set_ne q] at hj
            exact q (sr1.nd i j a ha hj)
        · exact sr1.zi a z (List.mem_of_getElem? ha)
      | dct ks vs =>
        obtain ⟨a, ha⟩ := sr1.liv i _ hm rfl
        obtain ⟨o, h3, h4⟩ := sr1.ent i a ha
        rw [hm] at h3
        cases h3
        exact h4.elim
      | dead => simp only [hm] at h1; exact h1.elim
  | p _ => exact h1.elim
  | clo _ _ _ => exact h1.elim
  | exn _ => exact h1.elim
end
end Ip

set_option Elab.async false
set_option linter.all false
set_option maxRecDepth 100000
set_option maxHeartbeats 4000000
/-! IpRevT: t[::-1] of a tuple. -/
namespace Ip
open PySem PySem.Spec PyProof.Rows L2 HT
section
variable {prog : Program} {w : World} {A : Around} {E : Value → Shared → Prop} {s : Shared}
theorem places_rev (n : Nat) : Builtin.Slice.slicePlaces ((n : Int) - 1) (-1) (-1) = n := by
  unfold Builtin.Slice.slicePlaces
  rw [if_neg (by omega)]
  by_cases h : (n : Int) - 1 > -1
  · rw [if_pos h]
    have e : ((n : Int) - 1 - -1 - 1) / (- -1) + 1 = n := by
      rw [show (- -1 : Int) = 1 from rfl, Int.ediv_one]
      omega
    rw [e]
    omega
  · rw [if_neg h]
    omega
theorem sliceApplied_rev {sl : Addr} {vs : Value} {n : Nat} {Q : Int × Int × Nat → Shared → Prop} (hs : s.heap.get? sl = some { cls := .type "slice", data := .fields #[.none, .none, vs] }) (ps : IsPart vs (some (-1)))
    (h : Q ((n : Int) - 1, -1, n) s) : wpAny (model prog w) A (Builtin.Slice.sliceApplied (.ref sl) (pure (n : Int))) Q E s := by
  unfold Builtin.Slice.sliceApplied Builtin.Slice.sliceFields
  refine wpAny_bind (wpAny_bind (wpAny_field hs rfl (x := .none) rfl (wpAny_bind (wpAny_field hs rfl (x := .none) rfl (wpAny_bind (wpAny_field hs rfl (x := vs) rfl (wpAny_pure ?_)))))))
  refine wpAny_bind (slicePart_ ps ?_)
  show wpAny _ _ (if ((-1 : Int) == 0) = true then _ else _) _ _ s
  rw [if_neg (by decide)]
  refine wpAny_bind (slicePart_ .none (wpAny_bind (slicePart_ .none (wpAny_bind (wpAny_pure ?_)))))
  show wpAny _ _ (match Builtin.Slice.sliceAdjust none none (-1) (n : Int) with | (lo, hi) => pure (lo, (-1 : Int), Builtin.Slice.slicePlaces lo hi (-1))) _ _ s
  have e : Builtin.Slice.sliceAdjust none none (-1) (n : Int) = ((n : Int) - 1, -1) := by
    unfold Builtin.Slice.sliceAdjust
    simp
  rw [e]
  show wpAny _ _ (pure ((n : Int) - 1, (-1 : Int), Builtin.Slice.slicePlaces ((n : Int) - 1) (-1) (-1))) _ _ s
  rw [places_rev]
  exact wpAny_pure h
theorem fm_map {α β : Type} {f : α → Option β} {g : α → β} : ∀ {l : List α}, (∀ m ∈ l, f m = some (g m)) → l.filterMap f = l.map g
  | [], _ => rfl
  | x :: l, h => by
    rw [List.filterMap_cons_some (h x List.mem_cons_self), List.map_cons, fm_map fun m hm => h m (List.mem_cons_of_mem _ hm)]
theorem pick_rev (xs : Array Value) : ((List.range xs.size).filterMap fun (m : Nat) => xs[(((xs.size : Nat) : Int) - 1 + (m : Int) * -1).toNat]?).toArray = xs.toList.reverse.toArray := by
  refine congrArg List.toArray ?_
  refine List.ext_getElem? fun i => ?_
  have e : (List.range xs.size).filterMap (fun (m : Nat) => xs[(((xs.size : Nat) : Int) - 1 + (m : Int) * -1).toNat]?) = (List.range xs.size).map fun m => xs.toList[xs.size - 1 - m]?.getD .none := by
    refine fm_map fun m hm => ?_
    have hm : m < xs.size := List.mem_range.mp hm
    have e1 : (((xs.size : Nat) : Int) - 1 + (m : Int) * -1).toNat = xs.size - 1 - m := by omega
    rw [e1]
    have hl : xs.size - 1 - m < xs.size := by omega
    simp [hl]
  rw [e]
  by_cases hi : i < xs.size
  · rw [List.getElem?_map, List.getElem?_range hi, List.getElem?_reverse (by simpa using hi)]
    have hl : xs.size - 1 - i < xs.size := by omega
    simp [hl]
  · rw [List.getElem?_eq_none (by simpa using hi), List.getElem?_eq_none (by simpa using hi)]
theorem getItem_tuple_rev {t sl : Addr} {items : Array Value} {vs : Value} {Q : Value → Shared → Prop} (ht : IsTup s.heap t items) (hs : s.heap.get? sl = some { cls := .type "slice", data := .fields #[.none, .none, vs] }) (ps : IsPart vs (some (-1)))
    (h : Q (.ref s.heap.objs.size) { s with heap := s.heap.push { cls := .type "tuple", data := .seq items.toList.reverse.toArray } })
    (hsz : items.size ≤ sizeLine) : wpAny (model prog w) A (getItem (.ref t) (.ref sl)) Q E s := by
  have htake : sizeOk (.seq items.toList.reverse.toArray) := by
    show items.toList.reverse.toArray.size ≤ sizeLine
    rw [List.size_toArray, List.length_reverse, Array.length_toList]
    omega
  have hTs : s.TypeIs (.ref sl) "slice" := ⟨_, hs, rfl⟩
  unfold getItem
  try with_reducible refine wpAny_holding ?_
  first | refine wpAny_bind (wpAny_pure ?_) | skip
  refine wpAny_bind (wpAny_sequenceKey ht.typeIs (by decide) ?_)
  refine wpAny_bind (wpAny_callSpecial?_slot (name := Str.ofString "__getitem__") ht.typeIs PyProof.Rows.slot_tuple_getitem
    (wpAny_call_entry PyProof.Rows.slot_tuple_getitem ht.typeIs entry_tuple_getitem ?_ (args_tuple_getitem _ _)))
  show wpAny _ _ (Builtin.Tuple.tupleItemsOf (.ref t) >>= _) _ _ s
  refine wpAny_bind (tupleItemsOf_ ht ?_)
  refine wpAny_bind (wpAny_typeOf hTs ?_)
  rw [if_pos (by decide)]
  refine wpAny_bind (sliceApplied_rev hs ps ?_)
  have hno : ¬ ((((items.size : Nat) : Int) - 1 == 0 && (-1 : Int) == 1 && items.size == items.size) = true) := by
    rw [show ((-1 : Int) == 1) = false from rfl, Bool.and_false, Bool.false_and]
    exact Bool.false_ne_true
  show wpAny _ _ (if (((items.size : Nat) : Int) - 1 == 0 && (-1 : Int) == 1 && items.size == items.size) = true then _ else _) _ _ s
  rw [if_neg hno, pick_rev]
  first
    | exact wpAny_bind (m := Builtin.Tuple.tupleExact _) (wpAny_newObj_type (wpAny_pure ⟨_, rfl, wpAny_pure h⟩) htake)
    | exact wpAny_bind (m := Builtin.Tuple.tupleExact _) (wpAny_newObj_type (wpAny_bind (wpAny_pure (wpAny_pure ⟨_, rfl, wpAny_pure h⟩))) htake)
    | exact wpAny_bind (wpAny_bind (m := Builtin.Tuple.tupleExact _) (wpAny_newObj_type (wpAny_pure (wpAny_pure ⟨_, rfl, wpAny_pure h⟩)) htake))
    | exact wpAny_bind (wpAny_bind (m := Builtin.Tuple.tupleExact _) (wpAny_newObj_type (wpAny_pure ⟨_, rfl, wpAny_pure h⟩) htake))
end
def tRevA (K : PySem.W.Frag) (te : TE) : TE := fun σ H Q => te σ H fun x H1 => ∃ a xs, x = .ref a ∧ ((SqL K H1 a xs ∧ ∀ p, H1 p = none → Q (.ref p) (upd H1 p (.lst xs.reverse))) ∨ (SqT K H1 a xs ∧ ∀ p, H1 p = none → Q (.ref p) (upd H1 p (.tup xs.reverse))))
theorem pe_revA {X : Cx} {e : Expr} {te : TE} {k : Nat} {p1 p2 p3 pos : Pos} (he : PE X e te) : PE X (.Subscript e (.Slice none none (some (.UnaryOp .USub (.Constant (.int 1) k p1) p2)) p3) pos) (tRevA X.K te) := by
  refine ⟨fun pins s σ H Q I h => ?_⟩
  refine Subscript_ (thn (he.run pins s σ H _ I h) fun v s1 ⟨x, H1, I1, r1, q1⟩ => ?_)
  obtain ⟨a, xs, ex, q⟩ := q1
  subst ex
  cases r1
  have hst : PO X (some (.UnaryOp .USub (.Constant (.int 1) k p1) p2)) (tPart (tUn (rU fun i => .int (-i)) (tC (.int 1)))) := po_some (pe_un un_neg pe_int)
  refine wpAny_Slice (thn (po_none.run pins s1 σ H1 (fun o H2 => o = none ∧ H2 = H1) I1 ⟨rfl, rfl⟩) fun vl s2 ⟨l, H2, I2, pl, el, e2⟩ => ?_)
  subst el e2
  refine thn (po_none.run pins s2 σ H2 (fun o H3 => o = none ∧ H3 = H2) I2 ⟨rfl, rfl⟩) fun vu s3 ⟨u, H3, I3, pu, eu, e3⟩ => ?_
  subst eu e3
  refine thn (hst.run pins s3 σ H3 (fun o H4 => o = some (-1) ∧ H4 = H3) I3 ⟨1, rfl, -1, rfl, rfl, rfl⟩) fun vs s4 ⟨o, H4, I4, ps, eo, e4⟩ => ?_
  subst eo e4
  have I5 : Inv X pins σ H4 { s4 with heap := s4.heap.push { cls := .type "slice", data := .fields #[vl, vu, vs] } } := I4.kept (t' := s4.toks) fun b ob q => Heap.get?_push_of_some _ q
  rcases q with ⟨hx, q⟩ | ⟨hx, q⟩
  · obtain ⟨its, r, ht, hz⟩ := I5.list hx
    have hlen := r.length
    show wpAny (model X.prog X.w) X.A (subscriptTail e (.Slice none none (some (.UnaryOp .USub (.Constant (.int 1) k p1) p2)) p3) (.ref a) (.ref s4.heap.objs.size)) (EP X pins σ Q) X.xe { s4 with heap := s4.heap.push { cls := .type "slice", data := .fields #[vl, vu, vs] } }
    refine tail_any (ops := [.ref a, .ref s4.heap.objs.size]) ht.isList.typeIs (PySem.slot_list_getitem.lookup) ?_ (by with_unfolding_all rfl)
    refine wpAny_getItem_list_slice ht.isList (Heap.IsSliceOf.new _ vl vu vs) pl pu ps (by decide) ?_ (by rw [List.size_toArray]; omega)
    rw [PySem.W.krv_pick]
    refine ⟨.ref _, _, I5.laid (t' := s4.toks) (o := .lst xs.reverse) (fun b ob q => Heap.get?_push_of_some _ q) (Nat.le_refl _) ?_, rfl, q _ (I5.hok.fresh (Nat.le_refl _))⟩
    exact ⟨by rw [List.length_reverse]; exact hz, _, 0, r.reverse, Heap.get?_push_size _ rfl⟩
  · obtain ⟨its, r, ht, hz⟩ := I5.tuple hx
    have hlen := r.length
    cases pl
    cases pu
    show wpAny (model X.prog X.w) X.A (subscriptTail e (.Slice none none (some (.UnaryOp .USub (.Constant (.int 1) k p1) p2)) p3) (.ref a) (.ref s4.heap.objs.size)) (EP X pins σ Q) X.xe { s4 with heap := s4.heap.push { cls := .type "slice", data := .fields #[.none, .none, vs] } }
    refine tail_any (ops := [.ref a, .ref s4.heap.objs.size]) ht.typeIs (PyProof.Rows.slot_tuple_getitem.lookup) ?_ (by with_unfolding_all rfl)
    refine getItem_tuple_rev ht (Heap.get?_push_size _ rfl) ps ?_ (by rw [List.size_toArray]; omega)
    refine ⟨.ref _, _, I5.laid (t' := s4.toks) (o := .tup xs.reverse) (fun b ob q => Heap.get?_push_of_some _ q) (Nat.le_refl _) ?_, rfl, q _ (I5.hok.fresh (Nat.le_refl _))⟩
    exact ⟨by rw [List.length_reverse]; exact hz, _, by simpa using r.reverse, IsTup.new _ _⟩
end Ip

set_option Elab.async false
set_option linter.all false
set_option maxRecDepth 100000
set_option maxHeartbeats 2000000
/-! IpBlt: built-in functions by data. -/
namespace Ip
open PySem PySem.Spec PyProof.Rows L2
section
variable {X : Cx} {nm : Nat → Str}
def rBl (X : Cx) (nm : Nat → Str) (f : List P → Option P) (m : Bool) : List V → Hp → VK → Prop := fun vs H Q => ∃ ι Z M ps z Ex, Paired (fun v p => RqX X nm H (Lv ι Z) v p) vs ps ∧ SRX X nm H ι Z M ∧ f ps = some z ∧ PoU X nm H ι Z (mk m z M) Q Ex
theorem one_of {α β : Type} {F : α → β → Prop} {vs : List α} {p : β} (h : Paired F vs [p]) : ∃ v, vs = [v] ∧ F v p := by
  cases h with
  | cons r t =>
    cases t
    exact ⟨_, rfl, r⟩
theorem two_of {α β : Type} {F : α → β → Prop} {vs : List α} {p q : β} (h : Paired F vs [p, q]) : ∃ v u, vs = [v, u] ∧ F v p ∧ F u q := by
  cases h with
  | cons r t =>
    cases t with
    | cons r2 t2 =>
      cases t2
      exact ⟨_, _, rfl, r, r2⟩
theorem ints_map : ∀ {ps : List P} {is : List Int}, intsP ps = some is → ps = is.map .int
  | [], _, e => by cases e; rfl
  | p :: ps, _, e => by
    cases p <;> simp [intsP] at e
    obtain ⟨js, h1, rfl⟩ := e
    rw [ints_map h1]
    rfl
theorem bools_map : ∀ {ps : List P} {bs : List Bool}, boolsP ps = some bs → ps = bs.map .bl
  | [], _, e => by cases e; rfl
  | p :: ps, _, e => by
    cases p <;> simp [boolsP] at e
    obtain ⟨js, h1, rfl⟩ := e
    rw [bools_map h1]
    rfl
section
variable {w : World} {mg : Str → Option Value} {K : PySem.W.Frag} {H : Hp} {L : Addr → Prop}
theorem Rps.intsV : ∀ {vs : List V} {is : List Int}, Rps w mg nm K H L vs (is.map .int) → vs = is.map V.int
  | [], [], _ => rfl
  | _ :: _, [], h => by cases h
  | [], _ :: _, h => by cases h
  | v :: vs, i :: is, h => by
    cases h with
    | cons r t =>
      cases r
      rw [Rps.intsV t]
      rfl
theorem Rps.boolsV : ∀ {vs : List V} {bs : List Bool}, Rps w mg nm K H L vs (bs.map .bl) → vs = bs.map V.bl
  | [], [], _ => rfl
  | _ :: _, [], h => by cases h
  | [], _ :: _, h => by cases h
  | v :: vs, i :: is, h => by
    cases h with
    | cons r t =>
      cases r
      rw [Rps.boolsV t]
      rfl
theorem Rps.ofInts : ∀ (is : List Int), Rps w mg nm K H L (is.map V.int) (is.map .int)
  | [] => .nil
  | i :: is => .cons (.int i) (Rps.ofInts is)
theorem Rq.scr {x : V} {ps : List P} (h : Rq w mg nm K H L x (.scr ps)) : ∃ a xs, x = .ref a ∧ SqS K H a xs ∧ Rps w mg nm K H L xs ps := by
  cases h with
  | p h => cases h with
    | scr h1 h2 => exact ⟨_, _, rfl, h1, h2⟩
end
theorem bl_len {m : Bool} : CallR X (.builtin "len") (rBl X nm lenP m) := by
  intro pins s σ H vs us Q I r h
  obtain ⟨ι, Z, M, ps, z, Ex, hp, sr, e, hz⟩ := h
  unfold lenP at e
  split at e
  · obtain ⟨v, rfl, hv⟩ := one_of hp
    have fin : ∀ {a : Addr} {xs : List V} {qs : List P}, v = .ref a → (SqL X.K H a xs ∨ SqT X.K H a xs) → xs.length = qs.length → PoU X nm H ι Z (mk m (.int qs.length) M) Q Ex → wpAny (model X.prog X.w) X.A (call (.builtin "len") us) (EP X pins σ Q) X.xe s := fun {a xs qs} ev hs hl hz => by
      subst ev
      exact call_len_seq pins s σ H [.ref a] us Q I r ⟨a, xs, rfl, hs, by rw [hl]; exact mk_p rfl hz sr (.int _)⟩
    split at e
    · cases e
      obtain ⟨a, xs, ev, ha, ra⟩ := hv.tup
      exact fin ev (.inr ha) ra.length hz
    · cases e
      obtain ⟨a, xs, ev, ha, ra⟩ := hv.lst
      exact fin ev (.inl (.of ha)) ra.length hz
    · cases e
      obtain ⟨a, xs, ev, ha, ra⟩ := hv.scr
      exact fin ev (.inl ha.sq) ra.length hz
    · cases e
  · cases e
theorem bl_int {m : Bool} : CallR X (.type "int") (rBl X nm intP m) := by
  intro pins s σ H vs us Q I r h
  obtain ⟨ι, Z, M, ps, z, Ex, hp, sr, e, hz⟩ := h
  unfold intP at e
  split at e
  · obtain ⟨v, rfl, hv⟩ := one_of hp
    split at e
    · cases e
      rw [hv.int] at r
      exact call_int1 pins s σ H _ us Q I r (.inl ⟨_, rfl, mk_p rfl hz sr (.int _)⟩)
    · cases e
      rw [hv.bl] at r
      exact call_int1 pins s σ H _ us Q I r (.inr ⟨_, rfl, mk_p rfl hz sr (.int _)⟩)
    · cases e
  · cases e
theorem bl_bool {m : Bool} : CallR X (.type "bool") (rBl X nm boolP m) := by
  intro pins s σ H vs us Q I r h
  obtain ⟨ι, Z, M, ps, z, Ex, hp, sr, e, hz⟩ := h
  unfold boolP at e
  split at e
  · obtain ⟨v, rfl, hv⟩ := one_of hp
    split at e
    · cases e
      rw [hv.bl] at r
      exact call_bool1 pins s σ H _ us Q I r (.inr ⟨_, rfl, mk_p rfl hz sr (.bl _)⟩)
    · cases e
      rw [hv.int] at r
      exact call_bool1 pins s σ H _ us Q I r (.inl ⟨_, rfl, mk_p rfl hz sr (.bl _)⟩)
    · cases e
  · cases e
theorem bl_abs {m : Bool} : CallR X (.builtin "abs") (rBl X nm absP m) := by
  intro pins s σ H vs us Q I r h
  obtain ⟨ι, Z, M, ps, z, Ex, hp, sr, e, hz⟩ := h
  unfold absP at e
  split at e
  · obtain ⟨v, rfl, hv⟩ := one_of hp
    split at e
    · cases e
      rw [hv.int] at r
      exact call_abs pins s σ H _ us Q I r ⟨_, rfl, mk_p rfl hz sr (.int _)⟩
    · cases e
  · cases e
/-- sum of a tuple of ints -/
theorem call_sumT (hc : X.calm = true) : CallR X (.builtin "sum") (fun vs H Q => ∃ (a : Addr) (ns : List Int), vs = [V.ref a] ∧ SqT X.K H a (ns.map V.int) ∧ Q (.int ns.sum) H) := by
  intro pins s σ H vs us Q I r h
  obtain ⟨a, ns, rfl, hs, q⟩ := h
  obtain ⟨its, rv, hl, _⟩ := I.tuple hs
  rw [Vals.ref1 r]
  obtain ⟨xs, hx⟩ := rv.ints.allInts.items
  have hn : numsOf its.toArray.toList = ns := by rw [show its.toArray.toList = its from rfl, rv.ints.numsOf]
  have hl' : s.heap.IsTuple a its.toArray := hl
  rw [hx] at hl' hn
  rw [nums_intItems] at hn
  refine PySem.W.ktm_sumG (I.ok.hd hc) hl' fun h' tk t' hk => ⟨.int _, H, I.kept hk, ⟨_, rfl⟩, ?_⟩
  rw [preSum_eq, List.take_of_length_le (by simp), hn]
  exact q
theorem intsOf_some {p : P} {is : List Int} (e : intsOf p = some is) : p = .tup (is.map .int) ∨ p = .lst (is.map .int) := by
  unfold intsOf at e
  obtain ⟨ps, h1, h2⟩ := Option.bind_eq_some_iff.mp e
  have h3 := ints_map h2
  subst h3
  cases p <;> simp [seqOf] at h1
  · subst h1; exact .inl rfl
  · subst h1; exact .inr rfl
theorem bl_sum {m : Bool} (hc : X.calm = true) : CallR X (.builtin "sum") (rBl X nm sumP m) := by
  intro pins s σ H vs us Q I r h
  obtain ⟨ι, Z, M, ps, z, Ex, hp, sr, e, hz⟩ := h
  unfold sumP at e
  split at e
  · obtain ⟨v, rfl, hv⟩ := one_of hp
    split at e
    · rename_i is hi
      cases e
      rcases intsOf_some hi with rfl | rfl
      · obtain ⟨a, xs, rfl, ha, ra⟩ := hv.tup
        rw [ra.intsV] at ha
        exact call_sumT hc pins s σ H _ us Q I r ⟨a, is, rfl, ha, mk_p rfl hz sr (.int _)⟩
      · obtain ⟨a, xs, rfl, ha, ra⟩ := hv.lst
        rw [ra.intsV] at ha
        exact cr_sum hc pins s σ H _ us Q I r ⟨a, is, rfl, .of ha, mk_p rfl hz sr (.int _)⟩
    · cases e
  · cases e
theorem minL_ok : ∀ {is : List Int} {k : Int}, minL is = some k → k ∈ is ∧ ∀ j ∈ is, k ≤ j
  | [], _, e => by cases e
  | [i], k, e => by
    have e : i = k := Option.some.inj e
    subst e
    exact ⟨List.mem_singleton.mpr rfl, fun j hj => by rw [List.mem_singleton.mp hj]; exact Int.le_refl _⟩
  | i :: j :: is, k, e => by
    obtain ⟨q, h1, h2⟩ := map_some (show (minL (j :: is)).map _ = some k from e)
    obtain ⟨h3, h4⟩ := minL_ok h1
    subst h2
    by_cases hh : i ≤ q
    · rw [if_pos hh]
      refine ⟨List.mem_cons_self, fun x hx => ?_⟩
      rcases List.mem_cons.mp hx with rfl | hx
      · exact Int.le_refl _
      · exact Int.le_trans hh (h4 x hx)
    · rw [if_neg hh]
      refine ⟨List.mem_cons_of_mem _ h3, fun x hx => ?_⟩
      rcases List.mem_cons.mp hx with rfl | hx
      · omega
      · exact h4 x hx
theorem maxL_ok : ∀ {is : List Int} {k : Int}, maxL is = some k → k ∈ is ∧ ∀ j ∈ is, j ≤ k
  | [], _, e => by cases e
  | [i], k, e => by
    have e : i = k := Option.some.inj e
    subst e
    exact ⟨List.mem_singleton.mpr rfl, fun j hj => by rw [List.mem_singleton.mp hj]; exact Int.le_refl _⟩
  | i :: j :: is, k, e => by
    obtain ⟨q, h1, h2⟩ := map_some (show (maxL (j :: is)).map _ = some k from e)
    obtain ⟨h3, h4⟩ := maxL_ok h1
    subst h2
    by_cases hh : q ≤ i
    · rw [if_pos hh]
      refine ⟨List.mem_cons_self, fun x hx => ?_⟩
      rcases List.mem_cons.mp hx with rfl | hx
      · exact Int.le_refl _
      · exact Int.le_trans (h4 x hx) hh
    · rw [if_neg hh]
      refine ⟨List.mem_cons_of_mem _ h3, fun x hx => ?_⟩
      rcases List.mem_cons.mp hx with rfl | hx
      · omega
      · exact h4 x hx
theorem lstI_some {p : P} {is : List Int} (e : lstI p = some is) : p = .lst (is.map .int) := by
  cases p <;> simp [lstI] at e
  rw [ints_map e]
theorem bl_min {m : Bool} (hc : X.calm = true) : CallR X (.builtin "min") (rBl X nm minP m) := by
  intro pins s σ H vs us Q I r h
  obtain ⟨ι, Z, M, ps, z, Ex, hp, sr, e, hz⟩ := h
  unfold minP at e
  split at e
  · obtain ⟨v, rfl, hv⟩ := one_of hp
    obtain ⟨k, h1, rfl⟩ := map_some e
    obtain ⟨is, h2, h3⟩ := Option.bind_eq_some_iff.mp h1
    have h4 := lstI_some h2
    subst h4
    obtain ⟨h5, h6⟩ := minL_ok h3
    obtain ⟨a, xs, rfl, ha, ra⟩ := hv.lst
    rw [ra.intsV] at ha
    refine cr_min hc pins s σ H _ us Q I r ⟨a, is, rfl, .of ha, List.length_pos_of_mem h5, fun m' h7 h8 => ?_⟩
    have e9 : m' = k := Int.le_antisymm (h8 k h5) (h6 m' h7)
    rw [e9]
    exact mk_p rfl hz sr (.int _)
  · obtain ⟨v, u, rfl, hv, hu⟩ := two_of hp
    split at e
    · cases e
      rw [hv.int, hu.int] at r
      exact call_min2 hc pins s σ H _ us Q I r ⟨_, _, rfl, mk_p rfl hz sr (.int _)⟩
    · cases e
  · cases e
theorem bl_max {m : Bool} (hc : X.calm = true) : CallR X (.builtin "max") (rBl X nm maxP m) := by
  intro pins s σ H vs us Q I r h
  obtain ⟨ι, Z, M, ps, z, Ex, hp, sr, e, hz⟩ := h
  unfold maxP at e
  split at e
  · obtain ⟨v, rfl, hv⟩ := one_of hp
    obtain ⟨k, h1, rfl⟩ := map_some e
    obtain ⟨is, h2, h3⟩ := Option.bind_eq_some_iff.mp h1
    have h4 := lstI_some h2
    subst h4
    obtain ⟨h5, h6⟩ := maxL_ok h3
    obtain ⟨a, xs, rfl, ha, ra⟩ := hv.lst
    rw [ra.intsV] at ha
    refine cr_max hc pins s σ H _ us Q I r ⟨a, is, rfl, .of ha, List.length_pos_of_mem h5, fun m' h7 h8 => ?_⟩
    have e9 : m' = k := Int.le_antisymm (h6 m' h7) (h8 k h5)
    rw [e9]
    exact mk_p rfl hz sr (.int _)
  · obtain ⟨v, u, rfl, hv, hu⟩ := two_of hp
    split at e
    · cases e
      rw [hv.int, hu.int] at r
      exact call_max2 hc pins s σ H _ us Q I r ⟨_, _, rfl, mk_p rfl hz sr (.int _)⟩
    · cases e
  · cases e
theorem bl_all {m : Bool} (hc : X.calm = true) : CallR X (.builtin "all") (rBl X nm allP m) := by
  intro pins s σ H vs us Q I r h
  obtain ⟨ι, Z, M, ps, z, Ex, hp, sr, e, hz⟩ := h
  unfold allP at e
  split at e
  · obtain ⟨v, rfl, hv⟩ := one_of hp
    split at e
    · obtain ⟨bs, h1, rfl⟩ := map_some e
      have h2 := bools_map h1
      subst h2
      obtain ⟨a, xs, rfl, ha, ra⟩ := hv.lst
      rw [ra.boolsV] at ha
      exact cr_all hc pins s σ H _ us Q I r ⟨a, bs, rfl, .of ha, mk_p rfl hz sr (.bl _)⟩
    · cases e
  · cases e
theorem bl_any {m : Bool} (hc : X.calm = true) : CallR X (.builtin "any") (rBl X nm anyP m) := by
  intro pins s σ H vs us Q I r h
  obtain ⟨ι, Z, M, ps, z, Ex, hp, sr, e, hz⟩ := h
  unfold anyP at e
  split at e
  · obtain ⟨v, rfl, hv⟩ := one_of hp
    split at e
    · obtain ⟨bs, h1, rfl⟩ := map_some e
      have h2 := bools_map h1
      subst h2
      obtain ⟨a, xs, rfl, ha, ra⟩ := hv.lst
      rw [ra.boolsV] at ha
      exact cr_any hc pins s σ H _ us Q I r ⟨a, bs, rfl, .of ha, mk_p rfl hz sr (.bl _)⟩
    · cases e
  · cases e
theorem bl_tuple {m : Bool} : CallR X (.type "tuple") (rBl X nm tupleP m) := by
  intro pins s σ H vs us Q I r h
  obtain ⟨ι, Z, M, ps, z, Ex, hp, sr, e, hz⟩ := h
  unfold tupleP at e
  split at e
  · obtain ⟨v, rfl, hv⟩ := one_of hp
    obtain ⟨qs, h1, rfl⟩ := map_some e
    obtain ⟨a, xs, rfl, ra, ⟨_, ha⟩ | ⟨_, ha⟩⟩ := hv.seq h1
    · refine call_tuple_of pins s σ H _ us Q I r ⟨a, xs, rfl, .inl ⟨ha, fun l hl => ?_⟩⟩
      cases m with
      | false => exact po_tup hz sr ra hl
      | true => exact hz.elim
    · exact call_tuple_of pins s σ H _ us Q I r ⟨a, xs, rfl, .inr ⟨ha, mk_p rfl hz sr (.tup ha ra)⟩⟩
  · cases e
theorem bl_list {m : Bool} : CallR X (.type "list") (rBl X nm listP m) := by
  intro pins s σ H vs us Q I r h
  obtain ⟨ι, Z, M, ps, z, Ex, hp, sr, e, hz⟩ := h
  unfold listP at e
  split at e
  · obtain ⟨v, rfl, hv⟩ := one_of hp
    obtain ⟨qs, h1, rfl⟩ := map_some e
    obtain ⟨a, xs, rfl, ra, ⟨_, ha⟩ | ⟨_, ha⟩⟩ := hv.seq h1
    · exact call_list_of pins s σ H _ us Q I r ⟨a, xs, rfl, .inl ha, fun l hl => mk_lst hz sr ra hl⟩
    · exact call_list_of pins s σ H _ us Q I r ⟨a, xs, rfl, .inr ha, fun l hl => mk_lst hz sr ra hl⟩
  · cases e
end
end Ip

set_option Elab.async false
set_option linter.all false
set_option maxRecDepth 100000
set_option maxHeartbeats 2000000
/-! IpSort: sorted, set. -/
namespace Ip
open PySem PySem.Spec PyProof.Rows L2
/-! ### sorted of a tuple of ints -/
section
variable {prog : Program} {w : World} {A : Around} {E : Value → Shared → Prop} {s : Shared}
theorem sorted_tupI {t : Addr} {vs : List Value} {ns : List Int} {Q : Value → Shared → Prop} (ht : IsTup s.heap t vs.toArray) (hi : IntsAre vs ns) (hz : vs.length ≤ sizeLine)
    (h : ∀ (h1 h' : Heap) (out : List Value) (ns' : List Int) (n : Nat), (∀ b o, s.heap.get? b = some o → h1.get? b = some o) → (∀ b o, h1.get? b = some o → h'.get? b = some o) → h'.get? h1.objs.size = some { cls := .type "list", data := .seq out.toArray n } →
      IntsAre out ns' → ns'.Perm ns → ns'.Pairwise (· ≤ ·) → Q (.ref h1.objs.size) { s with heap := h' }) : wpAny (model prog w) A (call (.builtin "sorted") [.ref t]) Q E s := by
  obtain ⟨o, ho, hc, n, hd⟩ := ht
  refine Calls.call_function_entry kind_sorted plain_sorted entry_sorted (args_sorted1 _) ?_
  unfold Builtin.«sorted»
  refine wpAny_bind (m := checkCount "sorted" 1 1 _) (wpAny_pure ?_)
  refine wpAny_bind (wpAny_collect_seq t (.inr rfl) ho hc hd (fun h1 k1 => ?_) (by simpa using hz))
  refine wpAny_bind (wpAny_newList ?_ (by simpa using hz))
  have hob : (h1.push (seqObj "list" vs.toArray 0)).get? h1.objs.size = some (seqObj "list" vs.toArray 0) := Heap.get?_push_size _ rfl
  refine wpAny_bind (wpAny_holding (wpAny_call_entry slot_list_sort ⟨_, hob, rfl⟩ entry_list_sort ?body (args_list_sort _)))
  case body =>
    refine SrtO.list_sort_ord SrtO.swo_int hob hz (fun h2 => SrtO.ints_sortable hi h2) fun out q1 q2 => ?_
    obtain ⟨k1', k2', k3'⟩ := SrtO.ints_out hi q1 q2
    obtain ⟨ep, he'⟩ := PyProof.Rows.sortedHeap_at (vs := vs) (out := out.toArray) hob
    refine ⟨_, rfl, wpAny_pure ⟨_, rfl, h h1 _ out _ _ k1 (fun b o hb => ?_) he' k1' k2' k3'⟩⟩
    show (sortedHeap (h1.push (seqObj "list" vs.toArray 0)) h1.objs.size vs out.toArray).get? b = some o
    rw [PyProof.Rows.sortedHeap_old (Nat.ne_of_lt (Heap.lt_size hb)) (by rw [Heap.size_push]; exact Nat.lt_succ_of_lt (Heap.lt_size hb))]
    exact Heap.get?_push_of_some _ hb
end
section
variable {X : Cx} {nm : Nat → Str}
theorem call_sortedT : CallR X (.builtin "sorted") (fun vs H Q => ∃ (a : Addr) (ns : List Int), vs = [V.ref a] ∧ SqT X.K H a (ns.map V.int) ∧ ∀ (ns' : List Int) (p : Addr), ns'.Perm ns → ns'.Pairwise (· ≤ ·) → H p = none → Q (.ref p) (upd H p (.lst (ns'.map V.int)))) := by
  intro pins s σ H vs us Q I r h
  obtain ⟨a, ns, rfl, hs, q⟩ := h
  obtain ⟨its, rv, hl, hz⟩ := I.tuple hs
  rw [Vals.ref1 r]
  refine sorted_tupI hl rv.ints (by rw [← rv.length]; exact hz) fun h1 h' out ns' n k1 k2 ho hi hp hw => ?_
  have I1 : Inv X pins σ H { s with heap := h1 } := I.kept (t' := s.toks) k1
  have hf : H h1.objs.size = none := I1.hok.fresh (Nat.le_refl _)
  have hlen : (ns'.map V.int).length ≤ sizeLine := by
    rw [List.length_map] at hz ⊢
    rw [hp.length_eq]
    exact hz
  exact ⟨.ref _, upd H h1.objs.size (.lst (ns'.map V.int)), I1.laid (t' := s.toks) k2 (Nat.le_refl _) ⟨hlen, out, n, vals_of_ints hi, ho⟩, rfl, q _ _ hp hw hf⟩
/-! ### the sorted list is one -/
theorem srtI_some {p : P} {is : List Int} (e : srtI p = some is) : (p = .set (is.map .int) ∧ is.length < 64) ∨ (p = .lst (is.map .int) ∨ p = .tup (is.map .int)) := by
  unfold srtI at e
  split at e
  · obtain ⟨js, h1, h2⟩ := Option.bind_eq_some_iff.mp e
    split at h2
    · cases h2
      rename_i h3
      exact .inl ⟨by rw [ints_map h1], h3⟩
    · cases h2
  · obtain ⟨js, h1, h2⟩ := Option.bind_eq_some_iff.mp e
    split at h2
    · cases h2
      exact .inr (.inl (by rw [ints_map h1]))
    · cases h2
  · obtain ⟨js, h1, h2⟩ := Option.bind_eq_some_iff.mp e
    split at h2
    · cases h2
      exact .inr (.inr (by rw [ints_map h1]))
    · cases h2
  · cases e
theorem map_int_inj : ∀ {a b : List Int}, a.map P.int = b.map P.int → a = b
  | [], [], _ => rfl
  | [], _ :: _, e => by cases e
  | _ :: _, [], e => by cases e
  | x :: a, y :: b, e => by
    injection e with e1 e2
    injection e1 with e1
    rw [e1, map_int_inj e2]
theorem bl_sorted {m : Bool} (hc : X.calm = true) : CallR X (.builtin "sorted") (rBl X nm sortedP m) := by
  intro pins s σ H vs us Q I r h
  obtain ⟨ι, Z, M, ps, z, Ex, hp, sr, e, hz⟩ := h
  unfold sortedP at e
  split at e
  · obtain ⟨v, rfl, hv⟩ := one_of hp
    obtain ⟨is, h1, rfl⟩ := map_some e
    rcases srtI_some h1 with ⟨rfl, h2⟩ | rfl | rfl
    · cases hv with
      | p hv =>
        cases hv with
        | @set a ns _ g1 g2 g3 g4 =>
          have ei := map_int_inj g3
          subst ei
          refine cr_sortedSet hc pins s σ H _ us Q I r ⟨a, _, _, rfl, g1, h2, fun ks p k1 k2 k3 k4 => ?_⟩
          have nd : ks.Nodup := k1.imp fun h e => by omega
          have pm : ks.Perm is := (List.perm_ext_iff_of_nodup nd g4).mpr fun k => by rw [k2]; exact decide_eq_true_iff
          have ek := srtP_eq pm (k1.imp fun h => Int.le_of_lt h)
          rw [ek]
          exact mk_lst hz sr (Rps.ofInts _) k4
    · obtain ⟨a, xs, rfl, ha, ra⟩ := hv.lst
      rw [ra.intsV] at ha
      refine cr_sortedI pins s σ H _ us Q I r ⟨a, is, rfl, .of ha, fun ns' p k1 k2 k3 => ?_⟩
      rw [srtP_eq k1 k2]
      exact mk_lst hz sr (Rps.ofInts _) k3
    · obtain ⟨a, xs, rfl, ha, ra⟩ := hv.tup
      rw [ra.intsV] at ha
      refine call_sortedT pins s σ H _ us Q I r ⟨a, is, rfl, ha, fun ns' p k1 k2 k3 => ?_⟩
      rw [srtP_eq k1 k2]
      exact mk_lst hz sr (Rps.ofInts _) k3
  · cases e
/-- how many members a set of ints has -/
theorem setR_count {w : World} {h : Heap} {a : Addr} {ns ks : List Int} {c : Nat} (R : SetR w h a (fun j => decide (j ∈ ns)) c) (nd : ks.Nodup) (hk : ∀ k, k ∈ ks ↔ k ∈ ns) : c = ks.length := by
  obtain ⟨o, es, ep, t, _, _, _, _, h1, h2, _, _, h3, _⟩ := R
  have pm : (es.toList.map keyOf).Perm ks := (List.perm_ext_iff_of_nodup h1 nd).mpr fun k => by
    rw [← h2 k, hk k]
    exact decide_eq_true_iff
  have e := pm.length_eq
  rw [List.length_map, Array.length_toList] at e
  omega
end
end Ip

set_option Elab.async false
set_option linter.all false
set_option maxRecDepth 100000
set_option maxHeartbeats 4000000
/-! IpSet: set of a list of ints, with the order of its table known. -/
namespace Ip
open PySem PySem.Spec PyProof.Rows L2
section
variable {P : Program} {w : World} {A : Around} {E : Value → Shared → Prop} {s : Shared}
abbrev set0 (w : World) : Obj := { cls := .type "set", dict := none, data := .set #[] 0 (.fresh 0 0 (!w.params.followText "set-order")) }
theorem call_set_lstI {l : Addr} {items : Array Value} (ns : List Int) {Q : Value → Shared → Prop} (hh : A.handled = none) (hl : s.heap.IsList l items) (hit : IntsAre items.toList ns) (hb : ns.length + 1 < scanBound)
    (h : ∀ (h' : Heap) (tk c : Nat), SetR w h' s.heap.objs.size (fun j => decide (j ∈ ns)) c → (∀ b o, s.heap.get? b = some o → h'.get? b = some o) → Q (.ref s.heap.objs.size) { s with heap := h', toks := tk }) :
    wpAny (model P w) A (call (.type "set") [.ref l]) Q E s := by
  have hisz : items.size = ns.length := by have q := IntsAre.length hit; rwa [Array.length_toList] at q
  obtain ⟨c, tl, hmro⟩ := F.called_set.mro
  have hmade := F.called_set.made
  have hsub := F.called_set.sub
  refine wpAny_call (codeAny_of_tree (wpAny_pure ⟨Code.quiet_builtin _ (by decide +kernel), codeAny_builtin F.entry_type_call ?_⟩))
  rw [Around.under_plain (weight_type_call_type "set" [.ref l] []) rfl]
  have h1 := F.called_set.notType
  have h2 := F.called_set.canCreate
  have hct := F.typeCall_set_1 (.ref l)
  repeat (any_goals (first | assumption | wp_step))
  refine codeAny_mono (code_set_led1 (.ref l) (E := E) (Q₁ := fun obj s₁ => obj = .ref s.heap.objs.size ∧ s₁ = { s with heap := s.heap.push (set0 w) }) ⟨rfl, rfl⟩) fun r s₁ hr => ?_
  cases r with
  | error e => exact hr
  | ok fl =>
    cases fl with
    | ret obj =>
      obtain ⟨rfl, rfl⟩ := hr
      have hS : (s.heap.push (set0 w)).get? s.heap.objs.size = some (set0 w) := Heap.get?_push_size _ rfl
      have hT : Shared.TypeIs { s with heap := s.heap.push (set0 w) } (.ref s.heap.objs.size) "set" := ⟨_, hS, rfl⟩
      have hli := F.called_set.init.lookup
      have hbi := F.called_set.init.bind (.ref s.heap.objs.size)
      repeat (any_goals (first | assumption | wp_step))
      refine codeAny_mono (codeAny_call_builtin (R := wants (fun r s₂ => r = .none ∧ ∃ h' tk c, s₂ = { s with heap := h', toks := tk } ∧ SetR w h' s.heap.objs.size (fun j => decide (j ∈ ns)) c ∧ ∀ b o, s.heap.get? b = some o → h'.get? b = some o) E)
        F.called_set.init.plain F.entry_set_init (check_set_init_1 hT ?_)) fun r₂ s₂ hr₂ => ?_
      · obtain ⟨ol, hol, hcl, nl, hdl⟩ := hl
        obtain ⟨ocls, odict, odata, oslots⟩ := ol
        simp only at hcl hdl
        subst hcl hdl
        have hol' := Heap.get?_push_of_some (set0 w) hol
        have hsls := F.sub_list_set
        have hslf := F.sub_list_frozenset
        have hne : (Value.type "list" == Value.type "dict") = false := by decide
        have hl1 : (s.heap.push (set0 w)).IsList l items := ⟨_, hol', rfl, nl, rfl⟩
        unfold Builtin.«set.__init__» noKeywords Builtin.Frozenset.updateFrom
        generalize hPI : pyIter = PI
        wp_walk
        subst hPI
        refine wpAny_pyIter_list hl1 (wpAny_bind (wpAny_runValue ?_))
        have hlS : l < s.heap.objs.size := Heap.lt_size hol
        have hh3 : A.in1.in1.in1.handled = none := by simp [hh]
        have hz1 : (s.heap.push (set0 w)).objs.size = s.heap.objs.size + 1 := Heap.size_push ..
        have hneI : l ≠ (s.heap.push (set0 w)).objs.size := by rw [hz1]; exact Nat.ne_of_lt (Nat.lt_succ_of_lt hlS)
        have hSf : s.heap.objs.size ∉ [(s.heap.push (set0 w)).objs.size, l] := by
          rw [hz1]
          simp only [List.mem_cons, List.not_mem_nil, or_false, not_or]
          exact ⟨Nat.ne_of_lt (Nat.lt_succ_self _), Nat.ne_of_gt hlS⟩
        have hval : ∀ (i : Nat) (v : Value), items[i]? = some v → ∃ k t, ns[i]? = some k ∧ v = .int k t := fun i v hv => by
          have hi : i < ns.length := by rw [← hisz]; exact (Array.getElem?_eq_some_iff.mp hv).1
          obtain ⟨t, e⟩ := PyProof.Rows.IntsAre.int_at hit i v (by rw [Array.getElem?_toList]; exact hv)
          refine ⟨ns[i], t, List.getElem?_eq_getElem hi, ?_⟩
          rw [e, List.getD_eq_getElem?_getD, List.getElem?_eq_getElem hi] <;> rfl
        refine set_update_ints ((Walks.list hh3 _ l hneI items).toS) s.heap.objs.size hSf ns hisz hb hval (items.size - 0) 0 _ (by omega) (Nat.zero_le _) ⟨⟨_, Heap.get?_push_size _ rfl, rfl, rfl⟩, (hl1.push _)⟩
          ⟨0, Nat.le_refl 0, setR_new_at (Heap.get?_push_of_some _ hS)⟩ ?hR
        case hR =>
          intro s' c' hm hc' hS'
          obtain ⟨h', g2, d', tk', os'⟩ := s'
          have eg : g2 = s.gens := hm.gens
          have ed : d' = s.drawn := hm.drawn
          have eo : os' = s.os := hm.os
          subst eg ed eo
          show wpAny _ _ _ _ _ _
          refine wpAny_pure ?_
          show wpAny _ _ (ret Value.none) _ _ _
          refine wpAny_pure ⟨rfl, h', tk', c', rfl, hS', fun b o e => ?_⟩
          have hb0 : b < s.heap.objs.size := Heap.lt_size e
          refine hm.heap b o ?_ (Heap.get?_push_of_some _ (Heap.get?_push_of_some _ e))
          simp only [List.mem_cons, List.not_mem_nil, or_false, not_or]
          exact ⟨Nat.ne_of_lt hb0, by rw [hz1]; exact Nat.ne_of_lt (Nat.lt_succ_of_lt hb0)⟩
      · cases r₂ with
        | error e => exact hr₂
        | ok fl₂ =>
          cases fl₂ with
          | ret r =>
            obtain ⟨rfl, h', tk, c', rfl, hS', hk'⟩ := hr₂
            repeat (any_goals (first | assumption | wp_step))
            exact h _ _ _ hS' hk'
          | _ => exact hr₂.elim
    | _ => exact hr.elim
end
section
variable {X : Cx} {nm : Nat → Str}
theorem setO_laid {pins : List (Addr × Obj)} {σ : L2.St} {H : Hp} {s : Shared} {h' : Heap} {tk c : Nat} {ns ks : List Int} (I : Inv X pins σ H s) (hk : ∀ b o, s.heap.get? b = some o → h'.get? b = some o) (R : SetR X.w h' s.heap.objs.size (fun j => decide (j ∈ ns)) c) (nd : ks.Nodup) (he : ∀ k, k ∈ ks ↔ k ∈ ns) :
    Inv X pins σ (upd H s.heap.objs.size (SetO X.w s.heap.objs.size (fun k => decide (k ∈ ks)) ks.length)) { s with heap := h', toks := tk } := by
  have ec := setR_count R nd he
  subst ec
  have ef : (fun j => decide (j ∈ ns)) = fun k => decide (k ∈ ks) := funext fun k => by rw [decide_eq_decide]; exact (he k).symm
  rw [ef] at R
  exact I.laid hk (Nat.le_refl _) (setO_new R)
theorem bl_set {m : Bool} (hc : X.calm = true) : CallR X (.type "set") (rBl X nm setP m) := by
  intro pins s σ H vs us Q I r h
  obtain ⟨ι, Z, M, ps, z, Ex, hp, sr, e, hz⟩ := h
  unfold setP at e
  split at e
  · obtain ⟨v, rfl, hv⟩ := one_of hp
    obtain ⟨is, h1, h2⟩ := Option.bind_eq_some_iff.mp e
    split at h2
    · cases h2
      rename_i h3
      have hb : is.length + 1 < scanBound := by unfold scanBound; omega
      have fin : ∀ {h' : Heap} {tk c : Nat}, SetR X.w h' s.heap.objs.size (fun j => decide (j ∈ is)) c → (∀ b o, s.heap.get? b = some o → h'.get? b = some o) → EP X pins σ Q (.ref s.heap.objs.size) { s with heap := h', toks := tk } := fun {h' tk c} R hk => by
        have hf : H s.heap.objs.size = none := I.hok.fresh (Nat.le_refl _)
        refine ⟨.ref _, _, setO_laid I hk R (dedI_nodup is) (dedI_mem is), rfl, ?_⟩
        cases m with
        | false =>
          exact hz _ _ ι (Ev.new hf) (.set upd_same (sr.fresh hf) rfl (dedI_nodup is)) (sr.new hf)
        | true => exact hz.elim
      rcases intsOf_some h1 with rfl | rfl
      · obtain ⟨a, xs, rfl, ha, ra⟩ := hv.tup
        rw [ra.intsV] at ha
        obtain ⟨its, rv, hl, _⟩ := I.tuple ha
        rw [Vals.ref1 r]
        exact call_set_tupI is (I.ok.hd hc) hl (by simpa using rv.ints) hb fun h' tk c R _ hk => fin R hk
      · obtain ⟨a, xs, rfl, ha, ra⟩ := hv.lst
        rw [ra.intsV] at ha
        obtain ⟨its, rv, hl, _⟩ := I.list (.of ha)
        rw [Vals.ref1 r]
        exact call_set_lstI is (I.ok.hd hc) hl.isList (by simpa using rv.ints) hb fun h' tk c R hk => fin R hk
    · cases h2
  · cases e
end
end Ip

set_option Elab.async false
set_option linter.all false
set_option maxRecDepth 100000
set_option maxHeartbeats 4000000
/-! IpNode3: calls of built-ins, subscripts, slices. -/
namespace Ip
open PySem PySem.Spec PyProof.Rows L2
def bfName : Bf → Str
  | .len => "len" | .int => "int" | .abs => "abs" | .sum => "sum" | .min => "min" | .max => "max" | .sorted => "sorted" | .set => "set" | .all => "all" | .any => "any" | .str => "str" | .bool => "bool" | .tuple => "tuple" | .list => "list"
def bfTy : Bf → Bool
  | .int => true | .set => true | .str => true | .bool => true | .tuple => true | .list => true
  | _ => false
def bfId : Bf → String
  | .len => "len" | .int => "int" | .abs => "abs" | .sum => "sum" | .min => "min" | .max => "max" | .sorted => "sorted" | .set => "set" | .all => "all" | .any => "any" | .str => "str" | .bool => "bool" | .tuple => "tuple" | .list => "list"
def bfVal (f : Bf) : Value := if bfTy f then .type (bfId f) else .builtin (bfId f)
section
variable {X : Cx} {nm : Nat → Str} {cb : Cb} {CN : Nat → Option P} {Wx : WX} {pos : Pos} {a b c e : Expr} {ca cc cd ce : CE} {es : List Expr} {ces : List CE}
theorem bl_all' (f : Bf) {m : Bool} (hc : X.calm = true) : CallR X (bfVal f) (rBl X nm (bltP f) m) := by
  cases f
  · exact bl_len
  · exact bl_int
  · exact bl_abs
  · exact bl_sum hc
  · exact bl_min hc
  · exact bl_max hc
  · exact bl_sorted hc
  · exact bl_set hc
  · exact bl_all hc
  · exact bl_any hc
  · intro pins s σ H vs us Q I r h
    obtain ⟨ι, Z, M, ps, z, Ex, hp, sr, e, hz⟩ := h
    cases e
  · exact bl_bool
  · exact bl_tuple
  · exact bl_list
theorem bf_boot (f : Bf) : bootBuiltins (bfName f) = some (bfVal f) := by cases f <;> decide +kernel
theorem bf_name (f : Bf) : bfName f ≠ "__name__" := by cases f <;> decide +kernel
theorem bf_dbg (f : Bf) : (bfName f == ("__debug__" : Str)) = false := by cases f <;> decide +kernel
/-- a built-in called by its name, whatever it is -/
theorem pe_callBf {p : Pos} {f : Bf} {r : List V → Hp → VK → Prop} {t : TA} (hc : CallR X (bfVal f) r) (hg : Gl X (bfName f)) (hm : X.mg (bfName f) = none) (ha : PA X (e :: es) t) (hs : noStar e = true) (hss : es.all noStar = true) : PE X (.Call (.Name (bfName f) p) (e :: es) [] pos) (tCB r t) := by
  have hv := bf_boot f
  cases hf : bfTy f with
  | true =>
    unfold bfVal at hc hv
    rw [hf, if_pos rfl] at hc hv
    exact pe_callTy hc hg hm hv ha (bf_name f) (bf_dbg f) (star_cons hs) (star_none hss)
  | false =>
    unfold bfVal at hc hv
    rw [hf, if_neg Bool.false_ne_true] at hc hv
    exact pe_callB hc hg hm hv ha (bf_name f) (bf_dbg f) (star_cons hs) (star_none hss)
theorem d_blt {p : Pos} {f : Bf} {m : Bool} (hc : X.calm = true) (hg : Gl X (bfName f)) (hm : X.mg (bfName f) = none) (ha : PA X (e :: es) (tA X nm cb CN Wx ces)) (hs : noStar e = true) (hss : es.all noStar = true) : PE X (.Call (.Name (bfName f) p) (e :: es) [] pos) (tD X nm cb CN Wx (.blt m f ces)) := by
  refine (pe_callBf (bl_all' (nm := nm) f (m := m) hc) hg hm ha hs hss).imp fun σ H Q h => ?_
  obtain ⟨ι, Z, ρ, M, re, sr, h⟩ := h
  rw [evE] at h
  refine ⟨ι, Z, ρ, M, re, sr, po_bind h fun us M1 vs H1 ι1 e1 ev rus sr1 h1 => ?_⟩
  obtain ⟨ps, e2, h2⟩ := po_of h1
  obtain ⟨z, e3, h3⟩ := po_of h2
  exact ⟨ι1, Z, M1, ps, z, _, rdAll_ok sr1 e2 rus, sr1, e3, h3⟩
/-! ### isinstance with a built-in type -/
def tyName : Ty → Str
  | .int => "int" | .bool => "bool" | .str => "str" | .tup => "tuple" | .lst => "list" | .cls _ => ""
def tyId : Ty → String
  | .int => "int" | .bool => "bool" | .str => "str" | .tup => "tuple" | .lst => "list" | .cls _ => ""
def tyB : Ty → Bool
  | .cls _ => false
  | _ => true
theorem ty_boot {t : Ty} (h : tyB t = true) : bootBuiltins (tyName t) = some (.type (tyId t)) := by cases t <;> first | (exact Bool.noConfusion h) | decide +kernel
theorem ty_name {t : Ty} (h : tyB t = true) : tyName t ≠ "__name__" := by cases t <;> first | (exact Bool.noConfusion h) | decide +kernel
theorem ty_dbg {t : Ty} (h : tyB t = true) : (tyName t == ("__debug__" : Str)) = false := by cases t <;> first | (exact Bool.noConfusion h) | decide +kernel
theorem isi_ok {w : World} {mg : Str → Option Value} {K : PySem.W.Frag} {H : Hp} {ι : Io} {Z : Addr → Prop} {M : Hm} {t : Ty} {v : V} {x : U} {k : Bool} (ht : tyB t = true) (h : isiU M t x = some k) (r : RU w mg nm K H ι Z v x) :
    ∃ tv, TyX K H v tv ∧ PySem.W.kitOne K tv (.type (tyId t)) = some k := by
  cases x with
  | p p =>
    cases p with
    | non => cases r; cases h; exact ⟨_, .base .non, by cases t <;> first | (exact Bool.noConfusion ht) | exact kit_ty (by decide +kernel)⟩
    | bl b => cases r; cases h; exact ⟨_, .base (.bl b), by cases t <;> first | (exact Bool.noConfusion ht) | exact kit_ty (by decide +kernel)⟩
    | int i => cases r; cases h; exact ⟨_, .base (.int i), by cases t <;> first | (exact Bool.noConfusion ht) | exact kit_ty (by decide +kernel)⟩
    | str z => cases r; cases h; exact ⟨_, .base (.str z), by cases t <;> first | (exact Bool.noConfusion ht) | exact kit_ty (by decide +kernel)⟩
    | tup ps =>
      cases h
      cases r with
      | tup h1 h2 =>
        rcases h1 with (h1 | ⟨o, h1⟩) | ⟨o, its, n, h1, h3, _⟩
        · exact ⟨_, .base (.tup h1), by cases t <;> first | (exact Bool.noConfusion ht) | exact kit_ty (by decide +kernel)⟩
        · exact ⟨_, .fTuple h1, by cases t <;> first | (exact Bool.noConfusion ht) | exact kit_ty (by decide +kernel)⟩
        · exact ⟨_, .kTuple h1 h3, by cases t <;> first | (exact Bool.noConfusion ht) | exact kit_ty (by decide +kernel)⟩
    | lst ps =>
      cases h
      cases r with
      | lst h1 h2 h3 => exact ⟨_, .base (.lst h1), by cases t <;> first | (exact Bool.noConfusion ht) | exact kit_ty (by decide +kernel)⟩
    | _ => cases h
  | _ => cases h
theorem d_isi {p p2 : Pos} {t : Ty} (ht : tyB t = true) (hs : noStar e = true) (hg : Gl X "isinstance") (hm : X.mg "isinstance" = none) (hg2 : Gl X (tyName t)) (hm2 : X.mg (tyName t) = none) (he : PE X e (tD X nm cb CN Wx ce)) :
    PE X (.Call (.Name "isinstance" p) [e, .Name (tyName t) p2] [] pos) (tD X nm cb CN Wx (.isi ce t)) := by
  refine (pe_callB (id := "isinstance") call_isi hg hm (by decide +kernel) (pa_cons he (pa_cons (pe_bltn (v := .ty (tyId t)) hg2 hm2 (ty_boot ht) rfl (ty_name ht) (ty_dbg ht)) pa_nil (star_cons rfl)) (star_cons hs)) (by decide +kernel) (by decide +kernel) (star_cons hs) (star_none rfl)).imp fun σ H Q h => ?_
  obtain ⟨ι, Z, ρ, M, re, sr, h⟩ := h
  rw [evE] at h
  refine ⟨ι, Z, ρ, M, re, sr, po_bind h fun u M1 v H1 ι1 e1 ev ru sr1 h1 => ?_⟩
  obtain ⟨k, e2, h2⟩ := po_of h1
  obtain ⟨tv, h3, h4⟩ := isi_ok ht e2 ru
  exact ⟨v, .ty (tyId t), tv, .type (tyId t), k, rfl, .ty _, h3, h4, h2 _ H1 ι1 Ev.refl (.bl k) sr1⟩
/-! ### subscripts -/
def noSlice : Expr → Bool
  | .Slice .. => false
  | _ => true
theorem plainIx {b : Expr} (h : noSlice b = true) : PlainIx b := by
  cases b <;> first | (intro o i; rfl) | cases h
theorem atP_at {w : World} {mg : Str → Option Value} {K : PySem.W.Frag} {H : Hp} {L : Addr → Prop} {vs : List V} {ps : List P} {i : Int} {q : P} (r : Rps w mg nm K H L vs ps) (h : atP ps i = some q) : ∃ v, atI vs i = some v ∧ Rp w mg nm K H L v q := by
  have hl := r.length
  unfold atP at h
  unfold atI ixN
  split at h
  · rename_i h0
    obtain ⟨v, h1, h2⟩ := r.get h
    have hi : i.toNat < vs.length := (List.getElem?_eq_some_iff.mp h1).1
    rw [if_pos h0, if_pos (by omega)]
    exact ⟨v, h1, h2⟩
  · rename_i h0
    split at h
    · rename_i h3
      obtain ⟨v, h1, h2⟩ := r.get h
      rw [if_neg h0, if_pos (by omega)]
      refine ⟨v, ?_, h2⟩
      show vs[(i + vs.length).toNat]? = some v
      rw [hl]
      exact h1
    · cases h
theorem its_ok {w : World} {mg : Str → Option Value} {K : PySem.W.Frag} {H : Hp} {L : Addr → Prop} {x : V} {p : P} {ps : List P} (h : Rq w mg nm K H L x p) (e : itsOf p = some ps) : ∃ a xs, x = .ref a ∧ Rps w mg nm K H L xs ps ∧ (SqL K H a xs ∨ SqT K H a xs) := by
  cases p with
  | tup qs =>
    cases e
    obtain ⟨a, xs, e, h1, h2⟩ := h.tup
    exact ⟨a, xs, e, h2, .inr h1⟩
  | lst qs =>
    cases e
    obtain ⟨a, xs, e, h1, h2⟩ := h.lst
    exact ⟨a, xs, e, h2, .inl (.of h1)⟩
  | scr qs =>
    cases e
    obtain ⟨a, xs, e, h1, h2⟩ := h.scr
    exact ⟨a, xs, e, h2, .inl h1.sq⟩
  | _ => cases e
theorem d_idx (hn : noSlice b = true) (ha : PE X a (tD X nm cb CN Wx ca)) (hb : PE X b (tD X nm cb CN Wx cc)) : PE X (.Subscript a b pos) (tD X nm cb CN Wx (.idx ca cc)) := by
  refine (pe_ix (ix_list.or ix_tup) ha hb (plainIx hn)).imp fun σ H Q h => ?_
  obtain ⟨ι, Z, ρ, M, re, sr, h⟩ := h
  rw [evE] at h
  refine ⟨ι, Z, ρ, M, re, sr, po_bind h fun u M1 v H1 ι1 e1 ev ru sr1 h1 => ⟨ι1, Z, ρ, M1, re.ev ev, sr1, po_bind h1 fun u2 M2 v2 H2 ι2 e2 ev2 ru2 sr2 h2 => ?_⟩⟩
  split at h2
  · rename_i ps i hp
    obtain ⟨q, e3, h3⟩ := po_of h2
    obtain ⟨p, e4, e5⟩ := Option.bind_eq_some_iff.mp hp
    obtain ⟨l, xs, rfl, r1, r2⟩ := its_ok (rd_q (ru.ev ev2) sr2 e4) e5
    obtain ⟨v3, e6, r3⟩ := atP_at r1 e3
    cases ru2
    have q := h3 v3 H2 ι2 Ev.refl r3 sr2
    rcases r2 with r2 | r2
    · exact .inl ⟨l, xs, _, v3, rfl, rfl, r2, e6, q⟩
    · exact .inr ⟨l, xs, _, v3, rfl, rfl, r2, e6, q⟩
  · exact h2.elim
/-! ### slices -/
theorem bnd_eq (n d : Nat) (o : Option Int) : HT.sIx n d o = bndP n d o := by
  cases o with
  | none => rfl
  | some v =>
    show (if v < 0 then (v + (n : Int)).toNat else min v.toNat n) = if 0 ≤ v then min v.toNat n else (v + n).toNat
    by_cases h : v < 0
    · rw [if_pos h, if_neg (by omega)]
    · rw [if_neg h, if_pos (by omega)]
theorem cut_ok {w : World} {mg : Str → Option Value} {K : PySem.W.Frag} {H : Hp} {L : Addr → Prop} {vs : List V} {ps : List P} (r : Rps w mg nm K H L vs ps) (lo hi : Option Int) : Rps w mg nm K H L (cutV vs lo hi) (cutP ps lo hi) := by
  unfold cutV cutP
  simp only [bnd_eq, r.length]
  exact (r.drop _).take _
def tO (X : Cx) (nm : Nat → Str) (cb : Cb) (CN : Nat → Option P) (Wx : WX) (oe : Option CE) : TO := fun σ H Q => ∃ ι Z ρ M, REX X nm H ι Z σ ρ ∧ SRX X nm H ι Z M ∧ Po X.w X.mg nm X.K (fun _ _ v u => v = u) H ι Z (evO cb CN oe ρ M) Q (fun c d H' => Wx c d σ H')
theorem _root_.L2.PO.imp {o : Option Expr} {t t' : TO} (h : PO X o t) (hi : ∀ σ H Q, t' σ H Q → t σ H Q) : PO X o t' := ⟨fun pins s σ H Q I q => h.run pins s σ H Q I (hi σ H Q q)⟩
theorem o_none : PO X none (tO X nm cb CN Wx none) := by
  refine po_none.imp fun σ H Q h => ?_
  obtain ⟨ι, Z, ρ, M, re, sr, h⟩ := h
  rw [evO] at h
  exact h none H ι Ev.refl rfl sr
theorem o_some (he : PE X e (tD X nm cb CN Wx ce)) : PO X (some e) (tO X nm cb CN Wx (some ce)) := by
  refine (po_some he).imp fun σ H Q h => ?_
  obtain ⟨ι, Z, ρ, M, re, sr, h⟩ := h
  rw [evO] at h
  refine ⟨ι, Z, ρ, M, re, sr, po_bind h fun u M1 v H1 ι1 e1 ev ru sr1 h1 => ?_⟩
  split at h1
  · cases ru
    exact ⟨_, rfl, h1 _ H1 ι1 Ev.refl rfl sr1⟩
  · exact h1.elim
theorem d_slc {p2 : Pos} {lo hi : Option Expr} {clo chi : Option CE} (ha : PE X a (tD X nm cb CN Wx ca)) (hl : PO X lo (tO X nm cb CN Wx clo)) (hh : PO X hi (tO X nm cb CN Wx chi)) : PE X (.Subscript a (.Slice lo hi none p2) pos) (tD X nm cb CN Wx (.slc ca clo chi)) := by
  refine (pe_slice (SlR.or sl_list sl_tupA) ha hl hh).imp fun σ H Q h => ?_
  obtain ⟨ι, Z, ρ, M, re, sr, h⟩ := h
  rw [evE] at h
  refine ⟨ι, Z, ρ, M, re, sr, po_bind h fun u M1 v H1 ι1 e1 ev ru sr1 h1 => ⟨ι1, Z, ρ, M1, re.ev ev, sr1, po_bind h1 fun l M2 l' H2 ι2 e2 ev2 rl sr2 h2 => ⟨ι2, Z, ρ, M2, (re.ev ev).ev ev2, sr2, po_bind h2 fun l2 M3 l2' H3 ι3 e3 ev3 rl2 sr3 h3 => ?_⟩⟩⟩
  have e4 : l' = l := rl
  have e5 : l2' = l2 := rl2
  subst e4 e5
  split at h3
  · rename_i ps hp
    obtain ⟨a1, xs, rfl, r1, r2⟩ := (rd_q ((ru.ev ev2).ev ev3) sr3 hp).tup
    refine .inr ⟨a1, xs, rfl, r1, fun hw => ?_, fun hw p hp => po_tup h3 sr3 (cut_ok r2 l' l2') hp⟩
    have e6 : cutP ps l' l2' = ps := by
      unfold cutP
      simp only [← bnd_eq, ← r2.length, hw.1, hw.2]
      rw [List.drop_zero, Nat.sub_zero, r2.length, List.take_length]
    rw [e6] at h3
    exact h3 _ H3 ι3 Ev.refl (.tup r1 r2) sr3
  · rename_i ps hp
    obtain ⟨a1, xs, rfl, r1, r2⟩ := (rd_q ((ru.ev ev2).ev ev3) sr3 hp).lst
    exact .inl ⟨a1, xs, rfl, .of r1, fun p hp => mk_lst (m := false) h3 sr3 (cut_ok r2 l' l2') hp⟩
  · exact h3.elim
/-! ### lists and tuples of ranges -/
theorem rng_ok {w : World} {mg : Str → Option Value} {K : PySem.W.Frag} {H : Hp} {L : Addr → Prop} (i j : Int) : Rps w mg nm K H L (rgV i j) (rngP i j) := by
  unfold rgV rngP
  generalize List.range (j - i).toNat = l
  induction l with
  | nil => exact .nil
  | cons x l ih => exact .cons (.int _) ih
def tR (X : Cx) (nm : Nat → Str) (cb : Cb) (CN : Nat → Option P) (Wx : WX) (lo : Option CE) (hi : CE) : L2.St → Hp → (Int → Int → Hp → Prop) → Prop := fun σ H Q => ∃ ι Z ρ M, REX X nm H ι Z σ ρ ∧ SRX X nm H ι Z M ∧
  Po X.w X.mg nm X.K (fun _ _ v u => v = u) H ι Z ((evO cb CN lo ρ M).bind fun a M => (evE cb CN hi ρ M).bind fun y M => match y with
    | .p (.int j) => .ok (a.getD 0, j) M
    | _ => .no) (fun ij H' => Q ij.1 ij.2 H') (fun c d H' => Wx c d σ H')
theorem prg_imp {t t' : L2.St → Hp → (Int → Int → Hp → Prop) → Prop} (h : PRg X e t) (hi : ∀ σ H Q, t' σ H Q → t σ H Q) : PRg X e t' := fun pins s σ H Q I q => h pins s σ H Q I (hi σ H Q q)
theorem r_one {p : Pos} (hg : Gl X "range") (hm : X.mg "range" = none) (hs : noStar a = true) (ha : PE X a (tD X nm cb CN Wx ca)) : PRg X (.Call (.Name "range" p) [a] [] pos) (tR X nm cb CN Wx none ca) := by
  refine prg_imp (prg_1 hg hm ha (star_cons hs)) fun σ H Q h => ?_
  obtain ⟨ι, Z, ρ, M, re, sr, h⟩ := h
  rw [evO] at h
  refine ⟨ι, Z, ρ, M, re, sr, po_bind h fun u M1 v H1 ι1 e1 ev ru sr1 h1 => ?_⟩
  split at h1
  · cases ru
    exact ⟨_, rfl, h1 _ H1 ι1 Ev.refl rfl sr1⟩
  · exact h1.elim
theorem r_two {p : Pos} (hg : Gl X "range") (hm : X.mg "range" = none) (hs : noStar a = true) (hs2 : noStar b = true) (ha : PE X a (tD X nm cb CN Wx ca)) (hb : PE X b (tD X nm cb CN Wx cc)) : PRg X (.Call (.Name "range" p) [a, b] [] pos) (tR X nm cb CN Wx (some ca) cc) := by
  refine prg_imp (prg_2 hg hm ha hb (star_cons hs) (star_cons hs2) (hp := star_none (by simp [hs2]))) fun σ H Q h => ?_
  obtain ⟨ι, Z, ρ, M, re, sr, h⟩ := h
  rw [evO] at h
  refine ⟨ι, Z, ρ, M, re, sr, ?_⟩
  cases e1 : evE cb CN ca ρ M with
  | ok u M1 =>
    rw [e1] at h
    intro v H1 ι1 ev ru sr1
    simp only [R.bind] at h
    cases u with
    | p p =>
      cases p with
      | int i =>
        cases ru
        have h := Po.ev h ev
        refine ⟨ι1, Z, ρ, M1, re.ev ev, sr1, po_bind (r := evE cb CN cc ρ M1) h fun u2 M2 v2 H2 ι2 e2 ev2 ru2 sr2 h2 => ?_⟩
        split at h2
        · cases ru2
          exact ⟨i, _, rfl, rfl, h2 _ H2 ι2 Ev.refl rfl sr2⟩
        · exact h2.elim
      | _ => exact h.elim
    | _ => exact h.elim
  | ex c M1 => rw [e1] at h; exact h
  | no => rw [e1] at h; exact h
theorem ofr_eq {t m : Bool} {lo : Option CE} {hi : CE} {ρ : Rho} {M : Hm} : evE cb CN (.ofr t m lo hi) ρ M = ((evO cb CN lo ρ M).bind fun a M => (evE cb CN hi ρ M).bind fun y M => match y with
    | .p (.int j) => .ok (a.getD 0, j) M
    | _ => .no).bind fun ij M => if decide (-1000000000 ≤ ij.1) && decide (ij.1 ≤ 1000000000) && decide (-1000000000 ≤ ij.2) && decide (ij.2 ≤ 1000000000) && decide ((ij.2 - ij.1).toNat ≤ LIM) then
        (if t then .ok (.p (.tup (rngP ij.1 ij.2))) M else mk m (.lst (rngP ij.1 ij.2)) M) else .no := by
  rw [evE]
  cases evO cb CN lo ρ M with
  | ok a M1 =>
    simp only [R.bind]
    cases evE cb CN hi ρ M1 with
    | ok y M2 =>
      cases y with
      | p p => cases p <;> rfl
      | _ => rfl
    | _ => rfl
  | _ => rfl
theorem d_ofrL {p : Pos} {m : Bool} {lo : Option CE} {hi : CE} (hc : X.calm = true) (hs : noStar e = true) (hg : Gl X "list") (hm : X.mg "list" = none) (he : PRg X e (tR X nm cb CN Wx lo hi)) : PE X (.Call (.Name "list" p) [e] [] pos) (tD X nm cb CN Wx (.ofr false m lo hi)) := by
  refine (pe_listRg hc hg hm he (star_cons hs)).imp fun σ H Q h => ?_
  obtain ⟨ι, Z, ρ, M, re, sr, h⟩ := h
  rw [ofr_eq] at h
  refine ⟨ι, Z, ρ, M, re, sr, po_bind h fun ij M1 ij' H1 ι1 e1 ev ru sr1 h1 => ?_⟩
  have e2 : ij' = ij := ru
  subst e2
  split at h1
  · rename_i hk
    simp only [Bool.and_eq_true, decide_eq_true_eq] at hk
    obtain ⟨⟨⟨⟨k1, k2⟩, k3⟩, k4⟩, k5⟩ := hk
    unfold LIM at k5
    exact ⟨⟨by omega, by omega, by omega, by omega, by omega⟩, fun q hq => mk_lst h1 sr1 (rng_ok _ _) hq⟩
  · exact h1.elim
theorem d_ofrT {p : Pos} {m : Bool} {lo : Option CE} {hi : CE} (hc : X.calm = true) (hs : noStar e = true) (hg : Gl X "tuple") (hm : X.mg "tuple" = none) (he : PRg X e (tR X nm cb CN Wx lo hi)) : PE X (.Call (.Name "tuple" p) [e] [] pos) (tD X nm cb CN Wx (.ofr true m lo hi)) := by
  refine (pe_tupRg hc hg hm he (star_cons hs)).imp fun σ H Q h => ?_
  obtain ⟨ι, Z, ρ, M, re, sr, h⟩ := h
  rw [ofr_eq] at h
  refine ⟨ι, Z, ρ, M, re, sr, po_bind h fun ij M1 ij' H1 ι1 e1 ev ru sr1 h1 => ?_⟩
  have e2 : ij' = ij := ru
  subst e2
  split at h1
  · rename_i hk
    simp only [Bool.and_eq_true, decide_eq_true_eq] at hk
    obtain ⟨⟨⟨⟨k1, k2⟩, k3⟩, k4⟩, k5⟩ := hk
    unfold LIM at k5
    exact ⟨⟨by omega, by omega, by omega, by omega, by omega⟩, fun q hq => po_tup h1 sr1 (rng_ok _ _) hq⟩
  · exact h1.elim
theorem d_rev {k : Nat} {p1 p2 p3 : Pos} (he : PE X e (tD X nm cb CN Wx ce)) : PE X (.Subscript e (.Slice none none (some (.UnaryOp .USub (.Constant (.int 1) k p1) p2)) p3) pos) (tD X nm cb CN Wx (.rev ce)) := by
  refine (pe_revA he).imp fun σ H Q h => ?_
  obtain ⟨ι, Z, ρ, M, re, sr, h⟩ := h
  rw [evE] at h
  refine ⟨ι, Z, ρ, M, re, sr, po_bind h fun u M1 v H1 ι1 e1 ev ru sr1 h1 => ?_⟩
  split at h1
  · rename_i ps hp
    obtain ⟨a1, xs, rfl, r1, r2⟩ := (rd_q ru sr1 hp).lst
    exact ⟨a1, xs, rfl, .inl ⟨.of r1, fun p hp => mk_lst (m := false) h1 sr1 r2.reverse hp⟩⟩
  · rename_i ps hp
    obtain ⟨a1, xs, rfl, r1, r2⟩ := (rd_q ru sr1 hp).tup
    exact ⟨a1, xs, rfl, .inr ⟨r1, fun p hp => po_tup h1 sr1 r2.reverse hp⟩⟩
  · exact h1.elim
end
end Ip

set_option Elab.async false
set_option linter.all false
set_option maxRecDepth 100000
set_option maxHeartbeats 4000000
/-! IpIter: what a loop or a comprehension walks; targets. -/
namespace Ip
open PySem PySem.Spec PyProof.Rows L2
variable (w : World) (mg : Str → Option Value) (nm : Nat → Str) (K : PySem.W.Frag) in
inductive IRel (H : Hp) (L : Addr → Prop) : L2.It → List P → Prop
  | lst {a : Addr} {ps : List P} : Rp w mg nm K H L (.ref a) (.lst ps) → IRel H L (Itl K a) ps
  | tup {a : Addr} {ps : List P} : Rp w mg nm K H L (.ref a) (.tup ps) → IRel H L (Itt K a) ps
  | rng (lo : Int) (n : Nat) : IRel H L (Itr lo n) ((List.range n).map fun (k : Nat) => P.int (lo + (k : Int)))
  | enm {a : Addr} {ps : List P} : Rp w mg nm K H L (.ref a) (.lst ps) → IRel H L (Ite K a) (ps.zipIdx.map fun x => .tup [.int x.2, x.1])
  | zip {a b : Addr} {ps qs : List P} : Rp w mg nm K H L (.ref a) (.tup ps) → Rp w mg nm K H L (.ref b) (.tup qs) → IRel H L (RZ.ItzT K a b) ((ps.zip qs).map fun x => .tup [x.1, x.2])
section
variable {w : World} {mg : Str → Option Value} {nm : Nat → Str} {K : PySem.W.Frag} {H H' : Hp} {ι ι' : Io} {Z : Addr → Prop} {L L' : Addr → Prop} {J : L2.It} {qs : List P}
theorem IRel.imp (h : IRel w mg nm K H L J qs) (hi : ∀ v p, Rp w mg nm K H L v p → Rp w mg nm K H' L' v p) : IRel w mg nm K H' L' J qs := by
  cases h with
  | lst h => exact .lst (hi _ _ h)
  | tup h => exact .tup (hi _ _ h)
  | rng lo n => exact .rng lo n
  | enm h => exact .enm (hi _ _ h)
  | zip h1 h2 => exact .zip (hi _ _ h1) (hi _ _ h2)
theorem IRel.ev (e : Ev H ι H' ι') (h : IRel w mg nm K H (Lv ι Z) J qs) : IRel w mg nm K H' (Lv ι' Z) J qs := h.imp fun v p => Rp.ev e p v
theorem Rp.lst' {a : Addr} {ps : List P} (h : Rp w mg nm K H L (.ref a) (.lst ps)) : ∃ xs, SqL K H a xs ∧ Rps w mg nm K H L xs ps := by
  cases h with
  | lst h1 h2 h3 => exact ⟨_, .of h1, h3⟩
theorem Rp.tup' {a : Addr} {ps : List P} (h : Rp w mg nm K H L (.ref a) (.tup ps)) : ∃ xs, SqT K H a xs ∧ Rps w mg nm K H L xs ps := by
  cases h with
  | tup h1 h3 => exact ⟨_, h1, h3⟩
theorem rps_lt {xs : List V} {ps : List P} {i : Nat} (r : Rps w mg nm K H L xs ps) (h : i < ps.length) : ∃ x, xs[i]? = some x := ⟨xs[i]'(by rw [r.length]; exact h), by simp⟩
theorem IRel.stop (h : IRel w mg nm K H L J qs) : J.stop qs.length H := by
  cases h with
  | lst h =>
    obtain ⟨xs, h1, h2⟩ := h.lst'
    exact ⟨xs, h1, Nat.le_of_eq h2.length⟩
  | tup h =>
    obtain ⟨xs, h1, h2⟩ := h.tup'
    exact ⟨xs, h1, Nat.le_of_eq h2.length⟩
  | rng lo n => show n ≤ _; simp
  | enm h =>
    obtain ⟨xs, h1, h2⟩ := h.lst'
    exact ⟨xs, h1, by simp [h2.length]⟩
  | zip h k =>
    obtain ⟨xs, h1, h2⟩ := h.tup'
    obtain ⟨ys, k1, k2⟩ := k.tup'
    refine ⟨xs, ys, h1, k1, ?_⟩
    rw [h2.length, k2.length, List.length_map, List.length_zip]
    omega
theorem IRel.go {i : Nat} (h : IRel w mg nm K H L J qs) (hi : i < qs.length) : J.go i H := by
  cases h with
  | lst h =>
    obtain ⟨xs, h1, h2⟩ := h.lst'
    obtain ⟨x, hx⟩ := rps_lt h2 hi
    exact ⟨xs, x, h1, hx⟩
  | tup h =>
    obtain ⟨xs, h1, h2⟩ := h.tup'
    obtain ⟨x, hx⟩ := rps_lt h2 hi
    exact ⟨xs, x, h1, hx⟩
  | rng lo n =>
    show i < n
    simpa using hi
  | enm h =>
    obtain ⟨xs, h1, h2⟩ := h.lst'
    obtain ⟨x, hx⟩ := rps_lt h2 (i := i) (by simpa using hi)
    exact ⟨xs, x, h1, hx⟩
  | zip h k =>
    obtain ⟨xs, h1, h2⟩ := h.tup'
    obtain ⟨ys, k1, k2⟩ := k.tup'
    rw [List.length_map, List.length_zip] at hi
    obtain ⟨x, hx⟩ := rps_lt h2 (i := i) (by omega)
    obtain ⟨y, hy⟩ := rps_lt k2 (i := i) (by omega)
    exact ⟨xs, ys, x, y, h1, k1, hx, hy⟩
theorem IRel.yld {i : Nat} {q : P} {x : V} {M : Hm} (h : IRel w mg nm K H (Lv ι Z) J qs) (sr : SR w mg nm K H ι Z M) (hq : qs[i]? = some q) (y : J.yld i H x H') : Ev H ι H' ι ∧ SR w mg nm K H' ι Z M ∧ Rp w mg nm K H' (Lv ι Z) x q := by
  cases h with
  | lst h =>
    obtain ⟨xs, h1, h2⟩ := h.lst'
    obtain ⟨e, y⟩ := y
    subst e
    obtain ⟨v, h3, h4⟩ := h2.get hq
    have e := (y xs h1).symm.trans h3
    cases e
    exact ⟨Ev.refl, sr, h4⟩
  | tup h =>
    obtain ⟨xs, h1, h2⟩ := h.tup'
    obtain ⟨e, y⟩ := y
    subst e
    obtain ⟨v, h3, h4⟩ := h2.get hq
    have e := (y xs h1).symm.trans h3
    cases e
    exact ⟨Ev.refl, sr, h4⟩
  | rng lo n =>
    obtain ⟨e, y⟩ := y
    subst e y
    rw [List.getElem?_map] at hq
    obtain ⟨k, hk, rfl⟩ := Option.map_eq_some_iff.mp hq
    obtain ⟨h1, h2⟩ := List.getElem?_eq_some_iff.mp hk
    rw [List.getElem_range] at h2
    subst h2
    exact ⟨Ev.refl, sr, .int _⟩
  | enm h =>
    obtain ⟨xs, h1, h2⟩ := h.lst'
    obtain ⟨T, u, rfl, hT, rfl, y⟩ := y
    rw [List.getElem?_map, List.getElem?_zipIdx] at hq
    obtain ⟨⟨p, k⟩, hp0, rfl⟩ := Option.map_eq_some_iff.mp hq
    obtain ⟨p2, hp2, e⟩ := Option.map_eq_some_iff.mp hp0
    cases e
    obtain ⟨v, h3, h4⟩ := h2.get hp2
    have e := (y xs h1).symm.trans h3
    cases e
    have ev : Ev H ι (upd H T (.tup [.int (i : Nat), u])) ι := Ev.new hT
    refine ⟨ev, sr.new hT, .tup (.inl (.inl upd_same)) (.cons ?_ (.cons (Rp.ev ev _ _ h4) .nil))⟩
    have e : ((0 + i : Nat) : Int) = (i : Nat) := by omega
    show Rp w mg nm K _ _ (.int ((i : Nat) : Int)) (.int ((0 + i : Nat) : Int))
    rw [e]
    exact .int _
  | zip h k =>
    obtain ⟨xs, h1, h2⟩ := h.tup'
    obtain ⟨ys, k1, k2⟩ := k.tup'
    obtain ⟨T, u, u2, rfl, hT, rfl, y1, y2⟩ := y
    rw [List.getElem?_map] at hq
    obtain ⟨⟨p, p2⟩, hp, rfl⟩ := Option.map_eq_some_iff.mp hq
    rw [List.getElem?_zip_eq_some] at hp
    obtain ⟨hp, hp2⟩ := hp
    obtain ⟨v, h3, h4⟩ := h2.get hp
    have e := (y1 xs h1).symm.trans h3
    cases e
    obtain ⟨v2, k3, k4⟩ := k2.get hp2
    have e := (y2 ys k1).symm.trans k3
    cases e
    have ev : Ev H ι (upd H T (.tup [u, u2])) ι := Ev.new hT
    exact ⟨ev, sr.new hT, .tup (.inl (.inl upd_same)) (.cons (Rp.ev ev _ _ h4) (.cons (Rp.ev ev _ _ k4) .nil))⟩
end
section
variable (X : Cx) (nm : Nat → Str) (cb : Cb) (CN : Nat → Option P) (Wx : WX)
abbrev SI (Z : Addr → Prop) : Hp → Io → L2.It → List P → Prop := fun H ι J qs => IRel X.w X.mg nm X.K H (Lv ι Z) J qs
def tI (it : It) : TI := fun σ H Q => ∃ ι Z ρ M, REX X nm H ι Z σ ρ ∧ SRX X nm H ι Z M ∧ Po X.w X.mg nm X.K (SI X nm Z) H ι Z (evI cb CN it ρ M) Q (fun c d H' => Wx c d σ H')
end
section
variable {X : Cx} {nm : Nat → Str} {cb : Cb} {CN : Nat → Option P} {Wx : WX} {pos : Pos} {a b e tg : Expr} {ca cc ce : CE}
theorem _root_.L2.PI.imp {t t' : TI} (h : PI X tg e t) (hi : ∀ σ H Q, t' σ H Q → t σ H Q) : PI X tg e t' := ⟨fun pins s σ H Q I q => h.run pins s σ H Q I (hi σ H Q q)⟩
theorem pi_any {tl : TE} (hl : PE X e tl) : PI X tg e (fun σ H R => tl σ H fun x H1 => ∃ a, x = .ref a ∧ (((∃ xs, SqL X.K H1 a xs) ∧ R (Itl X.K a) H1) ∨ ((∃ xs, SqT X.K H1 a xs) ∧ R (Itt X.K a) H1))) := by
  refine ⟨fun pins s σ H R I h => ?_⟩
  refine thn (hl.run pins s σ H _ I h) fun v s1 ⟨x, H1, I1, r1, q1⟩ => ?_
  obtain ⟨a, e, q1⟩ := q1
  subst e
  cases r1
  rcases q1 with ⟨⟨xs, hq⟩, q⟩ | ⟨⟨xs, hq⟩, q⟩
  · obtain ⟨its, rv, p, hz⟩ := I1.list hq
    refine wpAny_pyIter_list p.isList ?_
    refine ⟨s1.heap.objs.size, [s1.heap.objs.size], _, _, H1, rfl, I1.kept (t' := s1.toks) fun b o e => Heap.get?_push_of_some _ e, turn_list a _, ⟨_, Heap.get?_push_size _ rfl, rfl, rfl⟩, fun b hb => ?_, q⟩
    have e : b = s1.heap.objs.size := by simpa using hb
    subst e
    exact I1.fpOk (Nat.le_refl _) (I1.hok.fresh (Nat.le_refl _))
  · obtain ⟨its, rv, p, hz⟩ := I1.tuple hq
    refine wpAny_pyIter_tuple (show s1.heap.IsTuple a its.toArray from p) ?_
    refine ⟨s1.heap.objs.size, [s1.heap.objs.size], _, _, H1, rfl, I1.kept (t' := s1.toks) fun b o e => Heap.get?_push_of_some _ e, turn_tuple a _, ⟨_, Heap.get?_push_size _ rfl, rfl, rfl⟩, fun b hb => ?_, q⟩
    have e : b = s1.heap.objs.size := by simpa using hb
    subst e
    exact I1.fpOk (Nat.le_refl _) (I1.hok.fresh (Nat.le_refl _))
theorem i_seq (he : PE X e (tD X nm cb CN Wx ce)) : PI X tg e (tI X nm cb CN Wx (.seq ce)) := by
  refine (pi_any he).imp fun σ H Q h => ?_
  obtain ⟨ι, Z, ρ, M, re, sr, h⟩ := h
  rw [evI] at h
  refine ⟨ι, Z, ρ, M, re, sr, po_bind h fun u M1 v H1 ι1 e1 ev ru sr1 h1 => ?_⟩
  cases u with
  | p x =>
    cases x with
    | lst ps =>
      cases ru with
      | lst r1 r2 r3 => exact ⟨_, rfl, .inl ⟨⟨_, .of r1⟩, h1 _ H1 ι1 Ev.refl (.lst (.lst r1 r2 r3)) sr1⟩⟩
    | tup ps =>
      cases ru with
      | tup r1 r3 => exact ⟨_, rfl, .inr ⟨⟨_, r1⟩, h1 _ H1 ι1 Ev.refl (.tup (.tup r1 r3)) sr1⟩⟩
    | _ => exact h1.elim
  | _ => exact h1.elim
theorem rngP_eq (i j : Int) : rngP i j = (List.range (j - i).toNat).map fun (k : Nat) => P.int (i + (k : Int)) := rfl
theorem i_rng1 {p : Pos} (hg : Gl X "range") (hm : X.mg "range" = none) (hs : noStar a = true) (ha : PE X a (tD X nm cb CN Wx ca)) : PI X tg (.Call (.Name "range" p) [a] [] pos) (tI X nm cb CN Wx (.rng none ca)) := by
  refine (pi_range1 hg hm (pa_cons ha pa_nil (star_cons hs)) (star_cons hs)).imp fun σ H Q h => ?_
  obtain ⟨ι, Z, ρ, M, re, sr, h⟩ := h
  rw [evI, evO] at h
  refine ⟨ι, Z, ρ, M, re, sr, po_bind h fun u M1 v H1 ι1 e1 ev ru sr1 h1 => ?_⟩
  cases u with
  | p x =>
    cases x with
    | int j =>
      cases ru
      simp only [Option.getD_none] at h1
      split at h1
      · rename_i hk
        simp only [Bool.and_eq_true, decide_eq_true_eq] at hk
        refine ⟨j, rfl, by omega, by omega, ?_⟩
        have q := h1 (Itr 0 (j - 0).toNat) H1 ι1 Ev.refl (.rng 0 _) sr1
        rw [Int.sub_zero] at q
        exact q
      · exact h1.elim
    | _ => exact h1.elim
  | _ => exact h1.elim
theorem i_rng2 {p : Pos} (hg : Gl X "range") (hm : X.mg "range" = none) (hs : noStar a = true) (hs2 : noStar b = true) (ha : PE X a (tD X nm cb CN Wx ca)) (hb : PE X b (tD X nm cb CN Wx cc)) : PI X tg (.Call (.Name "range" p) [a, b] [] pos) (tI X nm cb CN Wx (.rng (some ca) cc)) := by
  refine (pi_range2 hg hm (pa_cons ha (pa_cons hb pa_nil (star_cons hs2)) (star_cons hs)) (by rw [star_cons hs, star_cons hs2]; rfl) (by rw [star_cons hs2]; rfl)).imp fun σ H Q h => ?_
  obtain ⟨ι, Z, ρ, M, re, sr, h⟩ := h
  rw [evI, evO] at h
  refine ⟨ι, Z, ρ, M, re, sr, ?_⟩
  cases e1 : evE cb CN ca ρ M with
  | ok u M1 =>
    rw [e1] at h
    intro v H1 ι1 ev ru sr1
    simp only [R.bind] at h
    cases u with
    | p p =>
      cases p with
      | int i =>
        cases ru
        have h := Po.ev h ev
        refine ⟨ι1, Z, ρ, M1, re.ev ev, sr1, po_bind (r := evE cb CN cc ρ M1) h fun u2 M2 v2 H2 ι2 e2 ev2 ru2 sr2 h2 => ?_⟩
        cases u2 with
        | p p2 =>
          cases p2 with
          | int j =>
            cases ru2
            simp only [Option.getD_some] at h2
            split at h2
            · rename_i hk
              simp only [Bool.and_eq_true, decide_eq_true_eq] at hk
              exact ⟨i, j, rfl, by omega, h2 (Itr i (j - i).toNat) H2 ι2 Ev.refl (.rng i _) sr2⟩
            · exact h2.elim
          | _ => exact h2.elim
        | _ => exact h2.elim
      | _ => exact h.elim
    | _ => exact h.elim
  | ex c M1 => rw [e1] at h; exact h
  | no => rw [e1] at h; exact h
theorem i_enum {p tpos : Pos} {elts : List Expr} {kk : Nat} (hg : Gl X "enumerate") (hm : X.mg "enumerate" = none) (hs : noStar a = true) (ha : PE X a (tD X nm cb CN Wx ca)) : PI X (.Tuple elts kk tpos) (.Call (.Name "enumerate" p) [a] [] pos) (tI X nm cb CN Wx (.enum ca)) := by
  refine (pi_enum hg hm (pa_cons ha pa_nil (star_cons hs)) (star_cons hs)).imp fun σ H Q h => ?_
  obtain ⟨ι, Z, ρ, M, re, sr, h⟩ := h
  rw [evI] at h
  refine ⟨ι, Z, ρ, M, re, sr, po_bind h fun u M1 v H1 ι1 e1 ev ru sr1 h1 => ?_⟩
  cases u with
  | p x =>
    cases x with
    | lst ps =>
      cases ru with
      | lst r1 r2 r3 => exact ⟨_, _, rfl, .of r1, h1 _ H1 ι1 Ev.refl (.enm (.lst r1 r2 r3)) sr1⟩
    | _ => exact h1.elim
  | _ => exact h1.elim
theorem i_zip {p tpos : Pos} {elts : List Expr} {kk : Nat} (hg : Gl X "zip") (hm : X.mg "zip" = none) (hs : noStar a = true) (hs2 : noStar b = true) (ha : PE X a (tD X nm cb CN Wx ca)) (hb : PE X b (tD X nm cb CN Wx cc)) : PI X (.Tuple elts kk tpos) (.Call (.Name "zip" p) [a, b] [] pos) (tI X nm cb CN Wx (.zip ca cc)) := by
  refine (RZ.pi_zipA hg hm (pa_cons ha (pa_cons hb pa_nil (star_cons hs2)) (star_cons hs)) (star_cons hs) (star_none (by simp [hs2]))).imp fun σ H Q h => ?_
  obtain ⟨ι, Z, ρ, M, re, sr, h⟩ := h
  rw [evI] at h
  refine ⟨ι, Z, ρ, M, re, sr, po_bind h fun u M1 v H1 ι1 e1 ev ru sr1 h1 => ⟨ι1, Z, ρ, M1, re.ev ev, sr1, po_bind h1 fun u2 M2 v2 H2 ι2 e2 ev2 ru2 sr2 h2 => ?_⟩⟩
  cases u with
  | p x =>
    cases x with
    | tup ps =>
      cases u2 with
      | p y =>
        cases y with
        | tup qs =>
          have ru := ru.ev ev2
          cases ru with
          | tup r1 r3 =>
            cases ru2 with
            | tup k1 k3 => exact ⟨_, _, _, _, rfl, .inr ⟨r1, k1, h2 _ H2 ι2 Ev.refl (.zip (.tup r1 r3) (.tup k1 k3)) sr2⟩⟩
        | _ => exact h2.elim
      | _ => exact h2.elim
    | _ => exact h2.elim
  | _ => exact h2.elim
end
/-! ### targets -/
mutual
def tgB (vs : List Nat) : Tg → Bool
  | .nm i => vs.contains i
  | .tp ts => tgsB vs ts
def tgsB (vs : List Nat) : List Tg → Bool
  | [] => true
  | t :: ts => tgB vs t && tgsB vs ts
end
theorem wipe_get {σ : L2.St} {j : Nat} : ∀ {vs : List Nat}, (wipe σ vs)[j]? = if j ∈ vs then (if j < σ.length then some none else none) else σ[j]?
  | [] => by simp [wipe]
  | v :: vs => by
    unfold wipe
    by_cases e : v = j
    · subst e
      by_cases hl : v < σ.length
      · rw [List.getElem?_set_self (by rw [wipe_length]; exact hl)]
        simp [hl]
      · rw [List.getElem?_eq_none (by rw [List.length_set, wipe_length]; omega)]
        simp [hl]
    · rw [List.getElem?_set_ne e, wipe_get (vs := vs)]
      have h : (j ∈ v :: vs) = (j ∈ vs) := by
        simp only [List.mem_cons, eq_iff_iff, or_iff_right_iff_imp]
        exact fun h => absurd h.symm e
      simp only [h]
theorem wipe_set {σ : L2.St} {i : Nat} {x : Option V} {vs : List Nat} (h : i ∈ vs) : wipe (σ.set i x) vs = wipe σ vs := by
  refine List.ext_getElem? fun j => ?_
  rw [wipe_get, wipe_get]
  by_cases hj : j ∈ vs
  · simp only [hj, if_true, List.length_set]
  · simp only [hj, if_false]
    exact List.getElem?_set_ne fun e => hj (by rw [← e]; exact h)
section
variable (X : Cx) (nm : Nat → Str)
def tG (t : Tg) : TG := fun v σ H Q => ∃ ι Z ρ M x, REX X nm H ι Z σ ρ ∧ SRX X nm H ι Z M ∧ RpX X nm H (Lv ι Z) v x ∧ ∃ ρ', put t x ρ = some ρ' ∧ ∀ σ', REX X nm H ι Z σ' ρ' → (∀ vs, tgB vs t = true → wipe σ' vs = wipe σ vs) → Q σ' H
def tGs (ts : List Tg) : TGs := fun vs σ H Q => ∃ ι Z ρ M xs, REX X nm H ι Z σ ρ ∧ SRX X nm H ι Z M ∧ RpsX X nm H (Lv ι Z) vs xs ∧ ∃ ρ', put.puts ts xs ρ = some ρ' ∧ ∀ σ', REX X nm H ι Z σ' ρ' → (∀ vs, tgsB vs ts = true → wipe σ' vs = wipe σ vs) → Q σ' H
end
section
variable {X : Cx} {nm : Nat → Str} {pos : Pos}
theorem _root_.L2.PG.imp {tg : Expr} {t t' : TG} (h : PG X tg t) (hi : ∀ v σ H Q, t' v σ H Q → t v σ H Q) : PG X tg t' := ⟨fun pins s σ H v u Q I r q => h.run pins s σ H v u Q I r (hi v σ H Q q)⟩
theorem _root_.L2.PGs.imp {tg : List Expr} {t t' : TGs} (h : PGs X tg t) (hi : ∀ v σ H Q, t' v σ H Q → t v σ H Q) : PGs X tg t' := ⟨fun pins s σ H v u Q I r q => h.run pins s σ H v u Q I r (hi v σ H Q q)⟩
theorem g_nm {i : Nat} {x : Str} (hN : X.N.Nodup) (hi : X.N[i]? = some x) (hx : Loc X.env.scope x) (hf : X.fn x = true ∨ X.env.scope.names.lookup x = some .local) : PG X (.Name x pos) (tG X nm (.nm i)) := by
  refine (pg_name hN hi hx hf).imp fun v σ H Q h => ?_
  obtain ⟨ι, Z, ρ, M, x, re, sr, rx, ρ', h1, h2⟩ := h
  unfold put at h1
  split at h1
  · cases h1
    exact h2 _ (re.set rx) fun vs hv => wipe_set (by simpa [tgB] using hv)
  · cases h1
theorem gs_nil : PGs X [] (tGs X nm []) := by
  refine pgs_nil.imp fun v σ H Q h => ?_
  obtain ⟨ι, Z, ρ, M, xs, re, sr, rx, ρ', h1, h2⟩ := h
  cases rx with
  | nil =>
    cases h1
    exact ⟨rfl, h2 _ re fun _ _ => rfl⟩
  | cons _ _ => cases h1
theorem asg_cons {e : Expr} {es : List Expr} {env : Env} (h : noStar e = true) : (assignEach (e :: es) env).map (·.2) = assign e env :: (assignEach es env).map (·.2) := by
  cases e <;> first | rfl | cases h
theorem asg_len {env : Env} : ∀ {es : List Expr}, es.all noStar = true → (assignEach es env).length = es.length ∧ (assignEach es env).findIdx? (·.1) = none
  | [], _ => ⟨rfl, rfl⟩
  | e :: es, h => by
    simp only [List.all_cons, Bool.and_eq_true] at h
    obtain ⟨h1, h2⟩ := asg_len (env := env) h.2
    have e1 : assignEach (e :: es) env = (false, assign e env) :: assignEach es env := by
      have h3 := h.1
      cases e <;> first | rfl | cases h3
    rw [e1, List.length_cons, List.length_cons, h1, List.findIdx?_cons, h2]
    exact ⟨rfl, rfl⟩
theorem gs_cons {e : Expr} {es : List Expr} {t : Tg} {ts : List Tg} (hs : noStar e = true) (h1 : PG X e (tG X nm t)) (h2 : PGs X es (tGs X nm ts)) : PGs X (e :: es) (tGs X nm (t :: ts)) := by
  refine (pgs_cons h1 h2 (asg_cons hs)).imp fun v σ H Q h => ?_
  obtain ⟨ι, Z, ρ, M, xs, re, sr, rx, ρ', h1, h2⟩ := h
  cases rx with
  | nil => cases h1
  | cons r rr =>
    rename_i v vs p ps
    unfold put.puts at h1
    obtain ⟨ρ1, h3, h4⟩ := Option.bind_eq_some_iff.mp h1
    exact ⟨v, vs, rfl, ι, Z, ρ, M, p, re, sr, r, ρ1, h3, fun σ' re1 w1 => ⟨ι, Z, ρ1, M, ps, re1, sr, rr, ρ', h4, fun σ2 re2 w2 => h2 σ2 re2 fun vs hv => by
      simp only [tgsB, Bool.and_eq_true] at hv
      exact (w2 vs hv.2).trans (w1 vs hv.1)⟩⟩
theorem g_tp {es : List Expr} {k : Nat} {ts : List Tg} (hc : X.calm = true) (hs : es.all noStar = true) (hl : ts.length = es.length) (h : PGs X es (tGs X nm ts)) : PG X (.Tuple es k pos) (tG X nm (.tp ts)) := by
  refine (pg_tup (n := es.length) hc h (asg_len hs).1 (asg_len hs).2).imp fun v σ H Q h => ?_
  obtain ⟨ι, Z, ρ, M, x, re, sr, rx, ρ', h1, h2⟩ := h
  cases x with
  | tup ps =>
    cases rx with
    | tup r1 r2 =>
      refine ⟨_, _, rfl, r1, ?_, ι, Z, ρ, M, ps, re, sr, r2, ρ', h1, fun σ' re' w' => h2 σ' re' fun vs hv => w' vs (by simpa [tgB] using hv)⟩
      rw [r2.length, ← hl]
      have aux : ∀ (ts : List Tg) (ps : List P) (ρ ρ' : Rho), put.puts ts ps ρ = some ρ' → ps.length = ts.length := by
        intro ts
        induction ts with
        | nil => intro ps ρ ρ' h; cases ps with
          | nil => rfl
          | cons _ _ => cases h
        | cons t ts ih => intro ps ρ ρ' h; cases ps with
          | nil => cases h
          | cons p ps =>
            unfold put.puts at h
            obtain ⟨ρ1, h3, h4⟩ := Option.bind_eq_some_iff.mp h
            simp [ih ps ρ1 ρ' h4]
      exact aux ts ps ρ ρ' h1
  | _ => cases h1
end
end Ip

set_option Elab.async false
set_option linter.all false
set_option maxRecDepth 100000
set_option maxHeartbeats 4000000
/-! IpComp: list comprehensions of one clause. -/
namespace Ip
open PySem PySem.Spec PyProof.Rows L2
section
variable {w : World} {mg : Str → Option Value} {nm : Nat → Str} {K : PySem.W.Frag} {H H' : Hp} {ι ι' : Io} {Z Z' : Addr → Prop} {D : Addr} {xs ys : List V} {M : Hm}
/-- the list under construction is protected -/
def addZ (Z : Addr → Prop) (D : Addr) : Addr → Prop := fun a => Z a ∨ a = D
theorem Rp.same (p : P) (v : V) (h : Rp w mg nm K H (Lv ι Z) v p) (hz : ∀ a, ¬ Lv ι Z a → ¬ Lv ι Z' a) : Rp w mg nm K H (Lv ι Z') v p :=
  Rp.to (fun _ _ h => h) (fun a xs n h => ⟨h, hz a n⟩) (fun _ _ _ h => h) (fun a φ n h => ⟨h, hz a n⟩) p v h
theorem Rps.same (ps : List P) (vs : List V) (h : Rps w mg nm K H (Lv ι Z) vs ps) (hz : ∀ a, ¬ Lv ι Z a → ¬ Lv ι Z' a) : Rps w mg nm K H (Lv ι Z') vs ps :=
  Rps.to (fun _ _ h => h) (fun a xs n h => ⟨h, hz a n⟩) (fun _ _ _ h => h) (fun a φ n h => ⟨h, hz a n⟩) ps vs h
theorem not_addZ {a : Addr} (h : ¬ Lv ι (addZ Z D) a) : ¬ Lv ι Z a := fun z => h (z.elim .inl fun z => .inr (.inl z))
theorem sqT_upd {a : Addr} {zs : List V} (hD : H D = some (.lst xs) ∨ H D = none) (h : SqT K H a zs) : SqT K (upd H D (.lst ys)) a zs := by
  have hn : ∀ o, H a = some o → (∀ l, o ≠ .lst l) → upd H D (.lst ys) a = some o := fun o h1 h2 => by
    by_cases e : a = D
    · subst e
      rcases hD with hD | hD
      · rw [hD] at h1; cases h1; exact absurd rfl (h2 _)
      · rw [hD] at h1; cases h1
    · rw [upd_ne e]; exact h1
  rcases h with (h | ⟨u, h⟩) | h
  · exact .inl (.inl (hn _ h (fun _ z => nomatch z)))
  · exact .inl (.inr ⟨u, hn _ h (fun _ z => nomatch z)⟩)
  · exact .inr h
theorem ne_of_not {a : Addr} (h : ¬ Lv ι (addZ Z D) a) : a ≠ D := fun e => h (.inr (.inr e))
/-- data is kept: D is new -/
theorem rp_in (hD : H D = none) (p : P) (v : V) (h : Rp w mg nm K H (Lv ι Z) v p) : Rp w mg nm K (upd H D (.lst ys)) (Lv ι (addZ Z D)) v p :=
  Rp.to (fun a zs h => sqT_upd (xs := []) (.inr hD) h) (fun a zs n h => ⟨by rw [upd_ne (ne_of_none h hD)]; exact h, fun z => z.elim (fun z => n (.inl z)) fun z => z.elim (fun z => n (.inr z)) fun z => ne_of_none h hD z⟩)
    (fun a o u h => by rw [upd_ne (ne_of_none h hD)]; exact h) (fun a φ n h => ⟨by rw [upd_ne (ne_of_none h hD)]; exact h, fun z => z.elim (fun z => n (.inl z)) fun z => z.elim (fun z => n (.inr z)) fun z => ne_of_none h hD z⟩) p v h
theorem rps_in (hD : H D = none) (p : List P) (v : List V) (h : Rps w mg nm K H (Lv ι Z) v p) : Rps w mg nm K (upd H D (.lst ys)) (Lv ι (addZ Z D)) v p :=
  Rps.to (fun a zs h => sqT_upd (xs := []) (.inr hD) h) (fun a zs n h => ⟨by rw [upd_ne (ne_of_none h hD)]; exact h, fun z => z.elim (fun z => n (.inl z)) fun z => z.elim (fun z => n (.inr z)) fun z => ne_of_none h hD z⟩)
    (fun a o u h => by rw [upd_ne (ne_of_none h hD)]; exact h) (fun a φ n h => ⟨by rw [upd_ne (ne_of_none h hD)]; exact h, fun z => z.elim (fun z => n (.inl z)) fun z => z.elim (fun z => n (.inr z)) fun z => ne_of_none h hD z⟩) p v h
/-- data is kept: D grows -/
theorem rp_gr (hD : H D = some (.lst xs)) (p : P) (v : V) (h : Rp w mg nm K H (Lv ι (addZ Z D)) v p) : Rp w mg nm K (upd H D (.lst ys)) (Lv ι (addZ Z D)) v p :=
  Rp.to (fun a zs h => sqT_upd (.inl hD) h) (fun a zs n h => ⟨by rw [upd_ne (ne_of_not n)]; exact h, n⟩)
    (fun a o u hh => by
      by_cases e : a = D
      · subst e; rw [hD] at hh; cases hh
      · rw [upd_ne e]; exact hh) (fun a φ n h => ⟨by rw [upd_ne (ne_of_not n)]; exact h, n⟩) p v h
theorem rps_gr (hD : H D = some (.lst xs)) (p : List P) (v : List V) (h : Rps w mg nm K H (Lv ι (addZ Z D)) v p) : Rps w mg nm K (upd H D (.lst ys)) (Lv ι (addZ Z D)) v p :=
  Rps.to (fun a zs h => sqT_upd (.inl hD) h) (fun a zs n h => ⟨by rw [upd_ne (ne_of_not n)]; exact h, n⟩)
    (fun a o u hh => by
      by_cases e : a = D
      · subst e; rw [hD] at hh; cases hh
      · rw [upd_ne e]; exact hh) (fun a φ n h => ⟨by rw [upd_ne (ne_of_not n)]; exact h, n⟩) p v h
theorem RU.imp {v : V} {u : U} (h : RU w mg nm K H ι Z v u) (hi : ∀ p v, Rp w mg nm K H (Lv ι Z) v p → Rp w mg nm K H' (Lv ι Z') v p) : RU w mg nm K H' ι Z' v u := by
  cases u with
  | p x => exact hi _ _ h
  | ref i => exact h
  | clo _ _ _ => exact h
  | exn _ => exact h
theorem RE.imp {σ : L2.St} {ρ : Rho} (h : RE w mg nm K H ι Z σ ρ) (hi : ∀ p v, Rp w mg nm K H (Lv ι Z) v p → Rp w mg nm K H' (Lv ι Z') v p) : RE w mg nm K H' ι Z' σ ρ := ⟨h.len, fun i u hu => by
  obtain ⟨v, h1, h2⟩ := h.at_ i u hu
  exact ⟨v, h1, h2.imp hi⟩⟩
theorem EntOk.imp {a : Addr} {o : MO} (h : EntOk w mg nm K H (Lv ι Z) a o) (ha : ∀ xs, H a = some (.lst xs) → H' a = some (.lst xs)) (hi : ∀ p v, Rps w mg nm K H (Lv ι Z) v p → Rps w mg nm K H' (Lv ι Z') v p) : EntOk w mg nm K H' (Lv ι Z') a o := by
  cases o with
  | lst ps =>
    obtain ⟨xs, h1, h2⟩ := h
    exact ⟨xs, ha xs h1, hi _ _ h2⟩
  | dct _ _ => exact h
  | dead => exact h
theorem SR.inZ (s : SR w mg nm K H ι Z M) (hD : H D = none) : SR w mg nm K (upd H D (.lst ys)) ι (addZ Z D) M := by
  have hf := s.fresh hD
  refine ⟨s.len, fun i a hi => ?_, s.liv, s.nd, fun a ha z => ?_, fun a ha => ?_⟩
  · obtain ⟨m, h1, h2⟩ := s.ent i a hi
    exact ⟨m, h1, h2.imp (fun xs h => by rw [upd_ne (ne_of_none h hD)]; exact h) fun p v => rps_in hD p v⟩
  · rcases ha with ha | rfl
    · exact s.zi a ha z
    · exact hf (.inl z)
  · by_cases e : a = D
    · subst e; exact ⟨_, upd_same⟩
    · rcases ha with ha | ha
      · obtain ⟨x, h⟩ := s.zt a ha
        exact ⟨x, by rw [upd_ne e]; exact h⟩
      · exact absurd ha e
theorem SR.grow (s : SR w mg nm K H ι (addZ Z D) M) (hD : H D = some (.lst xs)) : SR w mg nm K (upd H D (.lst ys)) ι (addZ Z D) M := by
  refine ⟨s.len, fun i a hi => ?_, s.liv, s.nd, s.zi, fun a ha => ?_⟩
  · obtain ⟨m, h1, h2⟩ := s.ent i a hi
    have hne : a ≠ D := fun e => s.zi D (.inr rfl) (by rw [← e]; exact List.mem_of_getElem? hi)
    exact ⟨m, h1, h2.imp (fun xs h => by rw [upd_ne hne]; exact h) fun p v => rps_gr hD p v⟩
  · by_cases e : a = D
    · subst e; exact ⟨_, upd_same⟩
    · obtain ⟨x, h⟩ := s.zt a ha
      exact ⟨x, by rw [upd_ne e]; exact h⟩
theorem SR.outZ (s : SR w mg nm K H ι (addZ Z D) M) : SR w mg nm K H ι Z M := by
  refine ⟨s.len, fun i a hi => ?_, s.liv, s.nd, fun a ha => s.zi a (.inl ha), fun a ha => s.zt a (.inl ha)⟩
  obtain ⟨m, h1, h2⟩ := s.ent i a hi
  exact ⟨m, h1, h2.imp (fun xs h => h) fun p v h => Rps.same p v h fun a => not_addZ⟩
theorem SR.adopt {ps : List P} (s : SR w mg nm K H ι (addZ Z D) M) (hZ : ¬ Z D) (hD : H D = some (.lst xs)) (r : Rps w mg nm K H (Lv ι (addZ Z D)) xs ps) : SR w mg nm K H (ι ++ [some D]) Z (M ++ [.lst ps]) := by
  have lv : ∀ a, ¬ Lv ι (addZ Z D) a → ¬ Lv (ι ++ [some D]) Z a := fun a h z => by
    rcases z with z | z
    · rcases List.mem_append.mp z with z | z
      · exact h (.inl z)
      · exact h (.inr (.inr (by simpa using z)))
    · exact h (.inr (.inl z))
  have hi : ∀ p v, Rps w mg nm K H (Lv ι (addZ Z D)) v p → Rps w mg nm K H (Lv (ι ++ [some D]) Z) v p := fun p v h =>
    Rps.to (fun _ _ h => h) (fun a xs n h => ⟨h, lv a n⟩) (fun _ _ _ h => h) (fun a φ n h => ⟨h, lv a n⟩) p v h
  have hm : some D ∉ ι := s.zi D (.inr rfl)
  have aux : ∀ {i : Nat} {a : Addr}, (ι ++ [some D])[i]? = some (some a) → (i < ι.length ∧ ι[i]? = some (some a)) ∨ (i = ι.length ∧ a = D) := fun {i a} h => by
    by_cases hl : i < ι.length
    · rw [List.getElem?_append_left hl] at h
      exact .inl ⟨hl, h⟩
    · by_cases z : i = ι.length
      · subst z
        rw [List.getElem?_append_right (Nat.le_refl _)] at h
        exact .inr ⟨rfl, by simpa using h.symm⟩
      · rw [List.getElem?_eq_none (by simp; omega)] at h; cases h
  refine ⟨by simp [s.len], fun i a hi' => ?_, fun i o hi' hq => ?_, fun i j a h1 h2 => ?_, fun a ha z => ?_, fun a ha => s.zt a (.inl ha)⟩
  · rcases aux hi' with ⟨hl, h⟩ | ⟨rfl, rfl⟩
    · obtain ⟨m, h1, h2⟩ := s.ent i a h
      exact ⟨m, by rw [List.getElem?_append_left (by rw [← s.len]; exact hl)]; exact h1, by
        cases m with
        | lst ps =>
          obtain ⟨xs, h3, h4⟩ := h2
          exact ⟨xs, h3, hi _ _ h4⟩
        | dct _ _ => exact h2
        | dead => exact h2⟩
    · refine ⟨.lst ps, ?_, xs, hD, hi _ _ r⟩
      rw [s.len, List.getElem?_append_right (Nat.le_refl _), Nat.sub_self]
      rfl
  · by_cases hl : i < ι.length
    · rw [List.getElem?_append_left (by rw [← s.len]; exact hl)] at hi'
      obtain ⟨a, ha⟩ := s.liv i o hi' hq
      exact ⟨a, by rw [List.getElem?_append_left hl]; exact ha⟩
    · have h0 : i = ι.length := by
        by_cases z : i = ι.length
        · exact z
        · rw [List.getElem?_eq_none (by rw [List.length_append, ← s.len]; simp; omega)] at hi'; cases hi'
      exact ⟨D, by rw [h0, List.getElem?_append_right (Nat.le_refl _)]; simp⟩
  · rcases aux h1 with ⟨l1, e1⟩ | ⟨l1, e1⟩
    · rcases aux h2 with ⟨l2, e2⟩ | ⟨l2, e2⟩
      · exact s.nd i j a e1 e2
      · rw [e2] at e1
        exact absurd (List.mem_of_getElem? e1) hm
    · rcases aux h2 with ⟨l2, e2⟩ | ⟨l2, e2⟩
      · rw [e1] at e2
        exact absurd (List.mem_of_getElem? e2) hm
      · omega
  · rcases List.mem_append.mp z with z | z
    · exact s.zi a (.inl ha) z
    · have e : a = D := by simpa using z
      exact hZ (e ▸ ha)
theorem ev_upd {o : HO} (e : Ev H ι H' ι') (hD : H D = none) : Ev H ι (upd H' D o) ι' :=
  ⟨fun a x h n => ⟨by rw [upd_ne (ne_of_none h hD)]; exact (e.kp a x h n).1, (e.kp a x h n).2⟩, fun a xs h => by rw [upd_ne (ne_of_none h hD)]; exact e.tp a xs h, fun a x u h => by rw [upd_ne (ne_of_none h hD)]; exact e.fz a x u h, e.ic⟩
theorem ev_adopt (e : Ev H ι H' ι') (hD : H D = none) : Ev H ι H' (ι' ++ [some D]) :=
  ⟨fun a x h n => ⟨(e.kp a x h n).1, fun z => by
      rcases List.mem_append.mp z with z | z
      · exact (e.kp a x h n).2 z
      · have e : a = D := by simpa using z
        exact ne_of_none h hD e⟩, e.tp, e.fz, fun i hi => by
    obtain ⟨h1, h2⟩ := e.ic i hi
    refine ⟨by rw [List.length_append]; omega, ?_⟩
    rw [List.getElem?_append_left h1]
    exact h2⟩
theorem ev_keep {o : HO} (e : Ev H ι H' ι') (hm : some D ∉ ι) (h : H D = some o) : H' D = some o := (e.kp D o h hm).1
end
abbrev NoW : WX := fun _ _ _ _ => False
section
variable (X : Cx) (nm : Nat → Str) (cb : Cb) (CN : Nat → Option P)
/-- a clause's test -/
def tTs : Option CE → TT
  | none => tYes
  | some c => tT X nm cb CN NoW c
end
section
variable {X : Cx} {nm : Nat → Str} {cb : Cb} {CN : Nat → Option P} {Wx : WX} {pos : Pos}
/-- a step's reading, from the whole's -/
theorem po_step {α γ : Type} {w : World} {mg : Str → Option Value} {K : PySem.W.Frag} {S' : Hp → Io → V → U → Prop} {S : Hp → Io → α → γ → Prop} {H H1 : Hp} {ι ι1 : Io} {Z Z' : Addr → Prop} {r : R γ} {f : γ → Hm → R (List P)} {g : List P → Hm → R U} {Q : VK} {Q' : α → Hp → Prop} {Ex : XK}
    (h : Po w mg nm K S' H ι Z ((match r with | .ok a M => f a M | _ => .no : R (List P)).bind g) Q Ex) (k : ∀ u M v H2 ι2, Ev H1 ι1 H2 ι2 → S H2 ι2 v u → SR w mg nm K H2 ι2 Z' M → Po w mg nm K S' H ι Z ((f u M).bind g) Q Ex → Q' v H2) : Po w mg nm K S H1 ι1 Z' r Q' NoX := by
  cases r with
  | ok u M => exact fun v H2 ι2 ev s sr => k u M v H2 ι2 ev s sr h
  | ex c M => exact h.elim
  | no => exact h.elim
/-- a clause's loop. F: what goes along; Kp: what is known of the rest -/
theorem loop_of {celt : CE} {t : Tg} {cifs : Option CE} {vs : List Nat} {σ : L2.St} {ρ : Rho} {H0 : Hp} {ι0 : Io} {Z : Addr → Prop} {D : Addr} {M0 : Hm} {acc0 : List P} {xs0 : List V} {qs : List P} {J : L2.It} {F : Hp → Io → Prop} {Kp : R (List P) → Prop} {Fin : Hp → Prop} (ht0 : tgB vs t = true)
    (hF1 : ∀ H ι H' ι', F H ι → some D ∉ ι → Ev H ι H' ι' → F H' ι') (hF2 : ∀ H ι xs ys, F H ι → H D = some (.lst xs) → F (upd H D (.lst ys)) ι) (hno : Kp .no → False) (hf : F H0 ι0) (ir0 : IRel X.w X.mg nm X.K H0 (Lv ι0 (addZ Z D)) J qs) (re0 : RE X.w X.mg nm X.K H0 ι0 (addZ Z D) σ ρ)
    (sr0 : SR X.w X.mg nm X.K H0 ι0 (addZ Z D) M0) (hD0 : H0 D = some (.lst xs0)) (rx0 : Rps X.w X.mg nm X.K H0 (Lv ι0 (addZ Z D)) xs0 acc0) (hlen : acc0.length + qs.length ≤ LIM) (h0 : Kp (cmpL (stepC cb CN celt t cifs vs ρ) qs acc0 M0))
    (hfin : ∀ H' ι' M' acc xs, F H' ι' → SR X.w X.mg nm X.K H' ι' (addZ Z D) M' → H' D = some (.lst xs) → Rps X.w X.mg nm X.K H' (Lv ι' (addZ Z D)) xs acc → Kp (.ok acc M') → acc.length ≤ acc0.length + qs.length → Fin H') :
    ∃ W : Nat → Nat → Hp → Prop, (∃ m, W 0 m H0) ∧ ∀ i m H, W i m H → (J.stop i H ∧ Fin H) ∨ (J.go i H ∧ ∃ Nx : Hp → Prop, (∀ H', Nx H' → ∃ m', m' < m ∧ W (i + 1) m' H') ∧ ∀ x H', J.yld i H x H' → tG X nm t x (wipe σ vs) H' fun σ2 H2 => wipe σ2 vs = wipe σ vs ∧ tTs X nm cb CN cifs σ2 H2 fun b H3 =>
      if b = true then tD X nm cb CN NoW celt σ2 H3 fun y H4 => ∃ acc, H4 D = some (.lst acc) ∧ acc.length < sizeLine ∧ Nx (upd H4 D (.lst (acc ++ [y]))) else Nx H3) := by
  refine ⟨fun i n H' => n = qs.length - i ∧ i ≤ qs.length ∧ ∃ ι' M' acc xs, F H' ι' ∧ IRel X.w X.mg nm X.K H' (Lv ι' (addZ Z D)) J qs ∧ RE X.w X.mg nm X.K H' ι' (addZ Z D) σ ρ ∧ SR X.w X.mg nm X.K H' ι' (addZ Z D) M' ∧ H' D = some (.lst xs) ∧
      Rps X.w X.mg nm X.K H' (Lv ι' (addZ Z D)) xs acc ∧ acc.length ≤ acc0.length + i ∧ Kp (cmpL (stepC cb CN celt t cifs vs ρ) (qs.drop i) acc M'), ⟨qs.length, by simp, Nat.zero_le _, ι0, M0, acc0, xs0, hf, ir0, re0, sr0, hD0, rx0, Nat.le_refl _, h0⟩, ?_⟩
  rintro i n H' ⟨rfl, hi, ι', M', acc, xs, ev', ir', re', sr', hD', rx, hacc, h'⟩
  by_cases hlt : i < qs.length
  · refine .inr ⟨ir'.go hlt, fun H2 => i + 1 ≤ qs.length ∧ ∃ ι2 M2 acc2 xs2, F H2 ι2 ∧ IRel X.w X.mg nm X.K H2 (Lv ι2 (addZ Z D)) J qs ∧ RE X.w X.mg nm X.K H2 ι2 (addZ Z D) σ ρ ∧ SR X.w X.mg nm X.K H2 ι2 (addZ Z D) M2 ∧ H2 D = some (.lst xs2) ∧
      Rps X.w X.mg nm X.K H2 (Lv ι2 (addZ Z D)) xs2 acc2 ∧ acc2.length ≤ acc0.length + (i + 1) ∧ Kp (cmpL (stepC cb CN celt t cifs vs ρ) (qs.drop (i + 1)) acc2 M2), fun H2 ⟨k1, k⟩ => ⟨qs.length - (i + 1), by omega, rfl, k1, k⟩, fun x H2 y => ?_⟩
    have hq : qs[i]? = some qs[i] := by simp [hlt]
    obtain ⟨ev2, sr2, rx2⟩ := ir'.yld sr' hq y
    have hmD : some D ∉ ι' := sr'.zi D (.inr rfl)
    have hD2 := ev_keep ev2 hmD hD'
    have ev02 := hF1 _ _ _ _ ev' hmD ev2
    have ir2 := ir'.ev ev2
    have re2 := re'.ev ev2
    have rxs2 := Rps.ev ev2 acc xs rx
    rw [List.drop_eq_getElem_cons hlt, cmpL_cons] at h'
    generalize hr : stepC cb CN celt t cifs vs ρ qs[i] M' = r at h'
    cases hp : put t qs[i] (wip ρ vs) with
    | none =>
      have e : r = .no := by rw [← hr]; simp only [stepC, hp]
      subst e
      exact (hno h').elim
    | some ρ' =>
      refine ⟨ι', addZ Z D, wip ρ vs, M', qs[i], re2.wip vs, sr2, rx2, ρ', hp, fun σ2 re3 w2 => ?_⟩
      have w3 := w2 vs ht0
      refine ⟨w3.trans ?_, ?_⟩
      · refine List.ext_getElem? fun j => ?_
        rw [wipe_get, wipe_length, wipe_get]
        by_cases hj : j ∈ vs
        · simp only [hj, if_true]
        · simp only [hj, if_false]
      · have e2 : stepC cb CN celt t cifs vs ρ qs[i] M' = (testC cb CN cifs ρ' M').bind (valC cb CN celt ρ') := by
          simp only [stepC, hp]
        rw [e2] at hr
        subst hr
        -- behind the test
        have fin : ∀ (b : Bool) (M3 : Hm) (H3 : Hp) (ι3 : Io), Ev H2 ι' H3 ι3 → SR X.w X.mg nm X.K H3 ι3 (addZ Z D) M3 → Kp (match valC cb CN celt ρ' b M3 with | .ok o M' => cmpL (stepC cb CN celt t cifs vs ρ) (qs.drop (i + 1)) (acc ++ o.toList) M' | _ => .no : R (List P)) →
            if b = true then tD X nm cb CN NoW celt σ2 H3 (fun y H4 => ∃ acc, H4 D = some (.lst acc) ∧ acc.length < sizeLine ∧ (fun H2 => i + 1 ≤ qs.length ∧ ∃ ι2 M2 acc2 xs2, F H2 ι2 ∧ IRel X.w X.mg nm X.K H2 (Lv ι2 (addZ Z D)) J qs ∧ RE X.w X.mg nm X.K H2 ι2 (addZ Z D) σ ρ ∧ SR X.w X.mg nm X.K H2 ι2 (addZ Z D) M2 ∧ H2 D = some (.lst xs2) ∧
              Rps X.w X.mg nm X.K H2 (Lv ι2 (addZ Z D)) xs2 acc2 ∧ acc2.length ≤ acc0.length + (i + 1) ∧ Kp (cmpL (stepC cb CN celt t cifs vs ρ) (qs.drop (i + 1)) acc2 M2)) (upd H4 D (.lst (acc ++ [y])))) else
              (fun H2 => i + 1 ≤ qs.length ∧ ∃ ι2 M2 acc2 xs2, F H2 ι2 ∧ IRel X.w X.mg nm X.K H2 (Lv ι2 (addZ Z D)) J qs ∧ RE X.w X.mg nm X.K H2 ι2 (addZ Z D) σ ρ ∧ SR X.w X.mg nm X.K H2 ι2 (addZ Z D) M2 ∧ H2 D = some (.lst xs2) ∧
              Rps X.w X.mg nm X.K H2 (Lv ι2 (addZ Z D)) xs2 acc2 ∧ acc2.length ≤ acc0.length + (i + 1) ∧ Kp (cmpL (stepC cb CN celt t cifs vs ρ) (qs.drop (i + 1)) acc2 M2)) H3 := by
          intro b M3 H3 ι3 ev3 sr3 h3
          have hD3 := ev_keep ev3 hmD hD2
          cases b with
          | false =>
            rw [if_neg Bool.false_ne_true]
            rw [valC, if_neg Bool.false_ne_true] at h3
            simp only [Option.toList_none, List.append_nil] at h3
            exact ⟨hlt, ι3, M3, acc, xs, hF1 _ _ _ _ ev02 hmD ev3, ir2.ev ev3, re2.ev ev3, sr3, hD3, Rps.ev ev3 acc xs rxs2, by omega, h3⟩
          | true =>
            rw [if_pos rfl]
            rw [valC, if_pos rfl] at h3
            refine ⟨ι3, addZ Z D, ρ', M3, re3.ev ev3, sr3, ?_⟩
            cases hE : evE cb CN celt ρ' M3 with
            | ex c M4 => rw [hE] at h3; exact (hno h3).elim
            | no => rw [hE] at h3; exact (hno h3).elim
            | ok u M4 =>
              rw [hE] at h3
              intro v H4 ι4 ev4 ru sr4
              cases u with
              | p z =>
                simp only [R.bind, Option.toList_some] at h3
                have hD4 := ev_keep ev4 (sr3.zi D (.inr rfl)) hD3
                refine ⟨xs, hD4, ?_, hlt, ι4, M4, acc ++ [z], xs ++ [v], ?_, ?_, ?_, sr4.grow hD4, upd_same, ?_, ?_, h3⟩
                · have := rx.length
                  have := LIM_line
                  omega
                · exact hF2 _ _ _ _ (hF1 _ _ _ _ (hF1 _ _ _ _ ev02 hmD ev3) (sr3.zi D (.inr rfl)) ev4) hD4
                · exact ((ir2.ev ev3).ev ev4).imp fun v p => rp_gr hD4 p v
                · exact ((re2.ev ev3).ev ev4).imp fun p v => rp_gr hD4 p v
                · exact (rps_gr hD4 _ _ (Rps.ev ev4 _ _ (Rps.ev ev3 acc xs rxs2))).snoc (rp_gr hD4 _ _ ru)
                · simp; omega
              | _ => exact (hno h3).elim
        cases cifs with
        | none => exact fin true M' H2 ι' Ev.refl sr2 h'
        | some c =>
          refine ⟨ι', addZ Z D, ρ', M', re3, sr2, ?_⟩
          have h' : Kp (match (evT cb CN c ρ' M').bind (valC cb CN celt ρ') with
            | .ok o M' => cmpL (stepC cb CN celt t (some c) vs ρ) (qs.drop (i + 1)) (acc ++ o.toList) M'
            | _ => .no : R (List P)) := h'
          cases hT : evT cb CN c ρ' M' with
          | ex c M4 => rw [hT] at h'; exact (hno h').elim
          | no => rw [hT] at h'; exact (hno h').elim
          | ok k M3 =>
            rw [hT] at h'
            intro b H3 ι3 ev3 eb sr3
            have e : b = k := eb
            subst e
            exact fin b M3 H3 ι3 ev3 sr3 h'
  · have e : i = qs.length := by omega
    subst e
    refine .inl ⟨ir'.stop, ?_⟩
    rw [List.drop_length] at h'
    exact hfin H' ι' M' acc xs ev' sr' hD' rx h' hacc
/-- the new list, done -/
theorem mk_adopt {m : Bool} {H1 H' : Hp} {ι1 ι' : Io} {Z : Addr → Prop} {D : Addr} {M' : Hm} {acc : List P} {xs : List V} {Q : VK} {Ex : XK} (hD : H1 D = none) (hZ : ¬ Z D) (ev' : Ev H1 ι1 H' ι') (sr' : SR X.w X.mg nm X.K H' ι' (addZ Z D) M') (hD' : H' D = some (.lst xs)) (rx : Rps X.w X.mg nm X.K H' (Lv ι' (addZ Z D)) xs acc)
    (h' : PoU X nm H1 ι1 Z (mk m (.lst acc) M') Q Ex) : Q (.ref D) H' := by
  cases m with
  | false =>
    refine h' (.ref D) H' ι' ev' (.lst hD' ?_ (Rps.same acc xs rx fun a => not_addZ)) sr'.outZ
    rintro (z | z)
    · exact sr'.zi D (.inr rfl) z
    · exact hZ z
  | true =>
    refine h' (.ref D) H' (ι' ++ [some D]) (ev_adopt ev' hD) ⟨?_, fun a ha => ?_⟩ (sr'.adopt hZ hD' rx)
    · rw [List.length_append, sr'.len]; simp
    · rw [← sr'.len, List.getElem?_append_right (Nat.le_refl _)] at ha
      have e : D = a := by simpa using ha
      rw [e]
theorem tLc_of {m : Bool} {celt : CE} {t : Tg} {it : It} {cifs : Option CE} {vs : List Nat} {σ : L2.St} {H : Hp} {Q : VK} (ht0 : tgB vs t = true) (h : tD X nm cb CN Wx (.comp m celt t it cifs vs) σ H Q) :
    tLc (tI X nm cb CN Wx it) (tG X nm t) (tTs X nm cb CN cifs) (tD X nm cb CN NoW celt) vs σ H Q := by
  obtain ⟨ι, Z, ρ, M, re, sr, h⟩ := h
  rw [comp_eq] at h
  refine ⟨ι, Z, ρ, M, re, sr, po_bind h fun qs M1 J H1 ι1 e1 ev ir sr1 h1 => ?_⟩
  intro D hD
  split at h1
  · rename_i hlen
    have re1 := re.ev ev
    have hZ : ¬ Z D := fun z => by
      obtain ⟨o, h⟩ := sr1.zt D z
      rw [hD] at h; cases h
    exact loop_of (F := fun H' ι' => Ev H1 ι1 H' ι') (Kp := fun r => PoU X nm H1 ι1 Z (r.bind fun ys M => mk m (.lst ys) M) Q (fun c d H' => Wx c d σ H')) (acc0 := []) ht0 (fun _ _ _ _ a _ b => a.trans b) (fun _ _ _ _ a _ => ev_upd a hD) (fun h => h) (ev_upd Ev.refl hD) (ir.imp fun v p => rp_in hD p v) (re1.imp fun p v => rp_in hD p v) (sr1.inZ hD) upd_same .nil
      (by simpa using hlen) h1 fun H' ι' M' acc xs ev' sr' hD' rx h' _ => mk_adopt hD hZ ev' sr' hD' rx h'
  · exact h1.elim
theorem d_comp {elt tg iter : Expr} {ifs : List Expr} {scope : Scope} {own : List (Str × Nat)} {m : Bool} {celt : CE} {t : Tg} {it : It} {cifs : Option CE} (hc : X.calm = true) (hN : X.N.Nodup) (hi : PI X tg iter (tI X nm cb CN Wx it)) (ok : BlkOk X.N X.env.scope scope own) (ht0 : tgB (own.map (·.2)) t = true)
    (hg : ∀ (s : Shared) (H : Hp) (C : Addr) (cl : List (Str × Addr)) (fp : List Addr), PG (X.blk s H scope (compEnvC scope cl C X.env) fp) tg (tG X nm t)) (ht : ∀ (s : Shared) (H : Hp) (C : Addr) (cl : List (Str × Addr)) (fp : List Addr), PTs (X.blk s H scope (compEnvC scope cl C X.env) fp) ifs (tTs X nm cb CN cifs))
    (he : ∀ (s : Shared) (H : Hp) (C : Addr) (cl : List (Str × Addr)) (fp : List Addr), PE (X.blk s H scope (compEnvC scope cl C X.env) fp) elt (tD X nm cb CN NoW celt)) (hs : ∀ x, foldedSetIterable iter X.env x = pure x) :
    PE X (.ListComp elt [⟨tg, iter, ifs, 0⟩] scope pos) (tD X nm cb CN Wx (.comp m celt t it cifs (own.map (·.2)))) :=
  (pe_lc hc hN hi ok hg ht he hs).imp fun _ _ _ h => tLc_of ht0 h
theorem tLc2_of {m : Bool} {celt : CE} {t t1 : Tg} {it it1 : It} {cifs : Option CE} {vs vs1 : List Nat} {σ : L2.St} {H : Hp} {Q : VK} (ht0 : tgB vs t = true) (ht1 : tgB vs1 t1 = true) (h : tD X nm cb CN Wx (.comp2 m celt t it t1 it1 cifs vs vs1) σ H Q) :
    tLc2 (tI X nm cb CN Wx it) (tG X nm t) tYes (tI X nm cb CN NoW it1) (tG X nm t1) (tTs X nm cb CN cifs) (tD X nm cb CN NoW celt) vs vs1 σ H Q := by
  obtain ⟨ι, Z, ρ, M, re, sr, h⟩ := h
  rw [comp2_eq] at h
  refine ⟨ι, Z, ρ, M, re, sr, po_bind h fun qs M1 J H1 ι1 e1 ev ir sr1 h1 => ?_⟩
  intro D hD
  split at h1
  · rename_i hlen
    have re1 := re.ev ev
    have hZ : ¬ Z D := fun z => by
      obtain ⟨o, h⟩ := sr1.zt D z
      rw [hD] at h; cases h
    refine ⟨fun i n H' => n = qs.length - i ∧ i ≤ qs.length ∧ ∃ ι' M' acc xs, Ev H1 ι1 H' ι' ∧ IRel X.w X.mg nm X.K H' (Lv ι' (addZ Z D)) J qs ∧ RE X.w X.mg nm X.K H' ι' (addZ Z D) σ ρ ∧ SR X.w X.mg nm X.K H' ι' (addZ Z D) M' ∧ H' D = some (.lst xs) ∧
      Rps X.w X.mg nm X.K H' (Lv ι' (addZ Z D)) xs acc ∧ PoU X nm H1 ι1 Z ((cmpO (innerC cb CN celt t t1 it1 cifs vs vs1 ρ) (qs.drop i) acc M').bind fun ys M => mk m (.lst ys) M) Q (fun c d H' => Wx c d σ H'), ⟨qs.length, by simp, Nat.zero_le _, ι1, M1, [], [], ev_upd Ev.refl hD, ir.imp fun v p => rp_in hD p v, re1.imp fun p v => rp_in hD p v, sr1.inZ hD, upd_same, .nil, h1⟩, ?_⟩
    rintro i n H' ⟨rfl, hi, ι', M', acc, xs, ev', ir', re', sr', hD', rx, h'⟩
    by_cases hlt : i < qs.length
    · refine .inr ⟨ir'.go hlt, fun H2 => i + 1 ≤ qs.length ∧ ∃ ι2 M2 acc2 xs2, Ev H1 ι1 H2 ι2 ∧ IRel X.w X.mg nm X.K H2 (Lv ι2 (addZ Z D)) J qs ∧ RE X.w X.mg nm X.K H2 ι2 (addZ Z D) σ ρ ∧ SR X.w X.mg nm X.K H2 ι2 (addZ Z D) M2 ∧ H2 D = some (.lst xs2) ∧
        Rps X.w X.mg nm X.K H2 (Lv ι2 (addZ Z D)) xs2 acc2 ∧ PoU X nm H1 ι1 Z ((cmpO (innerC cb CN celt t t1 it1 cifs vs vs1 ρ) (qs.drop (i + 1)) acc2 M2).bind fun ys M => mk m (.lst ys) M) Q (fun c d H' => Wx c d σ H'), fun H2 ⟨k1, k⟩ => ⟨qs.length - (i + 1), by omega, rfl, k1, k⟩, fun x H2 y => ?_⟩
      have hq : qs[i]? = some qs[i] := by simp [hlt]
      obtain ⟨ev2, sr2, rx2⟩ := ir'.yld sr' hq y
      have hmD : some D ∉ ι' := sr'.zi D (.inr rfl)
      rw [List.drop_eq_getElem_cons hlt, cmpO_cons] at h'
      generalize hr : innerC cb CN celt t t1 it1 cifs vs vs1 ρ qs[i] acc M' = r at h'
      cases hp : put t qs[i] (wip ρ vs) with
      | none =>
        have e : r = .no := by rw [← hr]; simp only [innerC, hp]
        subst e
        exact h'.elim
      | some ρ' =>
        refine ⟨ι', addZ Z D, wip ρ vs, M', qs[i], (re'.ev ev2).wip vs, sr2, rx2, ρ', hp, fun σ2 re3 w2 => ?_⟩
        have w3 := w2 vs ht0
        refine ⟨w3.trans ?_, ?_⟩
        · refine List.ext_getElem? fun j => ?_
          rw [wipe_get, wipe_length, wipe_get]
          by_cases hj : j ∈ vs
          · simp only [hj, if_true]
          · simp only [hj, if_false]
        · simp only [tYes, if_true]
          have e2 : innerC cb CN celt t t1 it1 cifs vs vs1 ρ qs[i] acc M' = (match evI cb CN it1 ρ' M' with
            | .ok qs1 M => if acc.length + qs1.length ≤ LIM then cmpL (stepC cb CN celt t1 cifs vs1 ρ') qs1 acc M else .no
            | _ => .no) := by
            first | (simp only [innerC, hp]; done) | (simp only [innerC, hp]; rfl)
          rw [e2] at hr
          subst hr
          refine ⟨ι', addZ Z D, ρ', M', re3, sr2, ?_⟩
          cases hI : evI cb CN it1 ρ' M' with
          | ex c M4 => rw [hI] at h'; exact h'.elim
          | no => rw [hI] at h'; exact h'.elim
          | ok qs1 M2 =>
            rw [hI] at h'
            simp only at h'
            intro J1 H4 ι4 ev4 ir1 sr4
            by_cases hl : acc.length + qs1.length ≤ LIM
            · rw [if_pos hl] at h'
              have ev24 := ev2.trans ev4
              exact loop_of (F := fun H' ι' => Ev H1 ι1 H' ι' ∧ IRel X.w X.mg nm X.K H' (Lv ι' (addZ Z D)) J qs ∧ RE X.w X.mg nm X.K H' ι' (addZ Z D) σ ρ)
                (Kp := fun r => PoU X nm H1 ι1 Z ((match r with
                  | .ok acc' M' => cmpO (innerC cb CN celt t t1 it1 cifs vs vs1 ρ) (qs.drop (i + 1)) acc' M'
                  | _ => .no : R (List P)).bind fun ys M => mk m (.lst ys) M) Q (fun c d H' => Wx c d σ H')) ht1
                (fun _ _ _ _ a _ b => ⟨a.1.trans b, a.2.1.ev b, a.2.2.ev b⟩) (fun _ _ _ _ a hd => ⟨ev_upd a.1 hD, a.2.1.imp fun v p => rp_gr hd p v, a.2.2.imp fun p v => rp_gr hd p v⟩) (fun h => h)
                ⟨ev'.trans ev24, ir'.ev ev24, re'.ev ev24⟩ ir1 (re3.ev ev4) sr4 (ev_keep ev24 hmD hD') (Rps.ev ev24 _ _ rx) hl h'
                fun H5 ι5 M5 acc5 xs5 f5 sr5 hD5 rx5 h5 _ => ⟨hlt, ι5, M5, acc5, xs5, f5.1, f5.2.1, f5.2.2, sr5, hD5, rx5, h5⟩
            · rw [if_neg hl] at h'
              exact h'.elim
    · have e : i = qs.length := by omega
      subst e
      refine .inl ⟨ir'.stop, ?_⟩
      rw [List.drop_length, cmpO] at h'
      exact mk_adopt hD hZ ev' sr' hD' rx h'
  · exact h1.elim
section
variable {elt tg iter tg1 iter1 : Expr} {ifs1 : List Expr} {scope : Scope} {own : List (Str × Nat)} {vs1 : List Nat} {m : Bool} {celt : CE} {t t1 : Tg} {it it1 : It} {cifs : Option CE}
theorem d_comp2 (hc : X.calm = true) (hN : X.N.Nodup) (hi : PI X tg iter (tI X nm cb CN Wx it)) (ok : BlkOk X.N X.env.scope scope own) (hv : ∀ i ∈ vs1, i ∈ own.map (·.2)) (ht0 : tgB (own.map (·.2)) t = true) (ht1 : tgB vs1 t1 = true)
    (hg : ∀ (s : Shared) (H : Hp) (C : Addr) (cl : List (Str × Addr)) (fp : List Addr), PG (X.blk s H scope (compEnvC scope cl C X.env) fp) tg (tG X nm t))
    (hi1 : ∀ (s : Shared) (H : Hp) (C : Addr) (cl : List (Str × Addr)) (fp : List Addr), PI (X.blk s H scope (compEnvC scope cl C X.env) fp) tg1 iter1 (tI X nm cb CN NoW it1))
    (hg1 : ∀ (s : Shared) (H : Hp) (C : Addr) (cl : List (Str × Addr)) (fp : List Addr), PG (X.blk s H scope (compEnvC scope cl C X.env) fp) tg1 (tG X nm t1)) (ht : ∀ (s : Shared) (H : Hp) (C : Addr) (cl : List (Str × Addr)) (fp : List Addr), PTs (X.blk s H scope (compEnvC scope cl C X.env) fp) ifs1 (tTs X nm cb CN cifs))
    (he : ∀ (s : Shared) (H : Hp) (C : Addr) (cl : List (Str × Addr)) (fp : List Addr), PE (X.blk s H scope (compEnvC scope cl C X.env) fp) elt (tD X nm cb CN NoW celt)) (hs : ∀ x, foldedSetIterable iter X.env x = pure x) (hs1 : ∀ env x, foldedSetIterable iter1 env x = pure x) :
    PE X (.ListComp elt [⟨tg, iter, [], 0⟩, ⟨tg1, iter1, ifs1, 0⟩] scope pos) (tD X nm cb CN Wx (.comp2 m celt t it t1 it1 cifs (own.map (·.2)) vs1)) :=
  (pe_lc2 hc hN hi ok hv hg (fun _ _ _ _ _ => pts_nil) hi1 hg1 ht he hs hs1).imp fun _ _ _ h => tLc2_of ht0 ht1 h
end
end
end Ip

set_option Elab.async false
set_option linter.all false
set_option maxRecDepth 100000
set_option maxHeartbeats 4000000
/-! IpStmt: statements. -/
namespace Ip
open PySem PySem.Spec PyProof.Rows L2
section
variable (X : Cx) (nm : Nat → Str) (cb : Cb) (CN : Nat → Option P) (W : Nat) (Wx : WX)
/-- what a statement's end is worth -/
def PoS (H : Hp) (ι : Io) (Z : Addr → Prop) (r : RS) (D : Ends) : Prop := match r with
  | .next ρ M => ∀ σ' H' ι', Ev H ι H' ι' → REX X nm H' ι' Z σ' ρ → SRX X nm H' ι' Z M → D.nx σ' H'
  | .ret u M => ∀ v H' ι', Ev H ι H' ι' → RUX X nm H' ι' Z v u → SRX X nm H' ι' Z M → D.rt v H'
  | .brk ρ M => ∀ σ' H' ι', Ev H ι H' ι' → REX X nm H' ι' Z σ' ρ → SRX X nm H' ι' Z M → D.bk σ' H'
  | .cont ρ M => ∀ σ' H' ι', Ev H ι H' ι' → REX X nm H' ι' Z σ' ρ → SRX X nm H' ι' Z M → D.ct σ' H'
  | .ex c ρ M => ∀ a d σ' H' ι', Ev H ι H' ι' → REX X nm H' ι' Z σ' ρ → SRX X nm H' ι' Z M → X.mg (nm c) = some (.ref a) → Wx (.ref a) d σ' H'
  | .no => False
def tS (c : CS) : TS := fun D σ H => ∃ ι Z ρ M, REX X nm H ι Z σ ρ ∧ SRX X nm H ι Z M ∧ PoS X nm Wx H ι Z (evS cb CN W c ρ M) D
def tB (cs : List CS) : TS := fun D σ H => ∃ ι Z ρ M, REX X nm H ι Z σ ρ ∧ SRX X nm H ι Z M ∧ PoS X nm Wx H ι Z (evB cb CN W cs ρ M) D
end
section
variable {X : Cx} {nm : Nat → Str} {cb : Cb} {CN : Nat → Option P} {W : Nat} {Wx : WX} {pos : Pos} {H H1 : Hp} {ι ι1 : Io} {Z : Addr → Prop} {D : Ends} {σ : L2.St} {ρ : Rho}
theorem _root_.L2.PS.imp {s : Stmt} {t t' : TS} (h : PS X s t) (hi : ∀ D σ H, t' D σ H → t D σ H) : PS X s t' := ⟨fun pins s σ H D I q => h.run pins s σ H D I (hi D σ H q)⟩
theorem _root_.L2.PSs.imp {s : List Stmt} {t t' : TS} (h : PSs X s t) (hi : ∀ D σ H, t' D σ H → t D σ H) : PSs X s t' := ⟨fun pins s σ H D I q => h.run pins s σ H D I (hi D σ H q)⟩
theorem PoS.ev {r : RS} (h : PoS X nm Wx H ι Z r D) (e : Ev H ι H1 ι1) : PoS X nm Wx H1 ι1 Z r D := by
  cases r with
  | next ρ M => exact fun σ' H' ι' e' => h σ' H' ι' (e.trans e')
  | ret u M => exact fun σ' H' ι' e' => h σ' H' ι' (e.trans e')
  | brk ρ M => exact fun σ' H' ι' e' => h σ' H' ι' (e.trans e')
  | cont ρ M => exact fun σ' H' ι' e' => h σ' H' ι' (e.trans e')
  | ex c ρ M => exact fun a d σ' H' ι' e' => h a d σ' H' ι' (e.trans e')
  | no => exact h
theorem pos_st {α β : Type} {S : Hp → Io → β → α → Prop} {r : R α} {f : α → Hm → RS} {Q' : β → Hp → Prop} (re : REX X nm H ι Z σ ρ) (h : PoS X nm Wx H ι Z (r.st ρ f) D)
    (k : ∀ u M1 v H1 ι1, r = .ok u M1 → Ev H ι H1 ι1 → S H1 ι1 v u → SRX X nm H1 ι1 Z M1 → PoS X nm Wx H1 ι1 Z (f u M1) D → Q' v H1) : Po X.w X.mg nm X.K S H ι Z r Q' (fun c d H' => Wx c d σ H') := by
  cases r with
  | ok u M1 => exact fun v H1 ι1 ev s sr => k u M1 v H1 ι1 rfl ev s sr (PoS.ev h ev)
  | ex c M => exact fun a d H' ι' ev sr hm => h a d σ H' ι' ev (re.ev ev) sr hm
  | no => exact h
/-! ### blocks -/
theorem b_nil : PSs X [] (tB X nm cb CN W Wx []) := by
  refine pss_nil.imp fun D σ H h => ?_
  obtain ⟨ι, Z, ρ, M, re, sr, h⟩ := h
  rw [evB] at h
  exact h σ H ι Ev.refl re sr
theorem b_cons {s : Stmt} {ss : List Stmt} {c : CS} {cs : List CS} (h1 : PS X s (tS X nm cb CN W Wx c)) (h2 : PSs X ss (tB X nm cb CN W Wx cs)) : PSs X (s :: ss) (tB X nm cb CN W Wx (c :: cs)) := by
  refine (pss_cons h1 h2).imp fun D σ H h => ?_
  obtain ⟨ι, Z, ρ, M, re, sr, h⟩ := h
  rw [evB] at h
  refine ⟨ι, Z, ρ, M, re, sr, ?_⟩
  cases r : evS cb CN W c ρ M with
  | next ρ' M' =>
    rw [r] at h
    exact fun σ' H' ι' ev re' sr' => ⟨ι', Z, ρ', M', re', sr', PoS.ev h ev⟩
  | ret u M' => rw [r] at h; exact h
  | brk ρ' M' => rw [r] at h; exact h
  | cont ρ' M' => rw [r] at h; exact h
  | ex c' ρ' M' => rw [r] at h; exact h
  | no => rw [r] at h; exact h
/-! ### small ones -/
variable {e : Expr} {ce : CE}
theorem s_ret (he : PE X e (tD X nm cb CN Wx ce)) : PS X (.Return (some e) pos) (tS X nm cb CN W Wx (.ret ce)) := by
  refine (ps_ret he).imp fun D σ H h => ?_
  obtain ⟨ι, Z, ρ, M, re, sr, h⟩ := h
  rw [evS] at h
  exact ⟨ι, Z, ρ, M, re, sr, pos_st re h fun u M1 v H1 ι1 e1 ev ru sr1 h1 => h1 v H1 ι1 Ev.refl ru sr1⟩
theorem s_retN : PS X (.Return none pos) (tS X nm cb CN W Wx (.ret (.cst .non))) := by
  refine ps_retN.imp fun D σ H h => ?_
  obtain ⟨ι, Z, ρ, M, re, sr, h⟩ := h
  rw [evS, evE] at h
  exact h .non H ι Ev.refl .non sr
theorem s_brk : PS X (.Break pos) (tS X nm cb CN W Wx .brk) := by
  refine ps_break.imp fun D σ H h => ?_
  obtain ⟨ι, Z, ρ, M, re, sr, h⟩ := h
  rw [evS] at h
  exact h σ H ι Ev.refl re sr
theorem s_cont : PS X (.Continue pos) (tS X nm cb CN W Wx .cont) := by
  refine ps_continue.imp fun D σ H h => ?_
  obtain ⟨ι, Z, ρ, M, re, sr, h⟩ := h
  rw [evS] at h
  exact h σ H ι Ev.refl re sr
theorem sw_no {e : Expr} {t : Option Expr} {l : Nat} {env : Env} (h : noComp e = true) : swapsWith e t l env = pure false := by
  cases e <;> first | rfl | cases h
theorem s_expr (hc : noComp e = true) (he : PE X e (tD X nm cb CN Wx ce)) : PS X (.Expr e pos) (tS X nm cb CN W Wx (.expr ce)) := by
  refine (ps_expr he (sw_no hc)).imp fun D σ H h => ?_
  obtain ⟨ι, Z, ρ, M, re, sr, h⟩ := h
  rw [evS] at h
  exact ⟨ι, Z, ρ, M, re, sr, pos_st re h fun u M1 v H1 ι1 e1 ev ru sr1 h1 => h1 σ H1 ι1 Ev.refl (re.ev ev) sr1⟩
/-- what ps_set is to say of the slot, from the core's statement -/
theorem set_of {i : Nat} (h : tS X nm cb CN W Wx (.set (.nm i) ce) D σ H) : tAsg (tD X nm cb CN Wx ce) (gName i) D σ H := by
  obtain ⟨ι, Z, ρ, M, re, sr, h⟩ := h
  rw [evS] at h
  refine ⟨ι, Z, ρ, M, re, sr, pos_st re h fun u M1 v H1 ι1 e1 ev ru sr1 h1 => ?_⟩
  have e : putU (.nm i) u ρ = if i < ρ.length then some (ρ.set i (some u)) else none := by cases u <;> rfl
  rw [e] at h1
  by_cases hl : i < ρ.length
  · rw [if_pos hl] at h1
    exact h1 _ H1 ι1 Ev.refl ((re.ev ev).set ru) sr1
  · rw [if_neg hl] at h1
    exact h1.elim
theorem s_set {i : Nat} {x : Str} {p : Pos} (hN : X.N.Nodup) (hi : X.N[i]? = some x) (hx : Loc X.env.scope x) (hf : X.fn x = true ∨ X.env.scope.names.lookup x = some .local) (hs : swapsWith e (some (.Name x p)) pos.line X.env = pure false) (he : PE X e (tD X nm cb CN Wx ce)) :
    PS X (.Assign [.Name x p] e pos) (tS X nm cb CN W Wx (.set (.nm i) ce)) :=
  (ps_set hN hi hx he hs hf).imp fun _ _ _ h => set_of h
theorem s_setLc {i : Nat} {y : Str} {py : Pos} {elt tg iter : Expr} {ifs : List Expr} {scope : Scope} {own : List (Str × Nat)} {cpos : Pos} {m : Bool} {celt : CE} {t : Tg} {it : It} {cifs : Option CE} (hc : X.calm = true) (hN : X.N.Nodup) (hy : X.N[i]? = some y) (hyl : X.env.scope.names.lookup y = some .local)
    (hsw : swapsWith (.ListComp elt [⟨tg, iter, ifs, 0⟩] scope cpos) (some (.Name y py)) pos.line X.env = pure true) (hi : PI X tg iter (tI X nm cb CN Wx it)) (ok : BlkOk X.N X.env.scope scope own) (ht0 : tgB (own.map (·.2)) t = true)
    (hg : ∀ (s : Shared) (H : Hp) (C : Addr) (cl : List (Str × Addr)) (fp : List Addr), PG (X.blk s H scope (compEnvC scope cl C X.env) fp) tg (tG X nm t)) (ht : ∀ (s : Shared) (H : Hp) (C : Addr) (cl : List (Str × Addr)) (fp : List Addr), PTs (X.blk s H scope (compEnvC scope cl C X.env) fp) ifs (tTs X nm cb CN cifs))
    (he : ∀ (s : Shared) (H : Hp) (C : Addr) (cl : List (Str × Addr)) (fp : List Addr), PE (X.blk s H scope (compEnvC scope cl C X.env) fp) elt (tD X nm cb CN NoW celt)) (hs : ∀ x, foldedSetIterable iter X.env x = pure x) :
    PS X (.Assign [.Name y py] (.ListComp elt [⟨tg, iter, ifs, 0⟩] scope cpos) pos) (tS X nm cb CN W Wx (.set (.nm i) (.comp m celt t it cifs (own.map (·.2))))) :=
  (ps_setLc hc hN hy hyl hsw hi ok hg ht he hs).imp fun _ _ _ h => tLc_of ht0 (set_of h)
theorem s_setLc2 {i : Nat} {y : Str} {py : Pos} {elt tg iter tg1 iter1 : Expr} {ifs1 : List Expr} {scope : Scope} {own : List (Str × Nat)} {vs1 : List Nat} {cpos : Pos} {m : Bool} {celt : CE} {t t1 : Tg} {it it1 : It} {cifs : Option CE} (hc : X.calm = true) (hN : X.N.Nodup) (hy : X.N[i]? = some y) (hyl : X.env.scope.names.lookup y = some .local)
    (hsw : swapsWith (.ListComp elt [⟨tg, iter, [], 0⟩, ⟨tg1, iter1, ifs1, 0⟩] scope cpos) (some (.Name y py)) pos.line X.env = pure true) (hi : PI X tg iter (tI X nm cb CN Wx it)) (ok : BlkOk X.N X.env.scope scope own) (hv : ∀ i ∈ vs1, i ∈ own.map (·.2)) (ht0 : tgB (own.map (·.2)) t = true) (ht1 : tgB vs1 t1 = true)
    (hg : ∀ (s : Shared) (H : Hp) (C : Addr) (cl : List (Str × Addr)) (fp : List Addr), PG (X.blk s H scope (compEnvC scope cl C X.env) fp) tg (tG X nm t))
    (hi1 : ∀ (s : Shared) (H : Hp) (C : Addr) (cl : List (Str × Addr)) (fp : List Addr), PI (X.blk s H scope (compEnvC scope cl C X.env) fp) tg1 iter1 (tI X nm cb CN NoW it1))
    (hg1 : ∀ (s : Shared) (H : Hp) (C : Addr) (cl : List (Str × Addr)) (fp : List Addr), PG (X.blk s H scope (compEnvC scope cl C X.env) fp) tg1 (tG X nm t1)) (ht : ∀ (s : Shared) (H : Hp) (C : Addr) (cl : List (Str × Addr)) (fp : List Addr), PTs (X.blk s H scope (compEnvC scope cl C X.env) fp) ifs1 (tTs X nm cb CN cifs))
    (he : ∀ (s : Shared) (H : Hp) (C : Addr) (cl : List (Str × Addr)) (fp : List Addr), PE (X.blk s H scope (compEnvC scope cl C X.env) fp) elt (tD X nm cb CN NoW celt)) (hs : ∀ x, foldedSetIterable iter X.env x = pure x) (hs1 : ∀ env x, foldedSetIterable iter1 env x = pure x) :
    PS X (.Assign [.Name y py] (.ListComp elt [⟨tg, iter, [], 0⟩, ⟨tg1, iter1, ifs1, 0⟩] scope cpos) pos) (tS X nm cb CN W Wx (.set (.nm i) (.comp2 m celt t it t1 it1 cifs (own.map (·.2)) vs1))) :=
  (ps_setLc2 hc hN hy hyl hsw hi ok hv hg (fun _ _ _ _ _ => pts_nil) hi1 hg1 ht he hs hs1).imp fun _ _ _ h => tLc2_of ht0 ht1 (set_of h)
/-- a, b = e: a tuple is taken apart -/
theorem s_tup {es : List Expr} {k : Nat} {p : Pos} {ts : List Tg} (he : PE X e (tD X nm cb CN Wx ce)) (hg : PG X (.Tuple es k p) (tG X nm (.tp ts))) (hs : swapsWithSole [.Tuple es k p] e pos.line X.env = pure false) (hw : swappedStores [.Tuple es k p] e X.env = pure none) :
    PS X (.Assign [.Tuple es k p] e pos) (tS X nm cb CN W Wx (.set (.tp ts) ce)) := by
  refine (ps_asg he hg hs hw).imp fun D σ H h => ?_
  obtain ⟨ι, Z, ρ, M, re, sr, h⟩ := h
  rw [evS] at h
  refine ⟨ι, Z, ρ, M, re, sr, pos_st re h fun u M1 v H1 ι1 e1 ev ru sr1 h1 => ?_⟩
  cases u with
  | p x =>
    simp only [putU] at h1
    cases hp : put (.tp ts) x ρ with
    | none => rw [hp] at h1; exact h1.elim
    | some ρ' =>
      rw [hp] at h1
      exact ⟨ι1, Z, ρ, M1, x, re.ev ev, sr1, ru, ρ', hp, fun σ' re' _ => h1 σ' H1 ι1 Ev.refl re' sr1⟩
  | ref i => simp only [putU] at h1; exact h1.elim
  | clo _ _ _ => simp only [putU] at h1; exact h1.elim
  | exn _ => simp only [putU] at h1; exact h1.elim
/-- a, b, .. = x, y, ..: a tuple is made and taken apart, its items may be lists that change -/
def tGU (X : Cx) (nm : Nat → Str) (is : List Nat) : TGs := fun vs σ H Q => ∃ ι Z ρ M us, REX X nm H ι Z σ ρ ∧ SRX X nm H ι Z M ∧ Paired (fun v u => RUX X nm H ι Z v u) vs us ∧ ∃ ρ', setA ρ is us = some ρ' ∧ ∀ σ', REX X nm H ι Z σ' ρ' → Q σ' H
theorem gu_nil : PGs X [] (tGU X nm []) := by
  refine pgs_nil.imp fun v σ H Q h => ?_
  obtain ⟨ι, Z, ρ, M, us, re, sr, r, ρ', h1, h2⟩ := h
  cases r with
  | nil =>
    cases h1
    exact ⟨rfl, h2 _ re⟩
  | cons _ _ => cases h1
theorem gu_cons {i : Nat} {is : List Nat} {x : Str} {p : Pos} {es : List Expr} (hN : X.N.Nodup) (hi : X.N[i]? = some x) (hx : Loc X.env.scope x) (hf : X.fn x = true ∨ X.env.scope.names.lookup x = some .local) (h2 : PGs X es (tGU X nm is)) : PGs X (.Name x p :: es) (tGU X nm (i :: is)) := by
  refine (pgs_cons (pg_name hN hi hx hf) h2 (asg_cons rfl)).imp fun v σ H Q h => ?_
  obtain ⟨ι, Z, ρ, M, us, re, sr, r, ρ', h1, h2⟩ := h
  cases r with
  | nil => cases h1
  | cons r rr =>
    rename_i v u vs us
    unfold setA at h1
    split at h1
    · exact ⟨_, _, rfl, ι, Z, _, M, _, re.set r, sr, rr, ρ', h1, h2⟩
    · cases h1
theorem setA_len : ∀ {is : List Nat} {us : List U} {ρ ρ' : Rho}, setA ρ is us = some ρ' → us.length = is.length
  | [], [], _, _, _ => rfl
  | [], _ :: _, _, _, h => by cases h
  | _ :: _, [], _, _, h => by cases h
  | i :: is, u :: us, ρ, ρ', h => by
    unfold setA at h
    split at h
    · simp [setA_len h]
    · cases h
theorem s_parT {es vs : List Expr} {ces : List CE} {is : List Nat} {k k2 : Nat} {p p2 : Pos} (hc : X.calm = true) (hs : es.all noStar = true) (hl : is.length = es.length) (hl2 : ces.length ≤ 1000) (hg : PGs X es (tGU X nm is)) (ha : PA X vs (tA X nm cb CN Wx ces)) (hw : swappedStores [.Tuple es k p] (.Tuple vs k2 p2) X.env = pure none) :
    PS X (.Assign [.Tuple es k p] (.Tuple vs k2 p2) pos) (tS X nm cb CN W Wx (.parT is ces)) := by
  refine (ps_asg (pe_tup ha) (pg_tup (n := es.length) hc hg (asg_len hs).1 (asg_len hs).2) (hs := by unfold swapsWithSole; exact sw_no rfl) (hw := hw)).imp fun D σ H h => ?_
  obtain ⟨ι, Z, ρ, M, re, sr, h⟩ := h
  rw [evS] at h
  refine ⟨ι, Z, ρ, M, re, sr, pos_st re h fun us M1 ws H1 ι1 e1 ev rus sr1 h1 => ?_⟩
  have hlen : ws.length = us.length := paired_len rus
  have hle : us.length = ces.length := evU_len e1
  refine ⟨small_line (by omega), fun q hq => ?_⟩
  cases hA : setA ρ is us with
  | none => rw [hA] at h1; exact h1.elim
  | some ρ' =>
    rw [hA] at h1
    have e2 : Ev H1 ι1 (upd H1 q (.tup ws)) ι1 := Ev.new hq
    have h3 := setA_len hA
    have rus2 : Paired (fun v u => RUX X nm (upd H1 q (.tup ws)) ι1 Z v u) ws us := by
      have aux : ∀ {vs : List V} {us : List U}, Paired (fun v u => RUX X nm H1 ι1 Z v u) vs us → Paired (fun v u => RUX X nm (upd H1 q (.tup ws)) ι1 Z v u) vs us := by
        intro vs us h
        induction h with
        | nil => exact .nil
        | cons r t ih => exact .cons (RU.ev e2 r) ih
      exact aux rus
    exact ⟨q, ws, rfl, .inl (.inl upd_same), by omega, ι1, Z, ρ, M1, us, (re.ev ev).ev e2, sr1.new hq, rus2, ρ', hA, fun σ' re' => h1 σ' _ ι1 e2 re' (sr1.new hq)⟩
theorem s_par {i j : Nat} {x y : Str} {a b : Expr} {ca cc : CE} {px py pt : Pos} {kt k2 pt2} (hc : X.calm = true) (hN : X.N.Nodup) (hi : X.N[i]? = some x) (hj : X.N[j]? = some y) (hij : i ≠ j)
    (hx : X.env.scope.names.lookup x = some .local) (hy : X.env.scope.names.lookup y = some .local) (ha : PA X [a, b] (tA X nm cb CN Wx [ca, cc])) (hw : swappedStores [.Tuple [.Name x px, .Name y py] kt pt] (.Tuple [a, b] k2 pt2) X.env = pure (some [x, y])) :
    PS X (.Assign [.Tuple [.Name x px, .Name y py] kt pt] (.Tuple [a, b] k2 pt2) pos) (tS X nm cb CN W Wx (.par i j ca cc)) := by
  refine (ps_par hc hN hi hj hij hx hy ha hw).imp fun D σ H h => ?_
  obtain ⟨ι, Z, ρ, M, re, sr, h⟩ := h
  rw [evS] at h
  refine ⟨ι, Z, ρ, M, re, sr, ?_⟩
  rw [evU]
  cases e1 : evE cb CN ca ρ M with
  | ex c M1 => rw [e1] at h; exact fun a d H' ι' ev sr hm => h a d σ H' ι' ev (re.ev ev) sr hm
  | no => rw [e1] at h; exact h
  | ok u M1 =>
    rw [e1] at h
    simp only [R.bind, R.st] at h ⊢
    rw [evU]
    cases e2 : evE cb CN cc ρ M1 with
    | ex c M2 => rw [e2] at h; exact fun a d H' ι' ev sr hm => h a d σ H' ι' ev (re.ev ev) sr hm
    | no => rw [e2] at h; exact h
    | ok u2 M2 =>
      rw [e2] at h
      simp only [R.bind, evU] at h ⊢
      intro vs H1 ι1 ev rus sr1
      cases rus with
      | cons r1 t =>
        cases t with
        | cons r2 t =>
          cases t
          split at h
          · exact ⟨_, _, rfl, h _ H1 ι1 ev (((re.ev ev).set r1).set r2) sr1⟩
          · exact h.elim
theorem s_par3 {i j l : Nat} {x y z : Str} {a b c : Expr} {ca cc cd : CE} {px py pz pt : Pos} {kt k2 pt2} (hc : X.calm = true) (hN : X.N.Nodup) (hi : X.N[i]? = some x) (hj : X.N[j]? = some y) (hl : X.N[l]? = some z) (hij : i ≠ j) (hil : i ≠ l) (hjl : j ≠ l)
    (hx : X.env.scope.names.lookup x = some .local) (hy : X.env.scope.names.lookup y = some .local) (hz : X.env.scope.names.lookup z = some .local) (ha : PA X [a, b, c] (tA X nm cb CN Wx [ca, cc, cd])) (hw : swappedStores [.Tuple [.Name x px, .Name y py, .Name z pz] kt pt] (.Tuple [a, b, c] k2 pt2) X.env = pure (some [x, y, z])) :
    PS X (.Assign [.Tuple [.Name x px, .Name y py, .Name z pz] kt pt] (.Tuple [a, b, c] k2 pt2) pos) (tS X nm cb CN W Wx (.par3 i j l ca cc cd)) := by
  refine (ps_par3 hc hN hi hj hl hij hil hjl hx hy hz ha hw).imp fun D σ H h => ?_
  obtain ⟨ι, Z, ρ, M, re, sr, h⟩ := h
  rw [evS] at h
  refine ⟨ι, Z, ρ, M, re, sr, ?_⟩
  rw [evU]
  cases e1 : evE cb CN ca ρ M with
  | ex c M1 => rw [e1] at h; exact fun a d H' ι' ev sr hm => h a d σ H' ι' ev (re.ev ev) sr hm
  | no => rw [e1] at h; exact h
  | ok u M1 =>
    rw [e1] at h
    simp only [R.bind, R.st] at h ⊢
    rw [evU]
    cases e2 : evE cb CN cc ρ M1 with
    | ex c M2 => rw [e2] at h; exact fun a d H' ι' ev sr hm => h a d σ H' ι' ev (re.ev ev) sr hm
    | no => rw [e2] at h; exact h
    | ok u2 M2 =>
      rw [e2] at h
      simp only [R.bind] at h ⊢
      rw [evU]
      cases e3 : evE cb CN cd ρ M2 with
      | ex c M3 => rw [e3] at h; exact fun a d H' ι' ev sr hm => h a d σ H' ι' ev (re.ev ev) sr hm
      | no => rw [e3] at h; exact h
      | ok u3 M3 =>
        rw [e3] at h
        simp only [R.bind, evU] at h ⊢
        intro vs H1 ι1 ev rus sr1
        cases rus with
        | cons r1 t =>
          cases t with
          | cons r2 t =>
            cases t with
            | cons r3 t =>
              cases t
              split at h
              · exact ⟨_, _, _, rfl, h _ H1 ι1 ev ((((re.ev ev).set r1).set r2).set r3) sr1⟩
              · exact h.elim
/-! ### if, for, while -/
theorem s_if {c : Expr} {a b : List Stmt} {cc : CE} {ca cb' : List CS} (hc : PT X c (tT X nm cb CN Wx cc)) (ha : PSs X a (tB X nm cb CN W Wx ca)) (hb : PSs X b (tB X nm cb CN W Wx cb')) : PS X (.If c a b pos) (tS X nm cb CN W Wx (.ife cc ca cb')) := by
  refine (ps_if hc ha hb).imp fun D σ H h => ?_
  obtain ⟨ι, Z, ρ, M, re, sr, h⟩ := h
  rw [evS] at h
  have h : PoS X nm Wx H ι Z ((evT cb CN cc ρ M).st ρ fun k M => if k then evB cb CN W ca ρ M else evB cb CN W cb' ρ M) D := by
    refine Eq.mp (congrArg (fun r => PoS X nm Wx H ι Z r D) ?_) h
    unfold evT
    cases evE cb CN cc ρ M with
    | ok u M1 =>
      simp only [R.bind, R.st]
      cases (rd M1 u).bind truP with
      | none => rfl
      | some k => cases k <;> rfl
    | ex c M1 => rfl
    | no => rfl
  refine ⟨ι, Z, ρ, M, re, sr, pos_st re h fun k M1 v H1 ι1 e1 ev ru sr1 h1 => ?_⟩
  have e : v = k := ru
  subst e
  cases v with
  | true =>
    rw [if_pos rfl] at h1 ⊢
    exact ⟨ι1, Z, ρ, M1, re.ev ev, sr1, h1⟩
  | false =>
    rw [if_neg Bool.false_ne_true] at h1 ⊢
    exact ⟨ι1, Z, ρ, M1, re.ev ev, sr1, h1⟩
/-- a loop's turn -/
def nextL (k : Rho → Hm → RS) : RS → RS
  | .next ρ M => k ρ M
  | .cont ρ M => k ρ M
  | .brk ρ M => .next ρ M
  | r => r
theorem pos_loop {r : RS} {k : Rho → Hm → RS} {N : L2.St → Hp → Prop} (h : PoS X nm Wx H ι Z (nextL k r) D) (hN : ∀ ρ' M' σ' H' ι', Ev H ι H' ι' → REX X nm H' ι' Z σ' ρ' → SRX X nm H' ι' Z M' → PoS X nm Wx H' ι' Z (k ρ' M') D → N σ' H') : PoS X nm Wx H ι Z r { D with nx := N, ct := N, bk := D.nx } := by
  cases r with
  | next ρ M => exact fun σ' H' ι' ev re sr => hN ρ M σ' H' ι' ev re sr (PoS.ev h ev)
  | ret u M => exact h
  | brk ρ M => exact h
  | cont ρ M => exact fun σ' H' ι' ev re sr => hN ρ M σ' H' ι' ev re sr (PoS.ev h ev)
  | ex c ρ M => exact h
  | no => exact h
theorem forL_cons {pt : P → Rho → Option Rho} {body : Rho → Hm → RS} {q : P} {qs : List P} {M : Hm} : forL pt body (q :: qs) ρ M = match pt q ρ with
    | none => .no
    | some ρ' => nextL (forL pt body qs) (body ρ' M) := by
  rw [forL]
  cases pt q ρ with
  | none => rfl
  | some ρ' =>
    show (match body ρ' M with | .next ρ'' M' => _ | .cont ρ'' M' => _ | .brk ρ'' M' => _ | r => r) = nextL _ (body ρ' M)
    cases body ρ' M <;> rfl
theorem s_for {tg iter : Expr} {body : List Stmt} {t : Tg} {it : It} {cbody : List CS} (hp : PassesOwn (model X.prog X.w) X.A X.env X.xe) (hc : X.calm = true) (hi : PI X tg iter (tI X nm cb CN Wx it)) (hg : PG X tg (tG X nm t)) (hb : PSs X body (tB X nm cb CN W Wx cbody)) (hs : ∀ x, foldedSetIterable iter X.env x = pure x) :
    PS X (.For tg iter body [] pos) (tS X nm cb CN W Wx (.for_ t it cbody)) := by
  refine (ps_for hp hc hi hg hb hs).imp fun D σ H h => ?_
  obtain ⟨ι, Z, ρ, M, re, sr, h⟩ := h
  rw [evS] at h
  refine ⟨ι, Z, ρ, M, re, sr, pos_st re h fun qs M1 J H1 ι1 e1 ev ir sr1 h1 => ?_⟩
  refine ⟨fun i n σ' H' => n = qs.length - i ∧ i ≤ qs.length ∧ ∃ ι' ρ' M', IRel X.w X.mg nm X.K H' (Lv ι' Z) J qs ∧ REX X nm H' ι' Z σ' ρ' ∧ SRX X nm H' ι' Z M' ∧ PoS X nm Wx H' ι' Z (forL (put t) (evB cb CN W cbody) (qs.drop i) ρ' M') D, ⟨qs.length, by simp, Nat.zero_le _, ι1, ρ, M1, ir, re.ev ev, sr1, h1⟩, ?_⟩
  rintro i n σ' H' ⟨rfl, hi, ι', ρ', M', ir', re', sr', h'⟩
  by_cases hlt : i < qs.length
  · refine .inr ⟨ir'.go hlt, fun σ2 H2 => i + 1 ≤ qs.length ∧ ∃ ι2 ρ2 M2, IRel X.w X.mg nm X.K H2 (Lv ι2 Z) J qs ∧ REX X nm H2 ι2 Z σ2 ρ2 ∧ SRX X nm H2 ι2 Z M2 ∧ PoS X nm Wx H2 ι2 Z (forL (put t) (evB cb CN W cbody) (qs.drop (i + 1)) ρ2 M2) D,
      fun σ2 H2 ⟨k1, k⟩ => ⟨qs.length - (i + 1), by omega, rfl, k1, k⟩, fun x H2 y => ?_⟩
    obtain ⟨ev2, sr2, rx2⟩ := ir'.yld sr' (show qs[i]? = some qs[i] by simp [hlt]) y
    rw [List.drop_eq_getElem_cons hlt, forL_cons] at h'
    cases hp : put t qs[i] ρ' with
    | none => rw [hp] at h'; exact h'.elim
    | some ρ2 =>
      rw [hp] at h'
      refine ⟨ι', Z, ρ', M', qs[i], re'.ev ev2, sr2, rx2, ρ2, hp, fun σ2 re2 _ => ⟨ι', Z, ρ2, M', re2, sr2, ?_⟩⟩
      refine pos_loop (k := forL (put t) (evB cb CN W cbody) (qs.drop (i + 1))) (PoS.ev h' ev2) fun ρ3 M3 σ3 H3 ι3 ev3 re3 sr3 h3 => ⟨hlt, ι3, ρ3, M3, (ir'.ev ev2).ev ev3, re3, sr3, h3⟩
  · have e : i = qs.length := by omega
    subst e
    refine .inl ⟨ir'.stop, ?_⟩
    rw [List.drop_length, forL] at h'
    exact h' σ' H' ι' Ev.refl re' sr'
theorem whlL_succ {test : Rho → Hm → R Bool} {body : Rho → Hm → RS} {n : Nat} {M : Hm} : whlL test body (n + 1) ρ M = (test ρ M).st ρ fun k M => if k then nextL (whlL test body n) (body ρ M) else .next ρ M := by
  rw [whlL]
  refine congrArg _ (funext fun k => funext fun M => ?_)
  cases k with
  | false => rfl
  | true =>
    rw [if_pos rfl, if_pos rfl]
    cases body ρ M <;> rfl
theorem s_whl {c : Expr} {body : List Stmt} {cc : CE} {cbody : List CS} (hp : PassesOwn (model X.prog X.w) X.A X.env X.xe) (hc : PT X c (tT X nm cb CN Wx cc)) (hb : PSs X body (tB X nm cb CN W Wx cbody)) : PS X (.While c body [] pos) (tS X nm cb CN W Wx (.whl cc cbody)) := by
  refine (ps_while hp hc hb).imp fun D σ H h => ?_
  obtain ⟨ι, Z, ρ, M, re, sr, h⟩ := h
  rw [evS] at h
  refine ⟨fun n σ' H' => ∃ ι' ρ' M', REX X nm H' ι' Z σ' ρ' ∧ SRX X nm H' ι' Z M' ∧ PoS X nm Wx H' ι' Z (whlL (evT cb CN cc) (evB cb CN W cbody) n ρ' M') D, ⟨W, ι, ρ, M, re, sr, h⟩, ?_⟩
  rintro n σ' H' ⟨ι', ρ', M', re', sr', h'⟩
  cases n with
  | zero => exact h'.elim
  | succ n =>
    rw [whlL_succ] at h'
    refine ⟨ι', Z, ρ', M', re', sr', pos_st re' h' fun k M1 v H1 ι1 e1 ev ru sr1 h1 => ?_⟩
    have e : v = k := ru
    subst e
    cases v with
    | false =>
      rw [if_neg Bool.false_ne_true] at h1 ⊢
      exact h1 σ' H1 ι1 Ev.refl (re'.ev ev) sr1
    | true =>
      rw [if_pos rfl] at h1 ⊢
      refine ⟨fun σ2 H2 => ∃ ι2 ρ2 M2, REX X nm H2 ι2 Z σ2 ρ2 ∧ SRX X nm H2 ι2 Z M2 ∧ PoS X nm Wx H2 ι2 Z (whlL (evT cb CN cc) (evB cb CN W cbody) n ρ2 M2) D, fun σ2 H2 k => ⟨n, Nat.lt_succ_self n, k⟩, ι1, Z, ρ', M1, re'.ev ev, sr1, ?_⟩
      exact pos_loop h1 fun ρ3 M3 σ3 H3 ι3 ev3 re3 sr3 h3 => ⟨ι3, ρ3, M3, re3, sr3, h3⟩
/-! ### append, xs[i] = v, raise -/
theorem s_app {co : CE} {x : Str} {px apos cpos : Pos} (hl : (apos.endLine == cpos.line) = true) (hs : noStar e = true) (ho : PE X (.Name x px) (tD X nm cb CN Wx co)) (he : PE X e (tD X nm cb CN Wx ce)) : PS X (.Expr (.Call (.Attribute (.Name x px) "append" apos) [e] [] cpos) pos) (tS X nm cb CN W Wx (.app co ce)) := by
  refine (ps_expr (pe_bm PySem.F.plainAttrs_list PySem.F.slot_list_append PySem.F.type_list_append mt_append ho (pa_cons he pa_nil (star_cons hs)) rfl (by rw [star_cons hs]; rfl) hl (star_cons hs) rfl) rfl).imp fun D σ H h => ?_
  obtain ⟨ι, Z, ρ, M, re, sr, h⟩ := h
  rw [evS] at h
  refine ⟨ι, Z, ρ, M, re, sr, pos_st re h fun u M1 v H1 ι1 e1 ev ru sr1 h1 => ?_⟩
  cases u with
  | ref a =>
    cases hm : M1[a]? with
    | none => simp only [hm] at h1; exact h1.elim
    | some o1 =>
      cases o1 with
      | dct _ _ => simp only [hm] at h1; exact h1.elim
      | dead => simp only [hm] at h1; exact h1.elim
      | lst ps1 =>
        simp only [hm] at h1
        obtain ⟨l, hl1⟩ := sr1.liv a _ hm rfl
        obtain ⟨o2, hm2, hE⟩ := sr1.ent a l hl1
        rw [hm] at hm2
        cases hm2
        obtain ⟨xs1, hx1, _⟩ := hE
        rw [ru.2 l hl1]
        refine ⟨.inl ⟨rfl, _, .of hx1⟩, ι1, Z, ρ, M1, re.ev ev, sr1, pos_st (re.ev ev) h1 fun u2 M2 v2 H2 ι2 e2 ev2 ru2 sr2 h2 => ?_⟩
        cases u2 with
        | p z =>
          cases hm3 : M2[a]? with
          | none => simp only [hm3] at h2; exact h2.elim
          | some o3 =>
            cases o3 with
            | dct _ _ => simp only [hm3] at h2; exact h2.elim
            | dead => simp only [hm3] at h2; exact h2.elim
            | lst ps =>
              simp only [hm3] at h2
              obtain ⟨l2, hl2⟩ := sr2.liv a _ hm3 rfl
              obtain ⟨o4, hm4, hE2⟩ := sr2.ent a l2 hl2
              rw [hm3] at hm4
              cases hm4
              obtain ⟨xs, hx, hr⟩ := hE2
              have el : l2 = l := by
                rcases (ev2.ic a (List.getElem?_eq_some_iff.mp hl1).1).2 with q | q
                · rw [hl2, hl1] at q; cases q; rfl
                · rw [hl2] at q; cases q
              subst el
              split at h2
              · rename_i hlen
                have e3 : Ev H2 ι2 (upd H2 l2 (.lst (xs ++ [v2]))) ι2 := Ev.chg hl2 hx
                refine ⟨l2, xs, v2, rfl, rfl, hx, ?_, h2 σ _ ι2 e3 (((re.ev ev).ev ev2).ev e3) (sr2.chg hl2 hx (hr.snoc ru2))⟩
                have := hr.length
                have := LIM_line
                omega
              · exact h2.elim
        | _ => exact h2.elim
  | _ => exact h1.elim
theorem s_sub {o i : Expr} {co ci : CE} {p : Pos} (hc : noComp e = true) (hsl : noSlice i = true) (he : PE X e (tD X nm cb CN Wx ce)) (ho : PE X o (tD X nm cb CN Wx co)) (hi : PE X i (tD X nm cb CN Wx ci)) : PS X (.Assign [.Subscript o i p] e pos) (tS X nm cb CN W Wx (.sub co ci ce)) := by
  refine (ps_asg he (pg_sub ho hi set_list (by intro v; cases i <;> first | rfl | cases hsl)) (hs := by unfold swapsWithSole; exact sw_no hc) (hw := by cases e <;> rfl)).imp fun D σ H h => ?_
  obtain ⟨ι, Z, ρ, M, re, sr, h⟩ := h
  rw [evS] at h
  refine ⟨ι, Z, ρ, M, re, sr, pos_st re h fun u M1 v H1 ι1 e1 ev ru sr1 h1 => ⟨ι1, Z, ρ, M1, re.ev ev, sr1, pos_st (re.ev ev) h1 fun u2 M2 v2 H2 ι2 e2 ev2 ru2 sr2 h2 => ⟨ι2, Z, ρ, M2, (re.ev ev).ev ev2, sr2, pos_st ((re.ev ev).ev ev2) h2 fun u3 M3 v3 H3 ι3 e3 ev3 ru3 sr3 h3 => ?_⟩⟩⟩
  cases u with
  | p z =>
    cases u2 with
    | ref a =>
      cases u3 with
      | p y =>
        cases y with
        | int k =>
          cases hm3 : M3[a]? with
          | none => simp only [hm3] at h3; exact h3.elim
          | some o3 =>
            cases o3 with
            | dct _ _ => simp only [hm3] at h3; exact h3.elim
            | dead => simp only [hm3] at h3; exact h3.elim
            | lst ps =>
              simp only [hm3] at h3
              obtain ⟨l2, hl2⟩ := sr3.liv a _ hm3 rfl
              obtain ⟨o4, hm4, hE2⟩ := sr3.ent a l2 hl2
              rw [hm3] at hm4
              cases hm4
              obtain ⟨xs, hx, hr⟩ := hE2
              split at h3
              · rename_i hk
                cases ru3
                have ru3 := (RU.ev ev3 ru2 : RUX X nm H3 ι3 Z v2 (.ref a))
                have e4 := ru3.2 l2 hl2
                subst e4
                have e5 : Ev H3 ι3 (upd H3 l2 (.lst (xs.set k.toNat v))) ι3 := Ev.chg hl2 hx
                have hlen := hr.length
                refine ⟨l2, xs, k, k.toNat, rfl, rfl, hx, ?_, h3 σ _ ι3 e5 ((((re.ev ev).ev ev2).ev ev3).ev e5) (sr3.chg hl2 hx (Rps.set (Rp.ev ev3 _ _ (Rp.ev ev2 _ _ ru)) _ hr))⟩
                unfold ixN
                rw [if_pos hk.1, if_pos (by omega)]
              · exact h3.elim
        | _ => exact h3.elim
      | _ => exact h3.elim
    | _ => exact h3.elim
  | _ => exact h3.elim
/-- an exception class of the program's -/
structure ExcOk (K : PySem.W.Frag) (mg : Str → Option Value) (x : Str) : Prop where
  ex : ∃ (C : Addr) (B newId initId : String) (bmB : List Value), ExcBaseFacts B newId initId bmB ∧ PySem.W.excIn K C bmB newId = true ∧ mg x = some (.ref C) ∧ PySem.W.keepIn K (.ref C) = true ∧ PySem.W.subIn K (.ref C) (.type "BaseException") = some true ∧ PySem.W.typeIn K (.ref C) = some (.type "type")
theorem s_rais {c : Nat} {x m : Str} {j : Nat} {p p2 cpos : Pos} (hc : X.calm = true) (tk : Takes X Wx) (hx : nm c = x) (E : ExcOk X.K X.mg x) (hg : Gl X x) (hdb : (x == ("__debug__" : Str)) = false) :
    PS X (.Raise (some (.Call (.Name x p) [.Constant (.str m) j p2] [] cpos)) none pos) (tS X nm cb CN W Wx (.rais c (.cst (.str m)))) := by
  obtain ⟨C, B, newId, initId, bmB, F, q, gC, kC, h1, h2⟩ := E.ex
  refine (ps_raise hc tk (pmk_own F q gC kC (raises_own h1 h2) hg hdb)).imp fun D σ H h => ?_
  obtain ⟨ι, Z, ρ, M, re, sr, h⟩ := h
  rw [evS, evE] at h
  exact h C none σ H ι Ev.refl re sr (by rw [hx]; exact gC)
end
end Ip

set_option Elab.async false
set_option linter.all false
set_option maxRecDepth 100000
set_option maxHeartbeats 4000000
/-! IpCall: calls of the program's functions; what a function keeps. -/
namespace Ip
open PySem PySem.Spec PyProof.Rows L2
/-- what a function of the core promises -/
def spF (w : World) (mg : Str → Option Value) (nm : Nat → Str) (K : PySem.W.Frag) (cb : Cb) (g : Nat) : Sp := fun vs H Q E => ∃ ι Z us M, Paired (fun v u => RU w mg nm K H ι Z v u) vs us ∧ SR w mg nm K H ι Z M ∧ Po w mg nm K (SU w mg nm K Z) H ι Z (cb g us M) Q E
structure CalE (P : Program) (w : World) (mg : Str → Option Value) (nm : Nat → Str) (K : PySem.W.Frag) (base : Heap) (cb : Cb) (k : Nat) (g : Nat) : Prop where
  ex : ∃ f fd ps, FnOk P w K mg base (L2.CX P w) k f fd ps (spF w mg nm K cb g) ∧ mg (nm g) = some (.ref f) ∧ PySem.W.keepIn K (.ref f) = true ∧ Binds K fd ps []
section
variable {X : Cx} {nm : Nat → Str} {cb : Cb} {CN : Nat → Option P} {Wx : WX} {pos : Pos} {k : Nat}
theorem asPs_all {w : World} {mg : Str → Option Value} {K : PySem.W.Frag} {H : Hp} {ι ι' : Io} {Z Z' : Addr → Prop} (hl : ∀ a, ¬ Lv ι Z a → ¬ Lv ι' Z' a) : ∀ {us : List U} {vs : List V} {ps : List P}, asPs us = some ps → Paired (fun v u => RU w mg nm K H ι Z v u) vs us → Paired (fun v u => RU w mg nm K H ι' Z' v u) vs us
  | [], _, _, _, h => by
    cases h
    exact .nil
  | u :: us, _, _, e, h => by
    cases h with
    | cons r t =>
      cases u with
      | p x =>
        rw [asPs] at e
        obtain ⟨ps, e2, rfl⟩ := map_some e
        exact .cons (Rp.to (fun _ _ h => h) (fun a xs k h => ⟨h, hl a k⟩) (fun _ _ _ h => h) (fun a φ k h => ⟨h, hl a k⟩) x _ r) (asPs_all hl e2 t)
      | _ => simp [asPs] at e
/-- our objects are not the callee's -/
theorem SR.hide {w : World} {mg : Str → Option Value} {K : PySem.W.Frag} {H : Hp} {ι : Io} {Z : Addr → Prop} {M : Hm} (s : SR w mg nm K H ι Z M) : SR w mg nm K H [] (Lv ι Z) [] := by
  refine ⟨rfl, fun i a h => by simp at h, fun i o h => by simp at h, fun i j a h => by simp at h, fun a _ h => by simp at h, fun a ha => ?_⟩
  rcases ha with ha | ha
  · obtain ⟨i, hi⟩ := List.mem_iff_getElem?.mp ha
    obtain ⟨o, _, h2⟩ := s.ent i a hi
    cases o with
    | lst ps =>
      obtain ⟨xs, h3, _⟩ := h2
      exact ⟨_, h3⟩
    | dct _ _ => exact h2.elim
    | dead => exact h2.elim
  · exact s.zt a ha
theorem ev_hide {H H' : Hp} {ι ι' : Io} (e : Ev H [] H' ι') : Ev H ι H' ι := ⟨fun a o h n => ⟨(e.kp a o h (by simp)).1, n⟩, e.tp, e.fz, fun i hi => ⟨hi, .inl rfl⟩⟩
theorem SR.back {w : World} {mg : Str → Option Value} {K : PySem.W.Frag} {H H' : Hp} {ι ι' : Io} {Z : Addr → Prop} {M : Hm} (s : SR w mg nm K H ι Z M) (e : Ev H [] H' ι') : SR w mg nm K H' ι Z M := by
  have e2 : Ev H ι H' ι := ev_hide e
  refine ⟨s.len, fun i a hi => ?_, s.liv, s.nd, s.zi, fun a ha => ?_⟩
  · obtain ⟨o, h1, h2⟩ := s.ent i a hi
    exact ⟨o, h1, h2.ev e2 fun xs h => (e.kp a _ h (by simp)).1⟩
  · obtain ⟨o, h⟩ := s.zt a ha
    exact ⟨o, (e.kp a o h (by simp)).1⟩
theorem call_red {m : Bool} {g : Nat} {ces : List CE} {σ : L2.St} {H : Hp} {Q : VK} (h : tD X nm cb CN Wx (.call m g ces) σ H Q) : tA X nm cb CN Wx ces σ H fun vs H1 => spF X.w X.mg nm X.K cb g vs H1 Q (fun c d H' => Wx c d σ H') := by
  obtain ⟨ι, Z, ρ, M, re, sr, h⟩ := h
  rw [evE] at h
  refine ⟨ι, Z, ρ, M, re, sr, po_bind h fun us M1 vs H1 ι1 e1 ev rus sr1 h1 => ?_⟩
  cases m with
  | true => exact ⟨ι1, Z, us, M1, rus, sr1, h1⟩
  | false =>
    rw [if_neg Bool.false_ne_true] at h1
    unfold callD at h1
    cases ha : asPs us with
    | none => rw [ha] at h1; exact h1.elim
    | some ps =>
      rw [ha] at h1
      simp only at h1
      have hl : ∀ a, ¬ Lv ι1 Z a → ¬ Lv [] (Lv ι1 Z) a := fun a n z => z.elim (fun z => by simp at z) n
      refine ⟨[], Lv ι1 Z, us, [], asPs_all hl ha rus, sr1.hide, ?_⟩
      cases hr : cb g us [] with
      | ok u M' =>
        rw [hr] at h1
        cases u with
        | p x => exact fun v H' ι' e r s => h1 v H' ι1 (ev_hide e) (Rp.to (fun _ _ h => h) (fun a xs k h => ⟨h, fun z => k (.inr z)⟩) (fun _ _ _ h => h) (fun a φ k h => ⟨h, fun z => k (.inr z)⟩) x v r) (sr1.back e)
        | _ => exact h1.elim
      | ex c M' =>
        rw [hr] at h1
        exact fun a d H' ι' e s hm => h1 a d H' ι1 (ev_hide e) (sr1.back e) hm
      | no => rw [hr] at h1; exact h1.elim
theorem d_call {m : Bool} {g : Nat} {x : Str} {p : Pos} {e : Expr} {es : List Expr} {ces : List CE} (F : CalE X.prog X.w X.mg nm X.K X.base cb k g) (hr : Room k X.A) (tk : Takes X Wx) (hg : Gl X x) (hx : nm g = x) (hd : (x == ("__debug__" : Str)) = false) (hs : noStar e = true) (hss : es.all noStar = true) (ha : PA X (e :: es) (tA X nm cb CN Wx ces)) :
    PE X (.Call (.Name x p) (e :: es) [] pos) (tD X nm cb CN Wx (.call m g ces)) := by
  obtain ⟨f, fd, ps, F, hm, hk, hb⟩ := F.ex
  rw [hx] at hm
  exact (pe_callS F hr hg hm hk hb (fun σ => passAt tk σ) ha hd (star_cons hs) (star_none hss)).imp fun σ H Q h => call_red h
theorem d_call0 {m : Bool} {g : Nat} {x : Str} {p : Pos} (F : CalE X.prog X.w X.mg nm X.K X.base cb k g) (hr : Room k X.A) (tk : Takes X Wx) (hg : Gl X x) (hx : nm g = x) (hd : (x == ("__debug__" : Str)) = false) : PE X (.Call (.Name x p) [] [] pos) (tD X nm cb CN Wx (.call m g [])) := by
  obtain ⟨f, fd, ps, F, hm, hk, hb⟩ := F.ex
  rw [hx] at hm
  refine ⟨fun pins s σ H Q I h => ?_⟩
  have h := call_red h
  obtain ⟨ι, Z, ρ, M, re, sr, h⟩ := h
  rw [evU] at h
  have h := h [] H ι Ev.refl .nil sr
  refine wpAny_Call_Name_kw (ld_glob I hg hm ?_ hd)
  exact PySem.W.callWith_K0 I.kIn hk (run_fnS (us := []) (E := WE Wx) F hr hb (passAt tk σ) I .nil h)
end
/-! ### the end of a call: what it made is dropped -/
section
variable {w : World} {mg : Str → Option Value} {nm : Nat → Str} {K : PySem.W.Frag} {H H' : Hp} {ι ι' : Io} {Z : Addr → Prop} {M : Hm}
theorem Ev.len (e : Ev H ι H' ι') : ι.length ≤ ι'.length := by
  by_cases h : ι.length = 0
  · omega
  · have := (e.ic (ι.length - 1) (by omega)).1
    omega
theorem mem_take {n : Nat} {a : Addr} (h : some a ∈ ι.take n) : some a ∈ ι := List.mem_of_mem_take h
theorem Ev.take (e : Ev H ι H' ι') : Ev H ι H' (ι'.take ι.length) := ⟨fun a o h n => ⟨(e.kp a o h n).1, fun z => (e.kp a o h n).2 (mem_take z)⟩, e.tp, e.fz, fun i hi => by
  have hl := e.len
  refine ⟨by rw [List.length_take]; omega, ?_⟩
  rw [List.getElem?_take_of_lt hi]
  exact (e.ic i hi).2⟩
theorem Rp.take (n : Nat) (p : P) (v : V) (h : Rp w mg nm K H (Lv ι Z) v p) : Rp w mg nm K H (Lv (ι.take n) Z) v p :=
  Rp.to (fun _ _ h => h) (fun a xs k h => ⟨h, fun z => k (z.elim (fun z => .inl (mem_take z)) .inr)⟩) (fun _ _ _ h => h) (fun a φ k h => ⟨h, fun z => k (z.elim (fun z => .inl (mem_take z)) .inr)⟩) p v h
theorem Rps.takeL (n : Nat) (p : List P) (v : List V) (h : Rps w mg nm K H (Lv ι Z) v p) : Rps w mg nm K H (Lv (ι.take n) Z) v p :=
  Rps.to (fun _ _ h => h) (fun a xs k h => ⟨h, fun z => k (z.elim (fun z => .inl (mem_take z)) .inr)⟩) (fun _ _ _ h => h) (fun a φ k h => ⟨h, fun z => k (z.elim (fun z => .inl (mem_take z)) .inr)⟩) p v h
theorem SR.take (n : Nat) (s : SR w mg nm K H ι Z M) : SR w mg nm K H (ι.take n) Z (M.take n) := by
  have aux : ∀ {i : Nat} {a : Addr}, (ι.take n)[i]? = some (some a) → i < n ∧ ι[i]? = some (some a) := fun {i a} h => by
    by_cases hl : i < n
    · rw [List.getElem?_take_of_lt hl] at h
      exact ⟨hl, h⟩
    · rw [List.getElem?_eq_none (by rw [List.length_take]; omega)] at h; cases h
  refine ⟨by simp [s.len], fun i a hi => ?_, fun i o hi ho => ?_, fun i j a hi hj => s.nd i j a (aux hi).2 (aux hj).2, fun a ha z => s.zi a ha (mem_take z), s.zt⟩
  · obtain ⟨hl, hi⟩ := aux hi
    obtain ⟨o, h1, h2⟩ := s.ent i a hi
    refine ⟨o, by rw [List.getElem?_take_of_lt hl]; exact h1, ?_⟩
    cases o with
    | lst ps =>
      obtain ⟨xs, h3, h4⟩ := h2
      exact ⟨xs, h3, Rps.takeL n _ _ h4⟩
    | dct _ _ => exact h2
    | dead => exact h2
  · by_cases hl : i < n
    · rw [List.getElem?_take_of_lt hl] at hi
      obtain ⟨a, ha⟩ := s.liv i o hi ho
      exact ⟨a, by rw [List.getElem?_take_of_lt hl]; exact ha⟩
    · rw [List.getElem?_eq_none (by rw [List.length_take]; omega)] at hi; cases hi
end
section
variable {X : Cx} {nm : Nat → Str} {H : Hp} {ι : Io} {Z : Addr → Prop} {M : Hm} {Q : VK} {E : XK}
theorem fin_pos {keep : Bool} {r : RS} (sr : SRX X nm H ι Z M) (h : Po X.w X.mg nm X.K (SU X.w X.mg nm X.K Z) H ι Z (finR keep M.length r) Q E) : PoS X nm (fun c d _ H => E c d H) H ι Z r { nx := fun _ H' => Q .non H', rt := Q } := by
  have hl := sr.len
  cases keep with
  | true =>
    cases r with
    | next ρ M' => exact fun σ' H' ι' ev re s => h .non H' ι' ev .non s
    | ret u M' =>
      cases u with
      | p x => exact fun v H' ι' ev ru s => h v H' ι' ev ru s
      | ref i => exact fun v H' ι' ev ru s => h v H' ι' ev ru s
      | clo _ _ _ => exact h.elim
      | exn _ => exact h.elim
    | brk ρ M' => exact h.elim
    | cont ρ M' => exact h.elim
    | ex c ρ M' => exact fun a d σ' H' ι' ev re s hm => h a d H' ι' ev s hm
    | no => exact h.elim
  | false =>
    cases r with
    | next ρ M' => exact fun σ' H' ι' ev re s => h .non H' _ ev.take .non (by rw [← hl]; exact s.take _)
    | ret u M' =>
      cases u with
      | p x => exact fun v H' ι' ev ru s => h v H' _ ev.take (Rp.take _ x v ru) (by rw [← hl]; exact s.take _)
      | ref i =>
        simp only [finR] at h
        by_cases hi : i < M.length
        · rw [if_neg Bool.false_ne_true, if_pos hi] at h
          refine fun v H' ι' ev ru s => h v H' _ ev.take ⟨?_, fun a ha => ru.2 a ?_⟩ (by rw [← hl]; exact s.take _)
          · have := ev.len
            rw [List.length_take]; omega
          · rw [List.getElem?_take_of_lt (by omega)] at ha
            exact ha
        · rw [if_neg Bool.false_ne_true, if_neg hi] at h
          exact h.elim
      | clo _ _ _ => exact h.elim
      | exn _ => exact h.elim
    | brk ρ M' => exact h.elim
    | cont ρ M' => exact h.elim
    | ex c ρ M' => exact fun a d σ' H' ι' ev re s hm => h a d H' _ ev.take (by rw [← hl]; exact s.take _) hm
    | no => exact h.elim
end
section
variable {P : Program} {w : World} {K : PySem.W.Frag} {mg : Str → Option Value} {base : Heap} {nm : Nat → Str} {FN : Nat → Option Fn} {CN : Nat → Option Ip.P} {W : Nat}
theorem fn_zero {g : Nat} {f : Addr} {fd : FuncData} {ps : List Str} : FnOk P w K mg base (L2.CX P w) 0 f fd ps (spF w mg nm K (callN FN CN W 0) g) :=
  ⟨fun vs H Q E ⟨ι, Z, us, M, _, _, h⟩ => h.elim, fun A outer s H args us vs Q E _ _ _ _ ⟨ι, Z, us', M, _, _, h⟩ => h.elim⟩
theorem start_rel {H : Hp} {ι : Io} {Z : Addr → Prop} {N : List Str} {vs : List V} {us : List U} {n : Nat} (h : Paired (fun v u => RU w mg nm K H ι Z v u) vs us) (hn : n = N.length) : RE w mg nm K H ι Z (L2.start N vs) (us.map some ++ List.replicate (n - us.length) none) := by
  have hl := paired_len h
  subst hn
  unfold L2.start
  refine ⟨by simp [hl], fun i u hu => ?_⟩
  by_cases hi : i < us.length
  · rw [List.getElem?_append_left (by simpa using hi), List.getElem?_map] at hu
    obtain ⟨u', h1, h2⟩ := Option.map_eq_some_iff.mp hu
    cases h2
    have aux : ∀ {vs : List V} {us : List U} {i : Nat} {u : U}, Paired (fun v u => RU w mg nm K H ι Z v u) vs us → us[i]? = some u → ∃ v, vs[i]? = some v ∧ RU w mg nm K H ι Z v u := by
      intro vs us i u h
      induction h generalizing i with
      | nil => intro e; simp at e
      | cons r t ih =>
        intro e
        cases i with
        | zero => simp at e; subst e; exact ⟨_, rfl, r⟩
        | succ i => simpa using ih (by simpa using e)
    obtain ⟨v, h3, h4⟩ := aux h h1
    exact ⟨v, by rw [List.getElem?_append_left (by simp; omega), List.getElem?_map, h3]; rfl, h4⟩
  · rw [List.getElem?_append_right (by simpa using hi), List.getElem?_replicate] at hu
    split at hu <;> cases hu
/-- a function by its body -/
theorem fn_step {g n : Nat} {x qual : Str} {params : Arguments} {body : List Stmt} {scope : Scope} {dvs : List V} {kws : List (Str × V)} {f : Addr} {fd : FuncData} {N ps : List Str} {F : Fn} (D : FunD K x qual params body scope dvs kws f fd) (S : FnScope N ps scope) (hF : FN g = some F) (hp : F.np = ps.length) (hns : F.ns = N.length)
    (hb : ∀ (X : Cx) (Wx : WX), X.prog = P → X.w = w → X.mg = mg → X.K = K → X.base = base → X.calm = true → X.N = N → X.env.scope = scope → (∀ x, X.fn x = true) → Room n X.A → Takes X Wx → PassesOwn (model X.prog X.w) X.A X.env X.xe → PSs X body (tB X nm (callN FN CN W n) CN W Wx F.body)) :
    FnOk P w K mg base (L2.CX P w) (n + 1) f fd ps (spF w mg nm K (callN FN CN W (n + 1)) g) := by
  have hlen : ∀ {us : List U} {M : Hm} {H : Hp} {ι : Io} {Z : Addr → Prop} {Q : VK} {E : XK}, Po w mg nm K (SU w mg nm K Z) H ι Z (callN FN CN W (n + 1) g us M) Q E → us.length = F.np ∧ Po w mg nm K (SU w mg nm K Z) H ι Z (finR F.keep M.length (evB (callN FN CN W n) CN W F.body (us.map some ++ List.replicate (F.ns - F.np) none) M)) Q E := by
    intro us M H ι Z Q E h
    rw [callN] at h
    simp only [hF] at h
    split at h
    · exact ⟨by assumption, h⟩
    · exact h.elim
  refine D.ok S (fun vs H Q E ⟨ι, Z, us, M, r, s, h⟩ => ?_) fun cdv A outer s H vs Q E hr ⟨ι, Z, us, M, r, sr, h⟩ => ?_
  · rw [paired_len r, (hlen h).1, hp]
  · obtain ⟨h1, h2⟩ := hlen h
    refine ⟨_, hb (cxOf (L2.CX P w) P w K mg base N qual scope f cdv A outer s H E) (fun c d _ H => E c d H) rfl rfl rfl rfl rfl rfl rfl rfl (fun _ => rfl) hr (takes_of rfl rfl rfl rfl) (passes_of rfl), ι, Z, _, M, start_rel r hns, sr, ?_⟩
    rw [h1]
    exact fin_pos (X := cxOf (L2.CX P w) P w K mg base N qual scope f cdv A outer s H E) sr h2
end
end Ip

set_option Elab.async false
set_option linter.all false
set_option maxRecDepth 100000
set_option maxHeartbeats 4000000
/-! IpChk: does a term of the core say what the text says? -/
namespace Ip
open PySem PySem.Spec PyProof.Rows L2
structure Tb where
  names : List Str
  cons : List Str
  co : List Nat
  fns : List Nat
  excs : List Nat
  free : List Str
def Tb.nm (T : Tb) (i : Nat) : Str := T.names.getD i ""
def Tb.cn (T : Tb) (i : Nat) : Str := T.cons.getD i ""
def visB (sc : Scope) (x : Str) : Bool := match sc.names.lookup x with
  | some .local => true
  | some .cell => true
  | some .free => true
  | _ => false
def locB (sc : Scope) (x : Str) : Bool := match sc.names.lookup x with
  | some .local => true
  | some .cell => true
  | _ => false
def isLoc (sc : Scope) (x : Str) : Bool := decide (sc.names.lookup x = some .local)
def glB (sc : Scope) (x : Str) : Bool := decide (sc.names.lookup x = some .globalImplicit)
def ndB (x : Str) : Bool := !(x == ("__debug__" : Str))
def cndB (x : Str) : Bool := !(x == ("__classdict__" : Str))
abbrev Fb := Str → Bool
def blkFb (scope : Scope) : Fb := fun x => scope.names.lookup x == some .cell
def allCE : List CE → Nat
  | [] => 0
  | _ :: es => allCE es + 1
def ownN (N : List Str) (own : List Nat) : List (Str × Nat) := own.map fun i => (N.getD i "", i)
section
variable (N : List Str) (sc : Scope) (fb : Fb)
mutual
def chkG : Tg → Expr → Bool
  | .nm i, e => match e with
    | .Name x _ => decide (N[i]? = some x) && locB sc x && (fb x || isLoc sc x)
    | _ => false
  | .tp ts, e => match e with
    | .Tuple es _ _ => es.all noStar && decide (ts.length = es.length) && chkGs ts es
    | _ => false
def chkGs : List Tg → List Expr → Bool
  | [], [] => true
  | t :: ts, e :: es => noStar e && chkG t e && chkGs ts es
  | _, _ => false
end
end
def rLo : List Expr → Option Expr
  | [a, _] => some a
  | _ => none
def rHi : List Expr → Option Expr
  | [a] => some a
  | [_, b] => some b
  | _ => none
def isTup : Expr → Bool
  | .Tuple .. => true
  | _ => false
section
variable (T : Tb) (N : List Str)
mutual
def chkE : CE → Scope → Fb → Expr → Bool
  | .var i, sc, fb, e => match e with
    | .Name x _ => decide (N[i]? = some x) && visB sc x && ndB x && cndB x
    | _ => false
  | .cst p, sc, fb, e => match e with
    | .Constant c _ _ => constB p c
    | _ => false
  | .con c, sc, fb, e => match e with
    | .Name x _ => glB sc x && decide (T.cn c = x) && ndB x && T.co.contains c
    | _ => false
  | .glb g, sc, fb, e => false
  | .tup es, sc, fb, e => match e with
    | .Tuple xs _ _ => decide (es.length ≤ 1000) && chkA es sc fb xs
    | _ => false
  | .lst m es, sc, fb, e => match e with
    | .List xs _ => decide (es.length ≤ 1000) && chkA es sc fb xs
    | _ => false
  | .bin m op a b, sc, fb, e => match e with
    | .BinOp x o y _ => decide (o = toOp op) && chkE a sc fb x && chkE b sc fb y
    | _ => false
  | .neg a, sc, fb, e => match e with
    | .UnaryOp o x _ => decide (o = .USub) && chkE a sc fb x
    | _ => false
  | .cmp op a b, sc, fb, e => match e with
    | .Compare x [o] [y] _ => decide (o = toCmp op) && noSet y && chkE a sc fb x && chkE b sc fb y
    | _ => false
  | .cmp2 op op' a b c, sc, fb, e => match e with
    | .Compare x [o, o'] [y, z] _ => decide (o = toCmp op) && decide (o' = toCmp op') && noSet z && chkE a sc fb x && chkE b sc fb y && chkE c sc fb z
    | _ => false
  | .and a b, sc, fb, e => match e with
    | .BoolOp o (x :: y :: rest) p => decide (o = .And) && chkE a sc fb x && chkE b sc fb (if rest.isEmpty then y else .BoolOp .And (y :: rest) p)
    | _ => false
  | .or a b, sc, fb, e => match e with
    | .BoolOp o (x :: y :: rest) p => decide (o = .Or) && chkE a sc fb x && chkE b sc fb (if rest.isEmpty then y else .BoolOp .Or (y :: rest) p)
    | _ => false
  | .not a, sc, fb, e => match e with
    | .UnaryOp o x _ => decide (o = .Not) && chkE a sc fb x
    | _ => false
  | .ife c a b, sc, fb, e => match e with
    | .IfExp z x y _ => chkE c sc fb z && chkE a sc fb x && chkE b sc fb y
    | _ => false
  | .call m g es, sc, fb, e => match e with
    | .Call (.Name x _) xs [] _ => glB sc x && decide (T.nm g = x) && ndB x && T.fns.contains g && xs.all noStar && chkA es sc fb xs
    | _ => false
  | .blt m f es, sc, fb, e => match e with
    | .Call (.Name x _) (a :: xs) [] _ => decide (x = bfName f) && glB sc x && T.free.contains x && noStar a && xs.all noStar && chkA es sc fb (a :: xs)
    | _ => false
  | .isi a t, sc, fb, e => match e with
    | .Call (.Name x _) [y, .Name z _] [] _ => decide (x = "isinstance") && decide (z = tyName t) && tyB t && glB sc x && glB sc z && T.free.contains x && T.free.contains z && noStar y && chkE a sc fb y
    | _ => false
  | .idx o i, sc, fb, e => match e with
    | .Subscript x y _ => noSlice y && chkE o sc fb x && chkE i sc fb y
    | _ => false
  | .slc o lo hi, sc, fb, e => match e with
    | .Subscript x (.Slice l h none _) _ => chkE o sc fb x && chkO lo sc fb l && chkO hi sc fb h
    | _ => false
  | .rev o, sc, fb, e => match e with
    | .Subscript x (.Slice none none (some (.UnaryOp .USub (.Constant (.int i) _ _) _)) _) _ => decide (i = 1) && chkE o sc fb x
    | _ => false
  | .ofr t m lo hi, sc, fb, e => match e with
    | .Call (.Name x _) [.Call (.Name y _) xs [] _] [] _ => decide (x = if t then "tuple" else "list") && decide (y = "range") && glB sc x && glB sc y && T.free.contains x && T.free.contains y && xs.all noStar && chkO lo sc fb (rLo xs) && (match rHi xs with
      | some h => chkE hi sc fb h
      | none => false)
    | _ => false
  | .comp m elt tg it ifs own, sc, fb, e => match e with
    | .ListComp x [⟨t, i, cs, 0⟩] scope _ => blkC N sc scope (ownN N own) && tgB own tg && noSet i && chkI it sc fb t i && chkG N (relS scope sc) (blkFb scope) tg t && chkF ifs (relS scope sc) (blkFb scope) cs && chkE elt (relS scope sc) (blkFb scope) x
    | _ => false
  | .comp2 m elt tg it tg1 it1 ifs own own1, sc, fb, e => match e with
    | .ListComp x [⟨t, i, [], 0⟩, ⟨t1, i1, cs, 0⟩] scope _ => blkC N sc scope (ownN N own) && tgB own tg && tgB own1 tg1 && own1.all (own.contains ·) && noSet i && noSet i1 && chkI it sc fb t i && chkG N (relS scope sc) (blkFb scope) tg t && chkI it1 (relS scope sc) (blkFb scope) t1 i1 && chkG N (relS scope sc) (blkFb scope) tg1 t1 && chkF ifs (relS scope sc) (blkFb scope) cs && chkE elt (relS scope sc) (blkFb scope) x
    | _ => false
  | .frz a, sc, fb, e => plainT e && noComp e && chkE a sc fb e
def chkA : List CE → Scope → Fb → List Expr → Bool
  | [], sc, fb, xs => xs.isEmpty
  | a :: as, sc, fb, xs => match xs with
    | x :: xs => noStar x && chkE a sc fb x && chkA as sc fb xs
    | [] => false
def chkO : Option CE → Scope → Fb → Option Expr → Bool
  | none, sc, fb, o => o.isNone
  | some a, sc, fb, o => match o with
    | some x => chkE a sc fb x
    | none => false
def chkF : Option CE → Scope → Fb → List Expr → Bool
  | none, sc, fb, o => o.isEmpty
  | some a, sc, fb, o => match o with
    | [x] => chkE a sc fb x
    | _ => false
def chkI : It → Scope → Fb → Expr → Expr → Bool
  | .seq a, sc, fb, t, e => chkE a sc fb e
  | .rng lo hi, sc, fb, t, e => match e with
    | .Call (.Name y _) xs [] _ => decide (y = "range") && glB sc y && T.free.contains y && xs.all noStar && chkO lo sc fb (rLo xs) && (match rHi xs with
      | some h => chkE hi sc fb h
      | none => false)
    | _ => false
  | .enum a, sc, fb, t, e => match e with
    | .Call (.Name y _) [x] [] _ => isTup t && decide (y = "enumerate") && glB sc y && T.free.contains y && noStar x && chkE a sc fb x
    | _ => false
  | .zip a b, sc, fb, t, e => match e with
    | .Call (.Name w _) [x, y] [] _ => isTup t && decide (w = "zip") && glB sc w && T.free.contains w && noStar x && noStar y && chkE a sc fb x && chkE b sc fb y
    | _ => false
end
end
end Ip

set_option Elab.async false
set_option linter.all false
set_option maxRecDepth 100000
set_option maxHeartbeats 4000000
/-! IpSnd: the checks of expressions are sound. -/
namespace Ip
open PySem PySem.Spec PyProof.Rows L2
structure Bs (T : Tb) (P : Program) (w : World) (mg : Str → Option Value) (K : PySem.W.Frag) (base : Heap) (cb : Cb) (k : Nat) (CN : Nat → Option Ip.P) : Prop where
  free : ∀ x, T.free.contains x = true → mg x = none
  con : ConOk T.co.contains w mg T.nm K T.cn CN
  cal : ∀ g, T.fns.contains g = true → CalE P w mg T.nm K base cb k g
  exc : ∀ c, T.excs.contains c = true → ExcOk K mg (T.nm c)
structure Cxt (T : Tb) (N : List Str) (cb : Cb) (k : Nat) (CN : Nat → Option P) (X : Cx) (sc : Scope) (fb : Fb) (Wx : WX) : Prop where
  bs : Bs T X.prog X.w X.mg X.K X.base cb k CN
  eN : X.N = N
  nd : N.Nodup
  sc : X.env.scope = sc
  fb : ∀ x, X.fn x = fb x
  calm : X.calm = true
  room : Room k X.A
  tk : Takes X Wx
section
variable {T : Tb} {N : List Str} {cb : Cb} {k : Nat} {CN : Nat → Option P} {X : Cx} {sc : Scope} {fb : Fb} {Wx : WX}
theorem Cxt.blk (C : Cxt T N cb k CN X sc fb Wx) (s : Shared) (H : Hp) (scope : Scope) (A : Addr) (cl : List (Str × Addr)) (fp : List Addr) : Cxt T N cb k CN (X.blk s H scope (compEnvC scope cl A X.env) fp) (relS scope sc) (blkFb scope) NoW := by
  refine ⟨C.bs, C.eN, C.nd, ?_, fun x => rfl, C.calm, C.room, takes0⟩
  rw [← C.sc]
  rfl
theorem Cxt.un (C : Cxt T N cb k CN X sc fb Wx) : X.A.units + 65 < cLine := by
  have := C.room.un
  omega
theorem Cxt.gl (C : Cxt T N cb k CN X sc fb Wx) {x : Str} (h : glB sc x = true) : Gl X x := by
  rw [← C.sc] at h
  have q : X.env.scope.names.lookup x = some .globalImplicit := of_decide_eq_true h
  exact q
theorem Cxt.vis (C : Cxt T N cb k CN X sc fb Wx) {x : Str} (h : visB sc x = true) : Vis X.env.scope x := by
  rw [C.sc]
  unfold visB at h
  split at h
  · exact .inl (by assumption)
  · exact .inr (.inl (by assumption))
  · exact .inr (.inr (by assumption))
  · cases h
theorem Cxt.loc (C : Cxt T N cb k CN X sc fb Wx) {x : Str} (h : locB sc x = true) : Loc X.env.scope x := by
  rw [C.sc]
  unfold locB at h
  split at h
  · exact .inl (by assumption)
  · exact .inr (by assumption)
  · cases h
theorem Cxt.isl (C : Cxt T N cb k CN X sc fb Wx) {x : Str} (h : isLoc sc x = true) : X.env.scope.names.lookup x = some .local := by
  rw [C.sc]
  exact of_decide_eq_true h
theorem Cxt.fbl (C : Cxt T N cb k CN X sc fb Wx) {x : Str} (h : (fb x || isLoc sc x) = true) : X.fn x = true ∨ X.env.scope.names.lookup x = some .local := by
  rcases Bool.or_eq_true _ _ ▸ h with h | h
  · exact .inl ((C.fb x).trans h)
  · exact .inr (C.isl h)
theorem nd_of {x : Str} (h : ndB x = true) : (x == ("__debug__" : Str)) = false := by simpa [ndB] using h
theorem cnd_of {x : Str} (h : cndB x = true) : (x == ("__classdict__" : Str)) = false := by simpa [cndB] using h
theorem noSet_it {e : Expr} (h : noSet e = true) (env : Env) (x : Value) : foldedSetIterable e env x = pure x := by
  cases e <;> first | rfl | cases h
theorem own_snd {own : List Nat} : (ownN N own).map (·.2) = own := by
  unfold ownN
  rw [List.map_map]
  exact List.map_id _
def isBool : Expr → Bool
  | .BoolOp .. => true
  | _ => false
def okT : Expr → Bool
  | .UnaryOp .Not _ _ => false
  | .BoolOp .. => false
  | .IfExp .. => false
  | .Compare .. => false
  | _ => true
theorem isTrue_ok {e : Expr} {env : Env} (h : okT e = true) (whole : Sem Value) : isTrue e env whole = (do let v ← whole; standAt e.pos; holding [v] (truthy v)) := by
  cases e with
  | UnaryOp op a p => cases op <;> first | rfl | cases h
  | BoolOp => cases h
  | IfExp => cases h
  | Compare => cases h
  | _ => rfl
variable (X cb CN Wx) in
structure Ok3 (nm : Nat → Str) (e : Expr) (ce : CE) : Prop where
  pe : PE X e (tD X nm cb CN Wx ce)
  pt : PT X e (tT X nm cb CN Wx ce)
  pw : isBool e = true → PW X e (tT X nm cb CN Wx ce)
theorem Ok3.pl {nm : Nat → Str} {e : Expr} {ce : CE} (h : okT e = true) (he : PE X e (tD X nm cb CN Wx ce)) : Ok3 cb CN X Wx nm e ce :=
  ⟨he, (pt_truth he (isTrue_ok h)).imp fun _ _ _ q => tT_of q, fun hb => by cases e <;> first | exact Bool.noConfusion h | exact Bool.noConfusion hb⟩
/-! ### targets -/
mutual
theorem snd_G (C : Cxt T N cb k CN X sc fb Wx) {nm : Nat → Str} : ∀ (t : Tg) (e : Expr), chkG N sc fb t e = true → PG X e (tG X nm t)
  | .nm i, e, h => by
    unfold chkG at h
    split at h
    · simp only [Bool.and_eq_true, decide_eq_true_eq] at h
      exact g_nm (by rw [C.eN]; exact C.nd) (by rw [C.eN]; exact h.1.1) (C.loc h.1.2) (C.fbl h.2)
    · cases h
  | .tp ts, e, h => by
    unfold chkG at h
    split at h
    · simp only [Bool.and_eq_true, decide_eq_true_eq] at h
      exact g_tp C.calm h.1.1 h.1.2 (snd_Gs C ts _ h.2)
    · cases h
theorem snd_Gs (C : Cxt T N cb k CN X sc fb Wx) {nm : Nat → Str} : ∀ (ts : List Tg) (es : List Expr), chkGs N sc fb ts es = true → PGs X es (tGs X nm ts)
  | [], es, h => by
    cases es with
    | nil => exact gs_nil
    | cons e es => simp [chkGs] at h
  | t :: ts, es, h => by
    cases es with
    | nil => simp [chkGs] at h
    | cons e es =>
      rw [chkGs] at h
      simp only [Bool.and_eq_true] at h
      exact gs_cons h.1.1 (snd_G C t e h.1.2) (snd_Gs C ts es h.2)
end
theorem rng_args {xs : List Expr} {h : Expr} (e : rHi xs = some h) : (rLo xs = none ∧ xs = [h]) ∨ ∃ a, rLo xs = some a ∧ xs = [a, h] := by
  cases xs with
  | nil => cases e
  | cons a xs =>
    cases xs with
    | nil => cases e; exact .inl ⟨rfl, rfl⟩
    | cons b xs =>
      cases xs with
      | nil => cases e; exact .inr ⟨_, rfl, rfl⟩
      | cons _ _ => cases e
theorem all_nil : ([] : List Expr).all noStar = true := rfl
end
/-! ### expressions -/
section
variable {T : Tb} {N : List Str} {cb : Cb} {k : Nat} {CN : Nat → Option P}
mutual
theorem snd_E : ∀ (ce : CE) {X : Cx} {sc : Scope} {fb : Fb} {Wx : WX} (_ : Cxt T N cb k CN X sc fb Wx) (e : Expr), chkE T N ce sc fb e = true → Ok3 cb CN X Wx T.nm e ce
  | .var i, X, sc, fb, Wx, C, e, h => by
    unfold chkE at h
    split at h
    · simp only [Bool.and_eq_true, decide_eq_true_eq] at h
      exact .pl rfl (d_var (by rw [C.eN]; exact h.1.1.1) (C.vis h.1.1.2) (nd_of h.1.2) (cnd_of h.2))
    · cases h
  | .cst p, X, sc, fb, Wx, C, e, h => by
    unfold chkE at h
    split at h
    · exact .pl rfl (d_cst h)
    · cases h
  | .con c, X, sc, fb, Wx, C, e, h => by
    unfold chkE at h
    split at h
    · simp only [Bool.and_eq_true, decide_eq_true_eq] at h
      exact .pl rfl (d_con C.bs.con h.2 (C.gl h.1.1.1) h.1.1.2 (nd_of h.1.2))
    · cases h
  | .glb g, X, sc, fb, Wx, C, e, h => by
    rw [chkE] at h
    cases h
  | .tup es, X, sc, fb, Wx, C, e, h => by
    unfold chkE at h
    split at h
    · simp only [Bool.and_eq_true, decide_eq_true_eq] at h
      exact .pl rfl (d_tup h.1 (snd_A es C _ h.2))
    · cases h
  | .lst m es, X, sc, fb, Wx, C, e, h => by
    unfold chkE at h
    split at h
    · simp only [Bool.and_eq_true, decide_eq_true_eq] at h
      exact .pl rfl (d_lst h.1 (snd_A es C _ h.2))
    · cases h
  | .bin m op a b, X, sc, fb, Wx, C, e, h => by
    unfold chkE at h
    split at h
    · simp only [Bool.and_eq_true, decide_eq_true_eq] at h
      obtain ⟨⟨rfl, h1⟩, h2⟩ := h
      exact .pl rfl (d_bin (snd_E a C _ h1).pe (snd_E b C _ h2).pe)
    · cases h
  | .neg a, X, sc, fb, Wx, C, e, h => by
    unfold chkE at h
    split at h
    · simp only [Bool.and_eq_true, decide_eq_true_eq] at h
      obtain ⟨rfl, h1⟩ := h
      exact .pl rfl (d_neg (snd_E a C _ h1).pe)
    · cases h
  | .cmp op a b, X, sc, fb, Wx, C, e, h => by
    unfold chkE at h
    split at h
    · simp only [Bool.and_eq_true, decide_eq_true_eq] at h
      obtain ⟨⟨⟨rfl, hs⟩, h1⟩, h2⟩ := h
      exact ⟨d_cmp C.un hs (snd_E a C _ h1).pe (snd_E b C _ h2).pe, t_cmp C.un hs (snd_E a C _ h1).pe (snd_E b C _ h2).pe, fun z => by cases z⟩
    · cases h
  | .cmp2 op op' a b c, X, sc, fb, Wx, C, e, h => by
    unfold chkE at h
    split at h
    · simp only [Bool.and_eq_true, decide_eq_true_eq] at h
      obtain ⟨⟨⟨⟨⟨rfl, rfl⟩, hs⟩, h1⟩, h2⟩, h3⟩ := h
      exact ⟨d_cmp2 C.un hs (snd_E a C _ h1).pe (snd_E b C _ h2).pe (snd_E c C _ h3).pe, t_cmp2 C.un hs (snd_E a C _ h1).pe (snd_E b C _ h2).pe (snd_E c C _ h3).pe, fun z => by cases z⟩
    · cases h
  | .and a b, X, sc, fb, Wx, C, e, h => by
    unfold chkE at h
    split at h
    · rename_i o x y rest p
      simp only [Bool.and_eq_true, decide_eq_true_eq] at h
      obtain ⟨⟨rfl, h1⟩, h2⟩ := h
      have k1 := snd_E a C _ h1
      have k2 := snd_E b C _ h2
      cases rest with
      | nil =>
        have k2 : Ok3 cb CN X Wx T.nm y b := k2
        have w := t_and k1.pt (t_and1 (pos := p) k2.pt)
        exact ⟨d_and k1.pe (d_one k2.pe), w.pt, fun _ => w⟩
      | cons z rest =>
        have k2 : Ok3 cb CN X Wx T.nm (.BoolOp .And (y :: z :: rest) p) b := k2
        have w := t_and k1.pt (k2.pw rfl)
        exact ⟨d_and k1.pe k2.pe, w.pt, fun _ => w⟩
    · cases h
  | .or a b, X, sc, fb, Wx, C, e, h => by
    unfold chkE at h
    split at h
    · rename_i o x y rest p
      simp only [Bool.and_eq_true, decide_eq_true_eq] at h
      obtain ⟨⟨rfl, h1⟩, h2⟩ := h
      have k1 := snd_E a C _ h1
      have k2 := snd_E b C _ h2
      cases rest with
      | nil =>
        have k2 : Ok3 cb CN X Wx T.nm y b := k2
        have w := t_or k1.pt (t_or1 (pos := p) k2.pt)
        exact ⟨d_or k1.pe (d_one k2.pe), w.pt, fun _ => w⟩
      | cons z rest =>
        have k2 : Ok3 cb CN X Wx T.nm (.BoolOp .Or (y :: z :: rest) p) b := k2
        have w := t_or k1.pt (k2.pw rfl)
        exact ⟨d_or k1.pe k2.pe, w.pt, fun _ => w⟩
    · cases h
  | .not a, X, sc, fb, Wx, C, e, h => by
    unfold chkE at h
    split at h
    · simp only [Bool.and_eq_true, decide_eq_true_eq] at h
      obtain ⟨rfl, h1⟩ := h
      have k1 := snd_E a C _ h1
      exact ⟨d_not k1.pe, t_not k1.pt, fun z => by cases z⟩
    · cases h
  | .ife c a b, X, sc, fb, Wx, C, e, h => by
    unfold chkE at h
    split at h
    · simp only [Bool.and_eq_true, decide_eq_true_eq] at h
      obtain ⟨⟨h1, h2⟩, h3⟩ := h
      have k1 := snd_E c C _ h1
      have k2 := snd_E a C _ h2
      have k3 := snd_E b C _ h3
      exact ⟨d_ife k1.pt k2.pe k3.pe, t_ife k1.pt k2.pt k3.pt, fun z => by cases z⟩
    · cases h
  | .call m g es, X, sc, fb, Wx, C, e, h => by
    unfold chkE at h
    split at h
    · rename_i x p xs p2
      simp only [Bool.and_eq_true, decide_eq_true_eq] at h
      obtain ⟨⟨⟨⟨⟨h1, h2⟩, h3⟩, h4⟩, h5⟩, h6⟩ := h
      have ha := snd_A es C _ h6
      have F := C.bs.cal g h4
      cases xs with
      | nil =>
        cases es with
        | nil => exact .pl rfl (d_call0 F C.room C.tk (C.gl h1) h2 (nd_of h3))
        | cons _ _ => rw [chkA] at h6; cases h6
      | cons x xs =>
        simp only [List.all_cons, Bool.and_eq_true] at h5
        exact .pl rfl (d_call F C.room C.tk (C.gl h1) h2 (nd_of h3) h5.1 h5.2 ha)
    · cases h
  | .blt m f es, X, sc, fb, Wx, C, e, h => by
    unfold chkE at h
    split at h
    · simp only [Bool.and_eq_true, decide_eq_true_eq] at h
      obtain ⟨⟨⟨⟨⟨rfl, h1⟩, h2⟩, h3⟩, h4⟩, h5⟩ := h
      exact .pl rfl (d_blt C.calm (C.gl h1) (C.bs.free _ h2) (snd_A es C _ h5) h3 h4)
    · cases h
  | .isi a t, X, sc, fb, Wx, C, e, h => by
    unfold chkE at h
    split at h
    · simp only [Bool.and_eq_true, decide_eq_true_eq] at h
      obtain ⟨⟨⟨⟨⟨⟨⟨⟨rfl, rfl⟩, h1⟩, h2⟩, h3⟩, h4⟩, h5⟩, h6⟩, h7⟩ := h
      exact .pl rfl (d_isi h1 h6 (C.gl h2) (C.bs.free _ h4) (C.gl h3) (C.bs.free _ h5) (snd_E a C _ h7).pe)
    · cases h
  | .idx o i, X, sc, fb, Wx, C, e, h => by
    unfold chkE at h
    split at h
    · simp only [Bool.and_eq_true, decide_eq_true_eq] at h
      exact .pl rfl (d_idx h.1.1 (snd_E o C _ h.1.2).pe (snd_E i C _ h.2).pe)
    · cases h
  | .slc o lo hi, X, sc, fb, Wx, C, e, h => by
    unfold chkE at h
    split at h
    · simp only [Bool.and_eq_true, decide_eq_true_eq] at h
      exact .pl rfl (d_slc (snd_E o C _ h.1.1).pe (snd_O lo C _ h.1.2) (snd_O hi C _ h.2))
    · cases h
  | .rev o, X, sc, fb, Wx, C, e, h => by
    unfold chkE at h
    split at h
    · simp only [Bool.and_eq_true, decide_eq_true_eq] at h
      obtain ⟨rfl, h1⟩ := h
      exact .pl rfl (d_rev (snd_E o C _ h1).pe)
    · cases h
  | .ofr t m lo hi, X, sc, fb, Wx, C, e, h => by
    unfold chkE at h
    split at h
    · rename_i x p y p2 xs p3 p4
      simp only [Bool.and_eq_true, decide_eq_true_eq] at h
      obtain ⟨⟨⟨⟨⟨⟨⟨⟨h0, rfl⟩, h1⟩, h2⟩, h3⟩, h4⟩, h5⟩, h6⟩, h7⟩ := h
      have hl := snd_O lo C _ h6
      split at h7
      · rename_i hx he
        have k := snd_E hi C _ h7
        have pr : PRg X (.Call (.Name "range" p2) xs [] p3) (tR X T.nm cb CN Wx lo hi) := by
          rcases rng_args he with ⟨e1, rfl⟩ | ⟨a, e1, rfl⟩
          · rw [e1] at h6
            simp only [List.all_cons, Bool.and_eq_true] at h5
            cases lo with
            | none => exact r_one (C.gl h2) (C.bs.free _ h4) h5.1 k.pe
            | some l => rw [chkO] at h6; cases h6
          · rw [e1] at h6
            simp only [List.all_cons, Bool.and_eq_true] at h5
            cases lo with
            | none => rw [chkO] at h6; cases h6
            | some l =>
              rw [chkO] at h6
              exact r_two (C.gl h2) (C.bs.free _ h4) h5.1 h5.2.1 (snd_E l C _ h6).pe k.pe
        cases t with
        | true =>
          rw [if_pos rfl] at h0
          subst h0
          exact .pl rfl (d_ofrT C.calm rfl (C.gl h1) (C.bs.free _ h3) pr)
        | false =>
          rw [if_neg Bool.false_ne_true] at h0
          subst h0
          exact .pl rfl (d_ofrL C.calm rfl (C.gl h1) (C.bs.free _ h3) pr)
      · cases h7
    · cases h
  | .comp m elt tg it ifs own, X, sc, fb, Wx, C, e, h => by
    unfold chkE at h
    split at h
    · rename_i x t i cs scope p
      simp only [Bool.and_eq_true, decide_eq_true_eq] at h
      obtain ⟨⟨⟨⟨⟨⟨h1, h2⟩, h3⟩, h4⟩, h5⟩, h6⟩, h7⟩ := h
      have D := d_comp (X := X) (nm := T.nm) (cb := cb) (CN := CN) (Wx := Wx) (pos := p) (own := ownN N own) (m := m) (celt := elt) C.calm (by rw [C.eN]; exact C.nd) (snd_I it C t i h4) (by rw [C.eN, C.sc]; exact blkOk_by h1) (by rw [own_snd]; exact h2)
        (fun s H A cl fp => snd_G (C.blk s H scope A cl fp) tg t h5) (fun s H A cl fp => snd_F ifs (C.blk s H scope A cl fp) cs h6) (fun s H A cl fp => (snd_E elt (C.blk s H scope A cl fp) x h7).pe) (noSet_it h3 _)
      rw [own_snd] at D
      exact .pl rfl D
    · cases h
  | .comp2 m elt tg it tg1 it1 ifs own own1, X, sc, fb, Wx, C, e, h => by
    unfold chkE at h
    split at h
    · rename_i x t i t1 i1 cs scope p
      simp only [Bool.and_eq_true, decide_eq_true_eq] at h
      obtain ⟨⟨⟨⟨⟨⟨⟨⟨⟨⟨⟨h1, h2⟩, h2'⟩, hv⟩, h3⟩, h3'⟩, h4⟩, h5⟩, h4'⟩, h5'⟩, h6⟩, h7⟩ := h
      have D := d_comp2 (X := X) (nm := T.nm) (cb := cb) (CN := CN) (Wx := Wx) (pos := p) (own := ownN N own) (vs1 := own1) (m := m) (celt := elt) C.calm (by rw [C.eN]; exact C.nd) (snd_I it C t i h4) (by rw [C.eN, C.sc]; exact blkOk_by h1) (by rw [own_snd]; simpa using hv) (by rw [own_snd]; exact h2) h2'
        (fun s H A cl fp => snd_G (C.blk s H scope A cl fp) tg t h5) (fun s H A cl fp => snd_I it1 (C.blk s H scope A cl fp) t1 i1 h4') (fun s H A cl fp => snd_G (C.blk s H scope A cl fp) tg1 t1 h5') (fun s H A cl fp => snd_F ifs (C.blk s H scope A cl fp) cs h6) (fun s H A cl fp => (snd_E elt (C.blk s H scope A cl fp) x h7).pe) (noSet_it h3 _) (fun env => noSet_it h3' env)
      rw [own_snd] at D
      exact .pl rfl D
    · cases h
  | .frz a, X, sc, fb, Wx, C, e, h => by
    rw [chkE] at h
    simp only [Bool.and_eq_true] at h
    have hp : okT e = true := by
      have := h.1.1
      cases e <;> first | rfl | cases this
    exact .pl hp (d_frz (snd_E a C _ h.2).pe)
theorem snd_A : ∀ (ces : List CE) {X : Cx} {sc : Scope} {fb : Fb} {Wx : WX} (_ : Cxt T N cb k CN X sc fb Wx) (es : List Expr), chkA T N ces sc fb es = true → PA X es (tA X T.nm cb CN Wx ces)
  | [], X, sc, fb, Wx, C, es, h => by
    cases es with
    | nil => exact d_nil
    | cons _ _ => rw [chkA] at h; cases h
  | a :: as, X, sc, fb, Wx, C, es, h => by
    cases es with
    | nil => rw [chkA] at h; cases h
    | cons e es =>
      rw [chkA] at h
      simp only [Bool.and_eq_true] at h
      exact d_cons h.1.1 (snd_E a C e h.1.2).pe (snd_A as C es h.2)
theorem snd_O : ∀ (o : Option CE) {X : Cx} {sc : Scope} {fb : Fb} {Wx : WX} (_ : Cxt T N cb k CN X sc fb Wx) (oe : Option Expr), chkO T N o sc fb oe = true → PO X oe (tO X T.nm cb CN Wx o)
  | none, X, sc, fb, Wx, C, oe, h => by
    cases oe with
    | none => exact o_none
    | some _ => rw [chkO] at h; cases h
  | some a, X, sc, fb, Wx, C, oe, h => by
    cases oe with
    | none => rw [chkO] at h; cases h
    | some e => rw [chkO] at h; exact o_some (snd_E a C e h).pe
theorem snd_F : ∀ (o : Option CE) {X : Cx} {sc : Scope} {fb : Fb} (_ : Cxt T N cb k CN X sc fb NoW) (es : List Expr), chkF T N o sc fb es = true → PTs X es (tTs X T.nm cb CN o)
  | none, X, sc, fb, C, es, h => by
    cases es with
    | nil => exact pts_nil
    | cons _ _ => rw [chkF] at h; cases h
  | some a, X, sc, fb, C, es, h => by
    unfold chkF at h
    split at h
    · exact pts_one (snd_E a C _ h).pt
    · cases h
theorem snd_I : ∀ (it : It) {X : Cx} {sc : Scope} {fb : Fb} {Wx : WX} (_ : Cxt T N cb k CN X sc fb Wx) (t e : Expr), chkI T N it sc fb t e = true → PI X t e (tI X T.nm cb CN Wx it)
  | .seq a, X, sc, fb, Wx, C, t, e, h => by
    rw [chkI] at h
    exact i_seq (snd_E a C _ h).pe
  | .rng lo hi, X, sc, fb, Wx, C, t, e, h => by
    unfold chkI at h
    split at h
    · rename_i y p2 xs p3
      simp only [Bool.and_eq_true, decide_eq_true_eq] at h
      obtain ⟨⟨⟨⟨⟨rfl, h2⟩, h4⟩, h5⟩, h6⟩, h7⟩ := h
      split at h7
      · rename_i hx he
        have k := snd_E hi C _ h7
        rcases rng_args he with ⟨e1, rfl⟩ | ⟨a, e1, rfl⟩
        · rw [e1] at h6
          simp only [List.all_cons, Bool.and_eq_true] at h5
          cases lo with
          | none => exact i_rng1 (C.gl h2) (C.bs.free _ h4) h5.1 k.pe
          | some l => rw [chkO] at h6; cases h6
        · rw [e1] at h6
          simp only [List.all_cons, Bool.and_eq_true] at h5
          cases lo with
          | none => rw [chkO] at h6; cases h6
          | some l =>
            rw [chkO] at h6
            exact i_rng2 (C.gl h2) (C.bs.free _ h4) h5.1 h5.2.1 (snd_E l C _ h6).pe k.pe
      · cases h7
    · cases h
  | .enum a, X, sc, fb, Wx, C, t, e, h => by
    unfold chkI at h
    split at h
    · simp only [Bool.and_eq_true, decide_eq_true_eq] at h
      obtain ⟨⟨⟨⟨⟨h0, rfl⟩, h1⟩, h2⟩, h3⟩, h4⟩ := h
      cases t with
      | Tuple elts kk tp => exact i_enum (C.gl h1) (C.bs.free _ h2) h3 (snd_E a C _ h4).pe
      | _ => cases h0
    · cases h
  | .zip a b, X, sc, fb, Wx, C, t, e, h => by
    unfold chkI at h
    split at h
    · simp only [Bool.and_eq_true, decide_eq_true_eq] at h
      obtain ⟨⟨⟨⟨⟨⟨⟨h0, rfl⟩, h1⟩, h2⟩, h3⟩, h4⟩, h5⟩, h6⟩ := h
      cases t with
      | Tuple elts kk tp => exact i_zip (C.gl h1) (C.bs.free _ h2) h3 h4 (snd_E a C _ h5).pe (snd_E b C _ h6).pe
      | _ => cases h0
    · cases h
end
end
end Ip

set_option Elab.async false
set_option linter.all false
set_option maxRecDepth 100000
set_option maxHeartbeats 4000000
/-! IpStm: the checks of statements, and that they are sound. -/
namespace Ip
open PySem PySem.Spec PyProof.Rows L2
def swB (sc : Scope) (x : Str) (p : Pos) (v : Expr) : Bool := match v with
  | .ListComp _ _ scope vp => isLoc sc x && p.line == vp.line && !(scope.names.any fun (n, k) => n == x && (k == .local || k == .cell))
  | _ => false
def isLC : Expr → Bool
  | .ListComp .. => true
  | _ => false
def ownName (sc : Scope) : Expr → Bool
  | .Name x _ => isLoc sc x
  | _ => false
def tpOk (sc : Scope) (es : List Expr) (v : Expr) : Bool := match v with
  | .Tuple vs _ _ => !(es.length == 2 || es.length == 3) || vs.all (foldedForSure 8) || !es.all (ownName sc)
  | _ => true
def chkN (N : List Str) (sc : Scope) : List Nat → List Expr → Bool
  | [], es => es.isEmpty
  | i :: is, es => match es with
    | .Name x _ :: es => decide (N[i]? = some x) && locB sc x && chkN N sc is es
    | _ => false
section
variable (T : Tb) (N : List Str) (sc : Scope)
abbrev fbT : Fb := fun _ => true
mutual
def chkS : CS → Stmt → Bool
  | .set t e, s => match s with
    | .Assign [tg] v _ => (match t, tg with
      | .nm i, .Name x p => decide (N[i]? = some x) && locB sc x && (noComp v || isLC v) && chkE T N e sc fbT v
      | .tp ts, .Tuple es k p => noComp v && tpOk sc es v && chkG N sc fbT (.tp ts) (.Tuple es k p) && chkE T N e sc fbT v
      | _, _ => false)
    | _ => false
  | .par i j a b, s => match s with
    | .Assign [.Tuple [.Name x px, .Name y py] _ _] (.Tuple [v, w] _ _) _ => decide (N[i]? = some x) && decide (N[j]? = some y) && decide (i ≠ j) && isLoc sc x && isLoc sc y && decide (py.line = px.line) && decide (x ≠ y) && noStar v && noStar w && !([v, w].all (foldedForSure 8)) && !([v, w].all (constantsAlone 8)) && chkA T N [a, b] sc fbT [v, w]
    | _ => false
  | .par3 i j l a b c, s => match s with
    | .Assign [.Tuple [.Name x px, .Name y py, .Name z pz] _ _] (.Tuple [u, v, w] _ _) _ => decide (N[i]? = some x) && decide (N[j]? = some y) && decide (N[l]? = some z) && decide (i ≠ j) && decide (i ≠ l) && decide (j ≠ l) && isLoc sc x && isLoc sc y && isLoc sc z && decide (py.line = px.line) && decide (pz.line = px.line) && decide (x ≠ y) && decide (x ≠ z) && decide (y ≠ z) && noStar u && noStar v && noStar w && !([u, v, w].all (foldedForSure 8)) && !([u, v, w].all (constantsAlone 8)) && chkA T N [a, b, c] sc fbT [u, v, w]
    | _ => false
  | .parT is es, s => match s with
    | .Assign [.Tuple ns _ _] (.Tuple vs k p) _ => chkN N sc is ns && decide (es.length ≤ 1000) && tpOk sc ns (.Tuple vs k p) && chkA T N es sc fbT vs
    | _ => false
  | .sub o i e, s => match s with
    | .Assign [.Subscript x y _] v _ => noComp v && noSlice y && chkE T N e sc fbT v && chkE T N o sc fbT x && chkE T N i sc fbT y
    | _ => false
  | .expr e, s => match s with
    | .Expr v _ => noComp v && chkE T N e sc fbT v
    | _ => false
  | .app o e, s => match s with
    | .Expr (.Call (.Attribute (.Name x px) at_ apos) [v] [] cpos) _ => decide (at_ = "append") && (apos.endLine == cpos.line) && noStar v && chkE T N o sc fbT (.Name x px) && chkE T N e sc fbT v
    | _ => false
  | .ife c a b, s => match s with
    | .If x y z _ => chkE T N c sc fbT x && chkB a y && chkB b z
    | _ => false
  | .for_ t it body, s => match s with
    | .For x y z [] _ => noSet y && chkI T N it sc fbT x y && chkG N sc fbT t x && chkB body z
    | _ => false
  | .whl c body, s => match s with
    | .While x z [] _ => chkE T N c sc fbT x && chkB body z
    | _ => false
  | .ret e, s => match s with
    | .Return (some v) _ => chkE T N e sc fbT v
    | .Return none _ => (match e with
      | .cst .non => true
      | _ => false)
    | _ => false
  | .rais c e, s => match s with
    | .Raise (some (.Call (.Name x _) [.Constant (.str m) _ _] [] _)) none _ => (match e with
      | .cst (.str m') => decide (m' = m) && decide (T.nm c = x) && T.excs.contains c && glB sc x && ndB x
      | _ => false)
    | _ => false
  | .brk, s => match s with
    | .Break _ => true
    | _ => false
  | .cont, s => match s with
    | .Continue _ => true
    | _ => false
def chkB : List CS → List Stmt → Bool
  | [], ss => ss.isEmpty
  | c :: cs, ss => match ss with
    | s :: ss => chkS c s && chkB cs ss
    | [] => false
end
end
theorem sw_lc {elt : Expr} {gs : List Comprehension} {scope : Scope} {pos py : Pos} {y : Str} {l : Nat} {env : Env} (hk : env.scope.kind = .function) : swapsWith (.ListComp elt gs scope pos) (some (.Name y py)) l env = pure (swB env.scope y py (.ListComp elt gs scope pos)) := by
  have hb : env.blockKind = .function := by unfold Env.blockKind; rw [hk]; rfl
  unfold swapsWith
  simp only [hb, Expr.pos]
  show (pure _ : Sem Bool) = pure _
  refine congrArg _ ?_
  unfold swB isLoc Env.kindOf
  by_cases h : env.scope.names.lookup y = some .local <;> simp [h]
theorem swap2 {x y : Str} {px py pt pt2 : Pos} {k k2 : Nat} {v w : Expr} {env : Env} (hk : env.scope.kind = .function) (hx : env.scope.names.lookup x = some .local) (hy : env.scope.names.lookup y = some .local) (hl : py.line = px.line) (hne : x ≠ y) (h1 : noStar v = true) (h2 : noStar w = true) (h3 : [v, w].all (foldedForSure 8) = false) (h4 : [v, w].all (constantsAlone 8) = false) :
    swappedStores [.Tuple [.Name x px, .Name y py] k pt] (.Tuple [v, w] k2 pt2) env = pure (some [x, y]) := by
  have hb : env.blockKind = .function := by unfold Env.blockKind; rw [hk]; rfl
  have kx : env.kindOf x = some .local := hx
  have ky : env.kindOf y = some .local := hy
  have e1 : (y == x) = false := by simpa using fun e => hne e.symm
  unfold swappedStores
  simp [hb, kx, ky, Expr.pos, hl, h3, h4, List.eraseDups, List.eraseDupsBy, List.eraseDupsBy.loop, e1]
  intro h
  rcases h with h | h
  · cases v <;> first | exact Bool.noConfusion h1 | exact Bool.noConfusion h
  · cases w <;> first | exact Bool.noConfusion h2 | exact Bool.noConfusion h
theorem swap3 {x y z : Str} {px py pz pt pt2 : Pos} {k k2 : Nat} {u v w : Expr} {env : Env} (hk : env.scope.kind = .function) (hx : env.scope.names.lookup x = some .local) (hy : env.scope.names.lookup y = some .local) (hz : env.scope.names.lookup z = some .local) (hl : py.line = px.line) (hl2 : pz.line = px.line) (hxy : x ≠ y) (hxz : x ≠ z) (hyz : y ≠ z) (h0 : noStar u = true) (h1 : noStar v = true) (h2 : noStar w = true) (h3 : [u, v, w].all (foldedForSure 8) = false) (h4 : [u, v, w].all (constantsAlone 8) = false) :
    swappedStores [.Tuple [.Name x px, .Name y py, .Name z pz] k pt] (.Tuple [u, v, w] k2 pt2) env = pure (some [x, y, z]) := by
  have hb : env.blockKind = .function := by unfold Env.blockKind; rw [hk]; rfl
  have kx : env.kindOf x = some .local := hx
  have ky : env.kindOf y = some .local := hy
  have kz : env.kindOf z = some .local := hz
  have e1 : (y == x) = false := by simpa using fun e => hxy e.symm
  have e2 : (z == x) = false := by simpa using fun e => hxz e.symm
  have e3 : (z == y) = false := by simpa using fun e => hyz e.symm
  unfold swappedStores
  simp [hb, kx, ky, kz, Expr.pos, hl, hl2, h3, h4, List.eraseDups, List.eraseDupsBy, List.eraseDupsBy.loop, e1, e2, e3]
  intro h
  rcases h with h | h | h
  · cases u <;> first | exact Bool.noConfusion h0 | exact Bool.noConfusion h
  · cases v <;> first | exact Bool.noConfusion h1 | exact Bool.noConfusion h
  · cases w <;> first | exact Bool.noConfusion h2 | exact Bool.noConfusion h
theorem fm_lt {α β : Type} {f : α → Option β} {x : α} : ∀ {l : List α}, x ∈ l → f x = none → (l.filterMap f).length < l.length
  | y :: l, h, e => by
    rcases List.mem_cons.mp h with rfl | h
    · rw [List.filterMap_cons_none e, List.length_cons]
      have := List.length_filterMap_le f l
      omega
    · have ih := fm_lt h e
      cases q : f y with
      | none =>
        rw [List.filterMap_cons_none q, List.length_cons]
        omega
      | some b =>
        rw [List.filterMap_cons_some q, List.length_cons, List.length_cons]
        omega
theorem swap_no {es : List Expr} {k : Nat} {p : Pos} {v : Expr} {env : Env} (h : tpOk env.scope es v = true) : swappedStores [.Tuple es k p] v env = pure none := by
  cases v with
  | Tuple vs k2 p2 =>
    have h : (!(es.length == 2 || es.length == 3) || vs.all (foldedForSure 8) || !es.all (ownName env.scope)) = true := h
    unfold swappedStores
    simp only
    split
    · rfl
    · rename_i h1
      split
      · rfl
      · split
        · rfl
        · rename_i h3
          split
          · rfl
          · rename_i h4
            exfalso
            have h0 : (!(es.length == 2 || es.length == 3)) = false := by
              cases q : (!(es.length == 2 || es.length == 3)) with
              | false => rfl
              | true => rw [q] at h1; simp at h1
            have h5 : vs.all (foldedForSure 8) = false := by simpa using h4
            rw [h0, h5, Bool.false_or, Bool.false_or] at h
            have h6 : es.all (ownName env.scope) = false := by simpa using h
            obtain ⟨e, he, h7⟩ := List.all_eq_false.mp h6
            refine h3 ?_
            rw [Bool.or_eq_true]
            refine .inl ?_
            simp only [bne_iff_ne, ne_eq]
            refine Nat.ne_of_lt (fm_lt he ?_)
            cases e with
            | Name x q =>
              have h8 : ¬ isLoc env.scope x = true := h7
              have h9 : (env.kindOf x == some .local) = false := by
                unfold isLoc at h8
                simpa [Env.kindOf] using h8
              simp only [h9, Bool.false_and]
              rfl
            | _ => rfl
  | _ => rfl
section
variable {T : Tb} {N : List Str} {cb : Cb} {k : Nat} {CN : Nat → Option P} {X : Cx} {sc : Scope} {Wx : WX} {W : Nat}
theorem snd_set (C : Cxt T N cb k CN X sc fbT Wx) (hk : X.env.scope.kind = .function) {i : Nat} {x : Str} {p pos : Pos} {ce : CE} {v : Expr} (hi : N[i]? = some x) (hx : locB sc x = true) (hv : (noComp v || isLC v) = true) (h : chkE T N ce sc fbT v = true) : PS X (.Assign [.Name x p] v pos) (tS X T.nm cb CN W Wx (.set (.nm i) ce)) := by
  have nd : X.N.Nodup := by rw [C.eN]; exact C.nd
  have hi' : X.N[i]? = some x := by rw [C.eN]; exact hi
  have hf : X.fn x = true ∨ X.env.scope.names.lookup x = some .local := .inl (C.fb x)
  cases hn : noComp v with
  | true => exact s_set nd hi' (C.loc hx) hf (sw_no hn) (snd_E ce C v h).pe
  | false =>
    rw [hn, Bool.false_or] at hv
    cases v with
    | ListComp elt gs scope vp =>
      have e := sw_lc (elt := elt) (gs := gs) (scope := scope) (pos := vp) (py := p) (y := x) (l := pos.line) (env := X.env) hk
      cases hb : swB X.env.scope x p (.ListComp elt gs scope vp) with
      | false =>
        rw [hb] at e
        exact s_set nd hi' (C.loc hx) hf e (snd_E ce C _ h).pe
      | true =>
        rw [hb] at e
        have hl : X.env.scope.names.lookup x = some .local := by
          unfold swB isLoc at hb
          simp only [Bool.and_eq_true, decide_eq_true_eq] at hb
          exact hb.1.1
        cases ce with
        | comp m elt' tg it ifs own =>
          unfold chkE at h
          split at h
          · rename_i x' t i' cs scope' p' heq
            cases heq
            simp only [Bool.and_eq_true, decide_eq_true_eq] at h
            obtain ⟨⟨⟨⟨⟨⟨h1, h2⟩, h3⟩, h4⟩, h5⟩, h6⟩, h7⟩ := h
            have D := s_setLc (X := X) (nm := T.nm) (cb := cb) (CN := CN) (W := W) (Wx := Wx) (pos := pos) (own := ownN N own) (m := m) (celt := elt') C.calm nd hi' hl e (snd_I it C t i' h4) (by rw [C.eN, C.sc]; exact blkOk_by h1) (by rw [own_snd]; exact h2)
              (fun s H A cl fp => snd_G (C.blk s H scope A cl fp) tg t h5) (fun s H A cl fp => snd_F ifs (C.blk s H scope A cl fp) cs h6) (fun s H A cl fp => (snd_E elt' (C.blk s H scope A cl fp) _ h7).pe) (noSet_it h3 _)
            rw [own_snd] at D
            exact D
          · cases h
        | comp2 m elt' tg it tg1 it1 ifs own own1 =>
          unfold chkE at h
          split at h
          · rename_i x' t i' t1 i1 cs scope' p' heq
            cases heq
            simp only [Bool.and_eq_true, decide_eq_true_eq] at h
            obtain ⟨⟨⟨⟨⟨⟨⟨⟨⟨⟨⟨h1, h2⟩, h2'⟩, hv'⟩, h3⟩, h3'⟩, h4⟩, h5⟩, h4'⟩, h5'⟩, h6⟩, h7⟩ := h
            have D := s_setLc2 (X := X) (nm := T.nm) (cb := cb) (CN := CN) (W := W) (Wx := Wx) (pos := pos) (own := ownN N own) (vs1 := own1) (m := m) (celt := elt') C.calm nd hi' hl e (snd_I it C t i' h4) (by rw [C.eN, C.sc]; exact blkOk_by h1) (by rw [own_snd]; simpa using hv') (by rw [own_snd]; exact h2) h2'
              (fun s H A cl fp => snd_G (C.blk s H scope A cl fp) tg t h5) (fun s H A cl fp => snd_I it1 (C.blk s H scope A cl fp) t1 i1 h4') (fun s H A cl fp => snd_G (C.blk s H scope A cl fp) tg1 t1 h5') (fun s H A cl fp => snd_F ifs (C.blk s H scope A cl fp) cs h6) (fun s H A cl fp => (snd_E elt' (C.blk s H scope A cl fp) _ h7).pe) (noSet_it h3 _) (fun env => noSet_it h3' env)
            rw [own_snd] at D
            exact D
          · cases h
        | frz a =>
          unfold chkE at h
          simp only [Bool.and_eq_true] at h
          exact Bool.noConfusion h.1.2
        | _ => unfold chkE at h; cases h
    | _ => first | exact Bool.noConfusion hv | exact Bool.noConfusion hn
theorem snd_N (C : Cxt T N cb k CN X sc fbT Wx) {nm : Nat → Str} : ∀ (is : List Nat) (es : List Expr), chkN N sc is es = true → PGs X es (tGU X nm is) ∧ es.all noStar = true ∧ is.length = es.length
  | [], es, h => by
    cases es with
    | nil => exact ⟨gu_nil, rfl, rfl⟩
    | cons _ _ => cases h
  | i :: is, es, h => by
    unfold chkN at h
    split at h
    · simp only [Bool.and_eq_true, decide_eq_true_eq] at h
      obtain ⟨h1, h2, h3⟩ := snd_N C (nm := nm) is _ h.2
      exact ⟨gu_cons (by rw [C.eN]; exact C.nd) (by rw [C.eN]; exact h.1.1) (C.loc h.1.2) (.inl (C.fb _)) h1, by simp only [List.all_cons, h2]; rfl, by simp [h3]⟩
    · cases h
mutual
theorem snd_S (C : Cxt T N cb k CN X sc fbT Wx) (hk : X.env.scope.kind = .function) (hp : PassesOwn (model X.prog X.w) X.A X.env X.xe) : ∀ (c : CS) (s : Stmt), chkS T N sc c s = true → PS X s (tS X T.nm cb CN W Wx c)
  | .set t e, s, h => by
    unfold chkS at h
    split at h
    · split at h
      · simp only [Bool.and_eq_true, decide_eq_true_eq] at h
        exact snd_set C hk h.1.1.1 h.1.1.2 h.1.2 h.2
      · simp only [Bool.and_eq_true] at h
        exact s_tup (snd_E e C _ h.2).pe (snd_G C _ _ h.1.2) (by unfold swapsWithSole; exact sw_no h.1.1.1) (swap_no (by rw [C.sc]; exact h.1.1.2))
      · cases h
    · cases h
  | .par i j a b, s, h => by
    unfold chkS at h
    split at h
    · simp only [Bool.and_eq_true, decide_eq_true_eq, Bool.not_eq_true'] at h
      obtain ⟨⟨⟨⟨⟨⟨⟨⟨⟨⟨⟨h1, h2⟩, h3⟩, h4⟩, h5⟩, h6⟩, h7⟩, h8⟩, h9⟩, h10⟩, h11⟩, h12⟩ := h
      exact s_par C.calm (by rw [C.eN]; exact C.nd) (by rw [C.eN]; exact h1) (by rw [C.eN]; exact h2) h3 (C.isl h4) (C.isl h5) (snd_A _ C _ h12) (swap2 hk (C.isl h4) (C.isl h5) h6 h7 h8 h9 h10 h11)
    · cases h
  | .par3 i j l a b c, s, h => by
    unfold chkS at h
    split at h
    · simp only [Bool.and_eq_true, decide_eq_true_eq, Bool.not_eq_true'] at h
      obtain ⟨⟨⟨⟨⟨⟨⟨⟨⟨⟨⟨⟨⟨⟨⟨⟨⟨⟨⟨h1, h2⟩, h3⟩, h4⟩, h5⟩, h6⟩, h7⟩, h8⟩, h9⟩, h10⟩, h11⟩, h12⟩, h13⟩, h14⟩, h15⟩, h16⟩, h17⟩, h18⟩, h19⟩, h20⟩ := h
      exact s_par3 C.calm (by rw [C.eN]; exact C.nd) (by rw [C.eN]; exact h1) (by rw [C.eN]; exact h2) (by rw [C.eN]; exact h3) h4 h5 h6 (C.isl h7) (C.isl h8) (C.isl h9) (snd_A _ C _ h20) (swap3 hk (C.isl h7) (C.isl h8) (C.isl h9) h10 h11 h12 h13 h14 h15 h16 h17 h18 h19)
    · cases h
  | .parT is es, s, h => by
    unfold chkS at h
    split at h
    · simp only [Bool.and_eq_true, decide_eq_true_eq] at h
      obtain ⟨⟨⟨h1, h2⟩, h3⟩, h4⟩ := h
      obtain ⟨k1, k2, k3⟩ := snd_N C (nm := T.nm) is _ h1
      exact s_parT C.calm k2 k3 h2 k1 (snd_A es C _ h4) (swap_no (by rw [C.sc]; exact h3))
    · cases h
  | .sub o i e, s, h => by
    unfold chkS at h
    split at h
    · simp only [Bool.and_eq_true] at h
      exact s_sub h.1.1.1.1 h.1.1.1.2 (snd_E e C _ h.1.1.2).pe (snd_E o C _ h.1.2).pe (snd_E i C _ h.2).pe
    · cases h
  | .expr e, s, h => by
    unfold chkS at h
    split at h
    · simp only [Bool.and_eq_true] at h
      exact s_expr h.1 (snd_E e C _ h.2).pe
    · cases h
  | .app o e, s, h => by
    unfold chkS at h
    split at h
    · simp only [Bool.and_eq_true, decide_eq_true_eq] at h
      obtain ⟨⟨⟨⟨rfl, h1⟩, h2⟩, h3⟩, h4⟩ := h
      exact s_app h1 h2 (snd_E o C _ h3).pe (snd_E e C _ h4).pe
    · cases h
  | .ife c a b, s, h => by
    unfold chkS at h
    split at h
    · simp only [Bool.and_eq_true] at h
      exact s_if (snd_E c C _ h.1.1).pt (snd_B C hk hp a _ h.1.2) (snd_B C hk hp b _ h.2)
    · cases h
  | .for_ t it body, s, h => by
    unfold chkS at h
    split at h
    · simp only [Bool.and_eq_true] at h
      exact s_for hp C.calm (snd_I it C _ _ h.1.1.2) (snd_G C _ _ h.1.2) (snd_B C hk hp body _ h.2) (noSet_it h.1.1.1 _)
    · cases h
  | .whl c body, s, h => by
    unfold chkS at h
    split at h
    · simp only [Bool.and_eq_true] at h
      exact s_whl hp (snd_E c C _ h.1).pt (snd_B C hk hp body _ h.2)
    · cases h
  | .ret e, s, h => by
    unfold chkS at h
    split at h
    · exact s_ret (snd_E e C _ h).pe
    · split at h
      · exact s_retN
      · cases h
    · cases h
  | .rais c e, s, h => by
    unfold chkS at h
    split at h
    · split at h
      · simp only [Bool.and_eq_true, decide_eq_true_eq] at h
        obtain ⟨⟨⟨⟨rfl, rfl⟩, h1⟩, h2⟩, h3⟩ := h
        exact s_rais C.calm C.tk rfl (C.bs.exc c h1) (C.gl h2) (nd_of h3)
      · cases h
    · cases h
  | .brk, s, h => by
    unfold chkS at h
    split at h
    · exact s_brk
    · cases h
  | .cont, s, h => by
    unfold chkS at h
    split at h
    · exact s_cont
    · cases h
theorem snd_B (C : Cxt T N cb k CN X sc fbT Wx) (hk : X.env.scope.kind = .function) (hp : PassesOwn (model X.prog X.w) X.A X.env X.xe) : ∀ (cs : List CS) (ss : List Stmt), chkB T N sc cs ss = true → PSs X ss (tB X T.nm cb CN W Wx cs)
  | [], ss, h => by
    cases ss with
    | nil => exact b_nil
    | cons _ _ => unfold chkB at h; cases h
  | c :: cs, ss, h => by
    cases ss with
    | nil => unfold chkB at h; cases h
    | cons s ss =>
      unfold chkB at h
      simp only [Bool.and_eq_true] at h
      exact b_cons (snd_S C hk hp c s h.1) (snd_B C hk hp cs ss h.2)
end
end
end Ip

set_option Elab.async false
set_option linter.all false
set_option maxRecDepth 100000
set_option maxHeartbeats 4000000
/-! IpFn: a program of the core against its text: all functions at once. -/
namespace Ip
open PySem PySem.Spec PyProof.Rows L2
/-! ### constants of the module -/
mutual
def valB (K : PySem.W.Frag) : P → Value → Bool
  | .non, u => match u with
    | .none => true
    | _ => false
  | .bl b, u => match u with
    | .bool c => b == c
    | _ => false
  | .int i, u => match u with
    | .int j _ => decide (i = j)
    | _ => false
  | .str x, u => match u with
    | .str y _ => decide (x = y)
    | _ => false
  | .tup ps, u => match u with
    | .ref a => (match K.lookup a with
      | some ⟨.type c, _, .seq its _, _⟩ => decide (c = "tuple") && decide (its.size ≤ 1000) && valBs K ps its.toList
      | _ => false)
    | _ => false
  | _, _ => false
def valBs (K : PySem.W.Frag) : List P → List Value → Bool
  | [], us => us.isEmpty
  | p :: ps, us => match us with
    | u :: us => valB K p u && valBs K ps us
    | [] => false
end
section
variable {w : World} {mg : Str → Option Value} {nm : Nat → Str} {K : PySem.W.Frag}
mutual
theorem valB_ok : ∀ (p : P) (u : Value), valB K p u = true → ∃ v, RelV v u ∧ ∀ H L, Rp w mg nm K H L v p
  | .non, u, h => by
    cases u with
    | none => exact ⟨.non, rfl, fun _ _ => .non⟩
    | _ => unfold valB at h; cases h
  | .bl b, u, h => by
    cases u with
    | bool c =>
      unfold valB at h
      have e := eq_of_beq h
      subst e
      exact ⟨.bl b, rfl, fun _ _ => .bl b⟩
    | _ => unfold valB at h; cases h
  | .int i, u, h => by
    cases u with
    | int j t =>
      unfold valB at h
      have e := of_decide_eq_true h
      subst e
      exact ⟨.int i, ⟨t, rfl⟩, fun _ _ => .int i⟩
    | _ => unfold valB at h; cases h
  | .str x, u, h => by
    cases u with
    | str y t =>
      unfold valB at h
      have e := of_decide_eq_true h
      subst e
      exact ⟨.str x, ⟨t, rfl⟩, fun _ _ => .str x⟩
    | _ => unfold valB at h; cases h
  | .tup ps, u, h => by
    unfold valB at h
    split at h
    · rename_i a
      split at h
      · rename_i c od its n sl hk
        simp only [Bool.and_eq_true, decide_eq_true_eq] at h
        obtain ⟨⟨rfl, h1⟩, h2⟩ := h
        obtain ⟨vs, h3, h4⟩ := valBs_ok ps _ h2
        exact ⟨.ref a, rfl, fun H L => .tup (.inr ⟨_, its, n, hk, rfl, rfl, small_line h1, h3⟩) (h4 H L)⟩
      · cases h
    · cases h
  | .lst _, u, h => by unfold valB at h; cases h
  | .set _, u, h => by unfold valB at h; cases h
  | .dct _ _, u, h => by unfold valB at h; cases h
  | .scr _, u, h => by unfold valB at h; cases h
  | .glb _, u, h => by unfold valB at h; cases h
theorem valBs_ok : ∀ (ps : List P) (us : List Value), valBs K ps us = true → ∃ vs, Vals vs us ∧ ∀ H L, Rps w mg nm K H L vs ps
  | [], us, h => by
    cases us with
    | nil => exact ⟨[], .nil, fun _ _ => .nil⟩
    | cons _ _ => unfold valBs at h; cases h
  | p :: ps, us, h => by
    cases us with
    | nil => unfold valBs at h; cases h
    | cons u us =>
      unfold valBs at h
      simp only [Bool.and_eq_true] at h
      obtain ⟨v, h1, h2⟩ := valB_ok p u h.1
      obtain ⟨vs, h3, h4⟩ := valBs_ok ps us h.2
      exact ⟨v :: vs, .cons h1 h3, fun H L => .cons (h2 H L) (h4 H L)⟩
end
end
def conB (K : PySem.W.Frag) (q : Str × P) : Bool := match PySem.W.nsIn K mainGlobals q.1 with
  | some (some v) => valB K q.2 v
  | _ => false
/-- those that this module has -/
def conL (T : Tb) (cons : List (Str × P)) : List (Str × P) := T.co.filterMap fun c => cons[c]?
theorem con_ok {cons : List (Str × P)} {T : Tb} {w : World} {mg : Str → Option Value} {nm : Nat → Str} {K : PySem.W.Frag} {h : Heap} (X : K.In h) (G : h.Ns mainGlobals mg) (hT : T.cons = cons.map (·.1)) (hc : (conL T cons).all (conB K) = true) : ConOk T.co.contains w mg nm K T.cn (cnOf cons) := by
  intro c p hco hp
  unfold cnOf at hp
  obtain ⟨q, hq, rfl⟩ := Option.map_eq_some_iff.mp hp
  have hb := List.all_eq_true.mp hc q (List.mem_filterMap.mpr ⟨c, by simpa using hco, hq⟩)
  have e : T.cn c = q.1 := by
    unfold Tb.cn
    rw [hT, List.getD_eq_getElem?_getD, List.getElem?_map, hq]
    rfl
  unfold conB at hb
  split at hb
  · rename_i v hv
    obtain ⟨u, h1, h2⟩ := valB_ok (w := w) (mg := mg) (nm := nm) q.2 v hb
    exact ⟨v, u, by rw [e]; exact PySem.W.mg_of X G hv, h1, h2⟩
  · cases hb
/-! ### functions -/
structure Fdef where
  g : Nat
  st : Stmt
  N : List Str
  np : Nat
abbrev Fdef.ps (d : Fdef) : List Str := d.N.take d.np
/-- how the parameters are bound -/
def Fdef.Bd (T : Tb) (d : Fdef) : Prop := ∀ (kV doc pm : Value) (an : Option Addr) (cdv ct : Value) (us : List Value), us.length = d.np → bindArgs (PySem.W.fnOf (T.nm d.g) (T.nm d.g) (defArgs d.st) (defBody d.st) (defScope d.st) .none kV doc pm an cdv ct) ⟨us, []⟩ = pure (d.ps.zip us)
inductive All {α : Type} (p : α → Prop) : List α → Prop
  | nil : All p []
  | cons {x : α} {xs : List α} : p x → All p xs → All p (x :: xs)
theorem All.mem {α : Type} {p : α → Prop} : ∀ {xs : List α} {x : α}, All p xs → x ∈ xs → p x
  | _, _, .cons h t, m => by
    rcases List.mem_cons.mp m with rfl | m
    · exact h
    · exact t.mem m
def scopeB (N ps : List Str) (sc : Scope) : Bool := decide (sc.kind = .function) && !sc.isCoroutine && !sc.isGenerator && decide N.Nodup && decide (N.take ps.length = ps) && ps.all (locB sc) && sc.names.all fun y => decide (y.2 ≠ .free)
theorem scope_ok {N ps : List Str} {sc : Scope} (h : scopeB N ps sc = true) : FnScope N ps sc := by
  unfold scopeB at h
  simp only [Bool.and_eq_true, decide_eq_true_eq, Bool.not_eq_true', List.all_eq_true] at h
  obtain ⟨⟨⟨⟨⟨⟨h1, h2⟩, h3⟩, h4⟩, h5⟩, h6⟩, h7⟩ := h
  refine ⟨h1, h2, h3, h4, h5, fun x hx => ?_, h7⟩
  have := h6 x hx
  unfold locB at this
  split at this
  · exact .inl (by assumption)
  · exact .inr (by assumption)
  · cases this
/-- a def against its core -/
def fdB (T : Tb) (FN : Nat → Option Fn) (d : Fdef) : Bool := match FN d.g with
  | some F => decide (d.np ≤ d.N.length) && scopeB d.N d.ps (defScope d.st) && decide (F.np = d.np) && decide (F.ns = d.N.length) && chkB T d.N (defScope d.st) F.body (defBody d.st)
  | none => false
def toDefD (T : Tb) (d : Fdef) : He.DefD := ⟨(T.nm d.g, none), T.nm d.g, T.nm d.g, defArgs d.st, defBody d.st, defScope d.st, [], []⟩
/-- the head's facts -/
def faOf (T : Tb) (D : List Fdef) : List He.Fa := D.map (fun d => .glo (T.nm d.g)) ++ (T.free.map .free ++ (T.excs.map (fun c => .glo (T.nm c)) ++ T.excs.map (fun c => .exc (T.nm c))))
structure Prg where
  T : Tb
  cons : List (Str × P)
  FN : Nat → Option Fn
  W : Nat
  D : List Fdef
def Prg.okB (p : Prg) : Bool := decide (p.T.cons = p.cons.map (·.1)) && p.T.fns.all (fun g => p.D.any fun d => decide (d.g = g)) && p.D.all (fdB p.T p.FN)
section
variable {p : Prg} {P : Program} {w : World} {K : PySem.W.Frag} {mg : Str → Option Value} {h : Heap} {ts : List He.Tab} {tf : List He.Defn}
abbrev Prg.Says (p : Prg) (ts : List He.Tab) (tf : List He.Defn) (w : World) (h : Heap) (K : PySem.W.Frag) : Prop := He.SaysX (faOf p.T p.D) (p.D.map (toDefD p.T)) ts tf (fun K => (conL p.T p.cons).all (conB K)) w h K
/-- a def of the list, as the head tells of it -/
theorem prg_def (X : K.In h) (G : h.Ns mainGlobals mg) (c : p.Says ts tf w h K) {d : Fdef} (hd : d ∈ p.D) : ∃ fd, FunD K (p.T.nm d.g) (p.T.nm d.g) (defArgs d.st) (defBody d.st) (defScope d.st) [] [] (He.ga K (p.T.nm d.g)) fd ∧ mg (p.T.nm d.g) = some (.ref (He.ga K (p.T.nm d.g))) := by
  obtain ⟨fd, F⟩ := c.t.d.defs (d := toDefD p.T d) (List.mem_map_of_mem hd)
  refine ⟨fd, F, He.glo_ok X G (c.t.d.facts ?_)⟩
  exact List.mem_append_left _ (List.mem_map.mpr ⟨d, hd, rfl⟩)
theorem prg_base (ok : p.okB = true) (X : K.In h) (G : h.Ns mainGlobals mg) (c : p.Says ts tf w h K) : (∀ x, p.T.free.contains x = true → mg x = none) ∧ (∀ e, p.T.excs.contains e = true → ExcOk K mg (p.T.nm e)) ∧ ConOk p.T.co.contains w mg p.T.nm K p.T.cn (cnOf p.cons) ∧
    (∀ g, p.T.fns.contains g = true → ∃ d ∈ p.D, d.g = g) ∧ ∀ d ∈ p.D, ∃ F, p.FN d.g = some F ∧ d.ps.length = d.np ∧ FnScope d.N d.ps (defScope d.st) ∧ F.np = d.np ∧ F.ns = d.N.length ∧ chkB p.T d.N (defScope d.st) F.body (defBody d.st) = true := by
  unfold Prg.okB at ok
  simp only [Bool.and_eq_true, decide_eq_true_eq] at ok
  obtain ⟨⟨o1, o2⟩, o3⟩ := ok
  refine ⟨fun x hx => He.free_ok X G (c.t.d.facts (List.mem_append_right _ (List.mem_append_left _ (List.mem_map_of_mem (by simpa using hx))))), fun e he => ?_, con_ok X G o1 c.more, fun g hg => ?_, fun d hd => ?_⟩
  · have hm : e ∈ p.T.excs := by simpa using he
    have q := He.exc_ok (K := K) (x := p.T.nm e) (c.t.d.facts (List.mem_append_right _ (List.mem_append_right _ (List.mem_append_right _ (List.mem_map.mpr ⟨e, hm, rfl⟩)))))
    have g := He.glo_ok X G (x := p.T.nm e) (c.t.d.facts (List.mem_append_right _ (List.mem_append_right _ (List.mem_append_left _ (List.mem_map.mpr ⟨e, hm, rfl⟩)))))
    exact ⟨_, _, _, _, _, PySem.F.excBase_ValueError, q.1, g, q.2.1, q.2.2.1, q.2.2.2⟩
  · have := List.all_eq_true.mp o2 g (by simpa using hg)
    obtain ⟨d, h1, h2⟩ := List.any_eq_true.mp this
    exact ⟨d, h1, of_decide_eq_true h2⟩
  · have hb := List.all_eq_true.mp o3 d hd
    unfold fdB at hb
    split at hb
    · rename_i Fc hF
      simp only [Bool.and_eq_true, decide_eq_true_eq] at hb
      obtain ⟨⟨⟨⟨h1, h2⟩, h3⟩, h4⟩, h5⟩ := hb
      exact ⟨Fc, hF, by unfold Fdef.ps; rw [List.length_take]; omega, scope_ok h2, h3, h4, h5⟩
    · cases hb
theorem prg_bind (bd : All (Fdef.Bd p.T) p.D) {d : Fdef} (hd : d ∈ p.D) (hl : d.ps.length = d.np) {fd : FuncData} {f : Addr} (F : FunD K (p.T.nm d.g) (p.T.nm d.g) (defArgs d.st) (defBody d.st) (defScope d.st) [] [] f fd) : Binds K fd d.ps [] :=
  F.bindsN fun kV doc pm an cdv ct us hus => bd.mem hd kV doc pm an cdv ct us (by rw [hus, hl])
theorem prg_step (ok : p.okB = true) (X : K.In h) (G : h.Ns mainGlobals mg) (c : p.Says ts tf w h K) (base : Heap) {n : Nat} (ih : ∀ g, p.T.fns.contains g = true → CalE P w mg p.T.nm K base (callN p.FN (cnOf p.cons) p.W n) n g) {d : Fdef} (hd : d ∈ p.D) {f : Addr} {fd : FuncData} (F : FunD K (p.T.nm d.g) (p.T.nm d.g) (defArgs d.st) (defBody d.st) (defScope d.st) [] [] f fd) :
    FnOk P w K mg base (L2.CX P w) (n + 1) f fd d.ps (spF w mg p.T.nm K (callN p.FN (cnOf p.cons) p.W (n + 1)) d.g) := by
  obtain ⟨hfree, hexc, hcon, _, hD⟩ := prg_base ok X G c
  obtain ⟨Fc, hF, hl, S, h3, h4, h5⟩ := hD d hd
  refine fn_step F S hF (by rw [h3, hl]) h4 fun Xc Wx e1 e2 e3 e4 e5 e6 e7 e8 e9 e10 tk hp => ?_
  have C : Cxt p.T d.N (callN p.FN (cnOf p.cons) p.W n) n (cnOf p.cons) Xc (defScope d.st) fbT Wx := by
    refine ⟨⟨?_, ?_, ?_, ?_⟩, e7, S.nd, e8, e9, e6, e10, tk⟩
    · rw [e3]; exact hfree
    · rw [e2, e3, e4]; exact hcon
    · intro g hg; rw [e1, e2, e3, e4, e5]; exact ih g hg
    · rw [e3, e4]; exact hexc
  exact snd_B C (by rw [e8]; exact S.kind) hp Fc.body (defBody d.st) h5
theorem prg_ok (ok : p.okB = true) (bd : All (Fdef.Bd p.T) p.D) (X : K.In h) (G : h.Ns mainGlobals mg) (c : p.Says ts tf w h K) (base : Heap) : ∀ n g, p.T.fns.contains g = true → CalE P w mg p.T.nm K base (callN p.FN (cnOf p.cons) p.W n) n g := by
  obtain ⟨_, _, _, hg, hD⟩ := prg_base ok X G c
  intro n
  induction n with
  | zero =>
    intro g hg'
    obtain ⟨d, hd, rfl⟩ := hg g hg'
    obtain ⟨fd, F, hm⟩ := prg_def X G c hd
    obtain ⟨Fc, hF, hl, _⟩ := hD d hd
    exact ⟨_, fd, d.ps, fn_zero, hm, F.kp, prg_bind bd hd hl F⟩
  | succ n ih =>
    intro g hg'
    obtain ⟨d, hd, rfl⟩ := hg g hg'
    obtain ⟨fd, F, hm⟩ := prg_def X G c hd
    obtain ⟨Fc, hF, hl, _⟩ := hD d hd
    exact ⟨_, fd, d.ps, prg_step ok X G c base ih hd F, hm, F.kp, prg_bind bd hd hl F⟩
/-- whatever the world -/
def CXe (P : Program) : CXT := fun outer H s E e s' => ∃ w, L2.CX P w outer H s E e s'
theorem fn_cx {base : Heap} {k : Nat} {f : Addr} {fd : FuncData} {ps : List Str} {sp : Sp} (F : FnOk P w K mg base (L2.CX P w) k f fd ps sp) : FnOk P w K mg base (CXe P) k f fd ps sp :=
  ⟨F.len, fun A outer s H args us vs Q E h1 h2 h3 h4 h5 => codeAny_mono (F.run A outer s H args us vs Q E h1 h2 h3 h4 h5) fun r s' hq => by
    cases r with
    | error e => exact ⟨w, hq⟩
    | ok fl => cases fl <;> exact hq⟩
theorem cx_no {H : Hp} {s : Shared} {e : Value} {s' : Shared} (h : CXe P [] H s (fun _ _ _ => False) e s') : False := by
  obtain ⟨w, _, _, _, _, _, _, _, _, _, _, _, _, z⟩ := h
  exact z
/-! ### a law -/
abbrev Prg.hook (p : Prg) (n : Nat) (ts : List He.Tab) (tf : List He.Defn) : PySem.W.Hook := He.hookX n (faOf p.T p.D) (p.D.map (toDefD p.T)) ts tf (fun K => (conL p.T p.cons).all (conB K))
/-- what the law's core answers -/
def Prg.Yes (p : Prg) (lv g most : Nat) : Prop := ∀ (ps : List Ip.P) (q : Ip.P), (∃ ns : List Int, ps = ns.map .int ∧ ns.length ≤ most) → q = .scr ps → ∃ M, callN p.FN (cnOf p.cons) p.W lv g [.p q] [] = .ok (.p (.bl true)) M
theorem prg_law {l : PySem.W.OpenLaw} {n lv : Nat} {fa : Addr} {x : Str} {d : Fdef} (ok : p.okB = true) (bd : All (Fdef.Bd p.T) p.D) (hd : d ∈ p.D) (hg : p.T.fns.contains d.g = true) (hps : d.ps = [x]) (hnp : d.np = 1) (yes : p.Yes (lv + 1) d.g n)
    (X : K.In h) (G : h.Ns mainGlobals mg) (c : p.Says ts tf w h K) (hmg : mg (p.T.nm d.g) = some (.ref fa)) :
    ∃ (K : PySem.W.Frag) (fd : FuncData) (sp : Sp), K.In h ∧ (∀ (s : Shared) (u : Value), BindsTo s fd ⟨[u], []⟩ [(x, u)]) ∧
        (∀ (H : Hp) (a : Addr) (ns : List Int), ns.length ≤ n → Only H → SqL K H a (ns.map V.int) → sp [.ref a] H (fun v _ => v = .bl true) fun _ _ _ => False) ∧
        ∀ base : Heap, K.In base → base.Ns mainGlobals mg → FnOk l.prog w K mg base (CXe l.prog) (lv + 1) fa fd [x] sp := by
  obtain ⟨fd, F, hm⟩ := prg_def X G c hd
  rw [hm] at hmg
  cases hmg
  refine ⟨K, fd, spF w mg p.T.nm K (callN p.FN (cnOf p.cons) p.W (lv + 1)) d.g, X, fun s u => ?_, fun H a ns hl hO hS => ?_, fun base _ _ => ?_⟩
  · have := F.bindsA (ps := [x]) (fun kV doc pm an cdv ct us hus => by
      have q := bd.mem hd kV doc pm an cdv ct us (by rw [hnp]; exact hus)
      rw [hps] at q
      exact q) s [u] rfl
    exact this
  · have hs : SqS K H a (ns.map V.int) := by
      rcases hS with (h1 | h1) | h1
      · rcases hO a with z | ⟨o, xs, z⟩
        · rw [z] at h1; cases h1
        · rw [z] at h1; cases h1
      · exact .inl h1
      · exact .inr h1
    obtain ⟨M, e⟩ := yes (ns.map .int) _ ⟨ns, rfl, hl⟩ rfl
    refine ⟨[], fun _ => False, [.p (.scr (ns.map .int))], [], .cons (.scr hs (Rps.ofInts ns)) .nil, ⟨rfl, fun i a h => by simp at h, fun i o h => by simp at h, fun i j a h => by simp at h, fun a h => h.elim, fun a h => h.elim⟩, ?_⟩
    rw [e]
    intro v H' ι' _ r _
    cases r
    rfl
  · rw [← hps]
    exact fn_cx (prg_step ok X G c base (prg_ok ok bd X G c base lv) hd F)
end
end Ip

set_option Elab.async false
set_option linter.all false
set_option maxRecDepth 100000
namespace KG
open PySem Ip
def names : List Str := [(Str.ofString "_law_vat"), (Str.ofString "_law_machine"), (Str.ofString "_law_some"), (Str.ofString "_law_under"), (Str.ofString "_law_rung"), (Str.ofString "note_at"), (Str.ofString "heard"), (Str.ofString "_law_heard"), (Str.ofString "_law_first_right"), (Str.ofString "_law_known"), (Str.ofString "first_heard"), (Str.ofString "law"), (Str.ofString "need_both"), (Str.ofString "need_number"), (Str.ofString "rung_at"), (Str.ofString "common"), (Str.ofString "sums_of"), (Str.ofString "_law_common"), (Str.ofString "first_place"), (Str.ofString "need_machine"), (Str.ofString "is_whole"), (Str.ofString "InvalidNumber"), (Str.ofString "inverse"), (Str.ofString "is_good"), (Str.ofString "InvalidMachine"), (Str.ofString "is_pattern"), (Str.ofString "round_with"), (Str.ofString "note_of"), (Str.ofString "are_keys"), (Str.ofString "is_tick"), (Str.ofString "held_behind"), (Str.ofString "kept_behind"), (Str.ofString "taken"), (Str.ofString "step"), (Str.ofString "goes"), (Str.ofString "is_good_run"), (Str.ofString "InvalidRun"), (Str.ofString "need_run"), (Str.ofString "played"), (Str.ofString "cycle_of"), (Str.ofString "is_machine"), (Str.ofString "is_run"), (Str.ofString "notes"), (Str.ofString "InvalidHeld"), (Str.ofString "cycle"), (Str.ofString "_law_is_whole"), (Str.ofString "_law_truly"), (Str.ofString "_law_is_machine"), (Str.ofString "_law_are_keys"), (Str.ofString "_law_goes"), (Str.ofString "_law_run"), (Str.ofString "_law_spoilt"), (Str.ofString "_law_bad_machines"), (Str.ofString "_law_bad_runs"), (Str.ofString "_law_turn"), (Str.ofString "_law_ladder"), (Str.ofString "_law_cycle"), (Str.ofString "_law_after"), (Str.ofString "_law_play"), (Str.ofString "_law_written"), (Str.ofString "_law_written"), (Str.ofString "InvalidKeys"), (Str.ofString "need_keys"), (Str.ofString "InvalidKey"), (Str.ofString "need_key"), (Str.ofString "lots_of"), (Str.ofString "ticks_of"), (Str.ofString "common_round"), (Str.ofString "folded"), (Str.ofString "next_state"), (Str.ofString "unheard_ways"), (Str.ofString "unheard_graph"), (Str.ofString "waits_in"), (Str.ofString "beginnings"), (Str.ofString "greatest_wait"), (Str.ofString "_law_lots"), (Str.ofString "_law_ticks"), (Str.ofString "_law_fold"), (Str.ofString "_law_states"), (Str.ofString "_law_firsts"), (Str.ofString "is_part"), (Str.ofString "led"), (Str.ofString "is_unheard"), (Str.ofString "InvalidStarving"), (Str.ofString "starves"), (Str.ofString "_law_is_part"), (Str.ofString "_law_is_shape"), (Str.ofString "_law_starves"), (Str.ofString "_law_drawn"), (Str.ofString "is_met"), (Str.ofString "need_all"), (Str.ofString "parting_run"), (Str.ofString "alike"), (Str.ofString "parting"), (Str.ofString "_law_near"), (Str.ofString "is_note"), (Str.ofString "word_machines"), (Str.ofString "orders_of"), (Str.ofString "InvalidHeard"), (Str.ofString "machines_told"), (Str.ofString "held_told"), (Str.ofString "_law_words"), (Str.ofString "_law_orders"), (Str.ofString "_law_begins"), (Str.ofString "_law_written"), (Str.ofString "whole_in"), (Str.ofString "machine_in"), (Str.ofString "text_of"), (Str.ofString "machine_text"), (Str.ofString "_law_a_tick"), (Str.ofString "_law_later"), (Str.ofString "_law_steady_right"), (Str.ofString "_law_runs_right"), (Str.ofString "_law_waits_right"), (Str.ofString "law"), (Str.ofString "_law_written"), (Str.ofString "law")]
def cons : List (Str × Ip.P) := [((Str.ofString "FAR"), (.int (1000000000000000000000000000000))), ((Str.ofString "MOST_OCTAVES"), (.int (2))), ((Str.ofString "CHANGES"), (.tup [(.str (Str.ofString "restart")), (.str (Str.ofString "stay")), (.str (Str.ofString "wait"))])), ((Str.ofString "WORDS"), (.tup [(.str (Str.ofString "bounce")), (.str (Str.ofString "down")), (.str (Str.ofString "pressed")), (.str (Str.ofString "twice")), (.str (Str.ofString "up"))])), ((Str.ofString "MOST_STEPS"), (.int (4))), ((Str.ofString "WIDEST"), (.int (3))), ((Str.ofString "LONGEST"), (.int (40))), ((Str.ofString "HIGHEST"), (.int (7))), ((Str.ofString "SILENT"), (.tup [(.tup []), (.tup []), (.tup []), (.int (0))])), ((Str.ofString "MOST_KEYS"), (.int (3))), ((Str.ofString "LONGEST_PART"), (.int (60))), ((Str.ofString "MOST_HEARD"), (.int (12)))]
/-- _law_vat -/
def F__law_vat : Fn := { np := 2, ns := 3, keep := true, body := [
  .set (.nm 2) (.bin false .add (.bin false .mul (.cst (.int (7919))) (.var 1)) (.cst (.int (43)))),
  .ife (.cmp .lt (.var 1) (.blt false .len [(.var 0)])) [.set (.nm 2) (.blt false .abs [(.blt false .int [(.idx (.var 0) (.var 1))])])] [],
  .ret (.lst true [(.ife (.cmp .ge (.var 2) (.bin false .pow (.cst (.int (10))) (.cst (.int (18))))) (.var 2) (.cst (.int (0)))), (.bin false .add (.bin false .mod (.blt false .int [(.bin false .add (.bin false .add (.bin false .mul (.var 2) (.cst (.int (131071)))) (.bin false .mul (.cst (.int (8191))) (.var 1))) (.cst (.int (5))))]) (.cst (.int (2147483629)))) (.cst (.int (1))))])] }
/-- _law_machine -/
def F__law_machine : Fn := { np := 1, ns := 4, keep := false, body := [
  .set (.nm 1) (.call true 2 [(.var 0), (.lst false [(.cst (.str (Str.ofString "bounce"))), (.cst (.str (Str.ofString "down"))), (.cst (.str (Str.ofString "pressed"))), (.cst (.str (Str.ofString "twice"))), (.cst (.str (Str.ofString "up"))), (.cst (.str (Str.ofString ""))), (.cst (.str (Str.ofString "")))])]),
  .ife (.cmp .eq (.var 1) (.cst (.str (Str.ofString "")))) [.set (.nm 1) (.blt false .tuple [(.comp false (.bin false .sub (.call true 3 [(.var 0), (.cst (.int (7)))]) (.cst (.int (3)))) (.nm 3) (.rng none (.bin false .add (.cst (.int (1))) (.call true 3 [(.var 0), (.cst (.int (4)))]))) none [3])])] [],
  .set (.nm 2) (.call true 2 [(.var 0), (.lst false [(.cst (.str (Str.ofString "restart"))), (.cst (.str (Str.ofString "stay"))), (.cst (.str (Str.ofString "wait")))])]),
  .ret (.tup [(.var 1), (.bin false .add (.cst (.int (1))) (.call true 3 [(.var 0), (.cst (.int (2)))])), (.var 2), (.cmp .eq (.call true 3 [(.var 0), (.cst (.int (2)))]) (.cst (.int (0))))])] }
/-- _law_some -/
def F__law_some : Fn := { np := 2, ns := 2, keep := false, body := [
  .ret (.idx (.var 1) (.call true 3 [(.var 0), (.blt false .len [(.var 1)])]))] }
/-- _law_under -/
def F__law_under : Fn := { np := 2, ns := 4, keep := false, body := [
  .ife (.cmp .gt (.idx (.var 0) (.cst (.int (0)))) (.cst (.int (0)))) [.set (.nm 3) (.bin false .mod (.blt false .int [(.idx (.var 0) (.cst (.int (0))))]) (.var 1)), .sub (.var 0) (.cst (.int (0))) (.bin false .fdiv (.idx (.var 0) (.cst (.int (0)))) (.var 1)), .ret (.var 3)] [],
  .sub (.var 0) (.cst (.int (1))) (.bin false .mod (.blt false .int [(.bin false .add (.bin false .mul (.idx (.var 0) (.cst (.int (1)))) (.cst (.int (39373)))) (.cst (.int (101))))]) (.cst (.int (2147483629)))),
  .set (.nm 2) (.bin false .mod (.blt false .int [(.bin false .mul (.idx (.var 0) (.cst (.int (1)))) (.bin false .add (.bin false .fdiv (.idx (.var 0) (.cst (.int (1)))) (.cst (.int (5)))) (.cst (.int (9)))))]) (.cst (.int (2147483587)))),
  .ret (.bin false .mod (.blt false .int [(.bin false .fdiv (.var 2) (.cst (.int (32))))]) (.var 1))] }
/-- _law_rung -/
def F__law_rung : Fn := { np := 3, ns := 6, keep := false, body := [
  .ife (.isi (.var 0) .tup) [.par 5 4 (.bin false .fdiv (.var 2) (.blt false .len [(.var 0)])) (.bin false .mod (.var 2) (.blt false .len [(.var 0)])), .ret (.bin false .mod (.bin false .add (.bin false .mul (.var 5) (.blt false .sum [(.var 0)])) (.blt false .sum [(.slc (.var 0) none (some (.var 4)))])) (.var 1))] [],
  .ife (.cmp .eq (.var 0) (.cst (.str (Str.ofString "down")))) [.ret (.bin false .mod (.bin false .sub (.bin false .sub (.cst (.int (0))) (.cst (.int (1)))) (.var 2)) (.var 1))] [],
  .ife (.cmp .isin (.var 0) (.lst false [(.cst (.str (Str.ofString "up"))), (.cst (.str (Str.ofString "pressed")))])) [.ret (.bin false .mod (.var 2) (.var 1))] [],
  .set (.nm 3) (.ife (.cmp .eq (.var 0) (.cst (.str (Str.ofString "bounce")))) (.bin false .sub (.bin false .mul (.cst (.int (2))) (.var 1)) (.cst (.int (2)))) (.bin false .mul (.cst (.int (2))) (.var 1))),
  .set (.nm 4) (.bin false .mod (.var 2) (.var 3)),
  .ret (.blt false .min [(.var 4), (.bin false .sub (.ife (.cmp .eq (.var 0) (.cst (.str (Str.ofString "bounce")))) (.var 3) (.bin false .sub (.var 3) (.cst (.int (1))))) (.var 4))])] }
/-- note_at -/
def F_note_at : Fn := { np := 3, ns := 4, keep := false, body := [
  .expr (.call false 12 [(.var 0), (.var 1)]),
  .expr (.call false 13 [(.var 2), (.cst (.int (0))), (.con 0)]),
  .set (.nm 3) (.call false 14 [(.idx (.var 0) (.cst (.int (0)))), (.bin false .mul (.var 1) (.idx (.var 0) (.cst (.int (1))))), (.var 2)]),
  .ret (.tup [(.bin false .mod (.var 3) (.var 1)), (.bin false .fdiv (.var 3) (.var 1))])] }
/-- heard -/
def F_heard : Fn := { np := 2, ns := 11, keep := false, body := [
  .expr (.call false 12 [(.var 0), (.var 1)]),
  .par 4 5 (.idx (.var 0) (.cst (.int (0)))) (.bin false .mul (.var 1) (.idx (.var 0) (.cst (.int (1))))),
  .ife (.isi (.var 4) .str) [.ret (.var 1)] [],
  .set (.tp [(.nm 6), (.nm 7)]) (.tup [(.call false 15 [(.blt false .sum [(.var 4)]), (.var 5)]), (.cst (.int (0)))]),
  .set (.nm 2) (.comp2 false (.bin false .sub (.var 8) (.bin false .mul (.var 9) (.var 1))) (.nm 8) (.seq (.call false 16 [(.var 4)])) (.nm 9) (.rng none (.idx (.var 0) (.cst (.int (1))))) none [8, 9] [9]),
  .for_ (.nm 3) (.seq (.blt false .sorted [(.blt false .set [(.comp false (.bin false .mod (.var 10) (.var 6)) (.nm 10) (.seq (.var 2)) none [10])])])) [.set (.nm 7) (.bin false .add (.var 7) (.ife (.cmp .lt (.var 3) (.var 1)) (.bin false .add (.bin false .fdiv (.bin false .sub (.bin false .sub (.var 1) (.cst (.int (1)))) (.var 3)) (.var 6)) (.cst (.int (1)))) (.cst (.int (0)))))],
  .ret (.var 7)] }
/-- _law_heard -/
def F__law_heard : Fn := { np := 2, ns := 7, keep := false, body := [
  .ife (.isi (.idx (.var 0) (.cst (.int (0)))) .str) [.ret (.var 1)] [],
  .parT [3, 4] [(.call false 17 [(.blt false .sum [(.idx (.var 0) (.cst (.int (0))))]), (.bin false .mul (.var 1) (.idx (.var 0) (.cst (.int (1)))))]), (.lst true [])],
  .for_ (.nm 2) (.rng none (.blt false .len [(.idx (.var 0) (.cst (.int (0))))])) [.for_ (.nm 5) (.rng none (.idx (.var 0) (.cst (.int (1))))) [.app (.var 4) (.bin false .mod (.bin false .sub (.blt false .sum [(.slc (.idx (.var 0) (.cst (.int (0)))) none (some (.var 2)))]) (.bin false .mul (.var 5) (.var 1))) (.var 3))]],
  .ret (.blt false .sum [(.comp false (.bin false .fdiv (.bin false .sub (.bin false .add (.bin false .sub (.var 1) (.var 6)) (.var 3)) (.cst (.int (1)))) (.var 3)) (.nm 6) (.seq (.blt false .sorted [(.blt false .set [(.var 4)])])) (some (.cmp .lt (.var 6) (.var 1))) [6])])] }
/-- _law_first_right -/
def F__law_first_right : Fn := { np := 3, ns := 15, keep := false, body := [
  .par3 6 7 8 (.call false 10 [(.var 0), (.var 1), (.var 2)]) (.idx (.var 0) (.cst (.int (0)))) (.bin false .mul (.var 1) (.idx (.var 0) (.cst (.int (1))))),
  .ife (.isi (.var 7) .str) [.ret (.cmp .eq (.var 6) (.ife (.cmp .eq (.var 7) (.cst (.str (Str.ofString "down")))) (.bin false .sub (.bin false .sub (.var 1) (.cst (.int (1)))) (.var 2)) (.var 2)))] [],
  .par 9 10 (.blt false .sum [(.var 7)]) (.blt false .len [(.var 7)]),
  .set (.nm 3) (.call false 17 [(.var 9), (.var 8)]),
  .set (.nm 4) (.lst true []),
  .for_ (.nm 5) (.rng none (.var 10)) [.for_ (.nm 11) (.rng none (.idx (.var 0) (.cst (.int (1))))) [.ife (.cmp .eq (.bin false .mod (.bin false .sub (.bin false .add (.var 2) (.bin false .mul (.var 11) (.var 1))) (.blt false .sum [(.slc (.var 7) none (some (.var 5)))])) (.var 3)) (.cst (.int (0)))) [.app (.var 4) (.tup [(.var 5), (.bin false .sub (.bin false .add (.var 2) (.bin false .mul (.var 11) (.var 1))) (.blt false .sum [(.slc (.var 7) none (some (.var 5)))]))])] []]],
  .ife (.or (.cmp .eq (.var 4) (.lst false [])) (.cmp .is (.var 6) (.cst .non))) [.ret (.and (.cmp .eq (.var 4) (.lst false [])) (.cmp .is (.var 6) (.cst .non)))] [],
  .ife (.or (.cmp .lt (.var 6) (.cst (.int (0)))) (.or (.cmp .ne (.bin false .mod (.call false 4 [(.var 7), (.var 8), (.var 6)]) (.var 1)) (.var 2)) (.cmp .ge (.var 6) (.bin false .mul (.var 10) (.bin false .fdiv (.var 8) (.var 3)))))) [.ret (.cst (.bl false))] [],
  .for_ (.tp [(.nm 5), (.nm 12)]) (.seq (.frz (.var 4))) [.for_ (.nm 13) (.rng none (.blt false .abs [(.var 9)])) [.ife (.or (.and (.cmp .ne (.var 9) (.cst (.int (0)))) (.cmp .eq (.bin false .mod (.bin false .add (.var 12) (.bin false .mul (.var 13) (.var 8))) (.blt false .abs [(.var 9)])) (.cst (.int (0))))) (.cmp .eq (.bin false .mod (.var 12) (.var 8)) (.cst (.int (0))))) [.set (.nm 14) (.ife (.cmp .gt (.var 9) (.cst (.int (0)))) (.bin false .fdiv (.bin false .add (.var 12) (.bin false .mul (.var 13) (.var 8))) (.var 9)) (.cst (.int (0)))), .ife (.cmp .eq (.bin false .mod (.var 12) (.var 8)) (.cst (.int (0)))) [.set (.nm 14) (.cst (.int (0)))] [], .ife (.and (.cmp .ge (.var 9) (.cst (.int (0)))) (.and (.cmp .ge (.var 14) (.cst (.int (0)))) (.cmp .lt (.bin false .add (.bin false .mul (.var 14) (.var 10)) (.var 5)) (.var 6)))) [.ret (.cst (.bl false))] []] []]],
  .ret (.cst (.bl true))] }
/-- _law_known -/
def F__law_known : Fn := { np := 0, ns := 1, keep := false, body := [
  .set (.nm 0) (.lst false [(.tup [(.cst (.str (Str.ofString "up"))), (.cst (.int (1))), (.cst (.str (Str.ofString "restart"))), (.cst (.bl false))]), (.tup [(.cst (.str (Str.ofString "up"))), (.cst (.int (1))), (.cst (.str (Str.ofString "stay"))), (.cst (.bl false))]), (.tup [(.cst (.str (Str.ofString "bounce"))), (.cst (.int (1))), (.cst (.str (Str.ofString "wait"))), (.cst (.bl false))])]),
  .ret (.bin false .add (.var 0) (.lst false [(.tup [(.tup [(.cst (.int (1))), (.cst (.int (2)))]), (.cst (.int (1))), (.cst (.str (Str.ofString "restart"))), (.cst (.bl false))]), (.tup [(.cst (.str (Str.ofString "pressed"))), (.cst (.int (2))), (.cst (.str (Str.ofString "restart"))), (.cst (.bl true))])]))] }
/-- first_heard -/
def F_first_heard : Fn := { np := 3, ns := 8, keep := false, body := [
  .expr (.call false 12 [(.var 0), (.var 1)]),
  .expr (.call false 13 [(.var 2), (.cst (.int (0))), (.bin false .sub (.var 1) (.cst (.int (1))))]),
  .set (.tp [(.nm 4), (.nm 5)]) (.tup [(.idx (.var 0) (.cst (.int (0)))), (.idx (.var 0) (.cst (.int (1))))]),
  .ife (.cmp .eq (.var 4) (.cst (.str (Str.ofString "down")))) [.ret (.bin false .sub (.bin false .sub (.var 1) (.cst (.int (1)))) (.var 2))] [],
  .ife (.isi (.var 4) .str) [.ret (.var 2)] [],
  .set (.nm 3) (.comp false (.call false 18 [(.var 4), (.bin false .mul (.var 1) (.var 5)), (.bin false .add (.var 2) (.bin false .mul (.var 6) (.var 1)))]) (.nm 6) (.rng none (.var 5)) none [6]),
  .set (.nm 3) (.comp false (.var 7) (.nm 7) (.seq (.var 3)) (some (.cmp .isn (.var 7) (.cst .non))) [7]),
  .ret (.ife (.cmp .ne (.var 3) (.lst false [])) (.blt false .min [(.var 3)]) (.cst .non))] }
/-- law@k04 -/
def F_law_k04 : Fn := { np := 1, ns := 11, keep := false, body := [
  .for_ (.nm 1) (.rng none (.blt false .max [(.cst (.int (6))), (.blt false .min [(.cst (.int (13))), (.blt false .len [(.var 0)])])])) [.set (.nm 2) (.call true 0 [(.var 0), (.var 1)]), .for_ (.nm 3) (.rng none (.cst (.int (4)))) [.set (.nm 6) (.call true 1 [(.var 2)]), .set (.nm 7) (.call true 2 [(.var 2), (.lst false [(.bin false .sub (.bin false .pow (.cst (.int (10))) (.cst (.int (30)))) (.call true 3 [(.var 2), (.cst (.int (999)))])), (.bin false .add (.bin false .pow (.cst (.int (10))) (.cst (.int (29)))) (.call true 3 [(.var 2), (.cst (.int (99999)))])), (.bin false .mul (.cst (.int (2520))) (.bin false .pow (.cst (.int (10))) (.cst (.int (20)))))])]), .for_ (.nm 8) (.seq (.lst false [(.call true 3 [(.var 2), (.cst (.int (99)))]), (.bin false .sub (.var 7) (.cst (.int (1)))), (.bin false .add (.var 7) (.call true 3 [(.var 2), (.cst (.int (9)))])), (.bin false .sub (.bin false .pow (.cst (.int (10))) (.cst (.int (30)))) (.call true 3 [(.var 2), (.cst (.int (99)))]))])) [.set (.nm 8) (.blt false .min [(.var 8), (.bin false .pow (.cst (.int (10))) (.cst (.int (30))))]), .set (.nm 10) (.call false 4 [(.idx (.var 6) (.cst (.int (0)))), (.bin false .mul (.var 7) (.idx (.var 6) (.cst (.int (1))))), (.var 8)]), .ife (.cmp .ne (.call false 5 [(.var 6), (.var 7), (.var 8)]) (.tup [(.bin false .mod (.var 10) (.var 7)), (.bin false .fdiv (.var 10) (.var 7))])) [.ret (.cst (.bl false))] []], .ife (.cmp .ne (.call false 6 [(.var 6), (.var 7)]) (.call false 7 [(.var 6), (.var 7)])) [.ret (.cst (.bl false))] [], .for_ (.nm 9) (.seq (.lst false [(.call true 3 [(.var 2), (.cst (.int (12)))]), (.bin false .sub (.bin false .sub (.var 7) (.cst (.int (1)))) (.call true 3 [(.var 2), (.cst (.int (12)))])), (.bin false .add (.bin false .fdiv (.var 7) (.cst (.int (2)))) (.call true 3 [(.var 2), (.cst (.int (9)))]))])) [.ife (.not (.call false 8 [(.var 6), (.var 7), (.var 9)])) [.ret (.cst (.bl false))] []]]],
  .par 4 5 (.bin false .pow (.cst (.int (10))) (.cst (.int (30)))) (.idx (.call false 9 []) (.cst (.int (3)))),
  .ife (.or (.cmp .ne (.call false 5 [(.var 5), (.var 4), (.cst (.int (5)))]) (.tup [(.cst (.int (7))), (.cst (.int (0)))])) (.or (.cmp .ne (.call false 6 [(.idx (.call false 9 []) (.cst (.int (0)))), (.var 4)]) (.var 4)) (.cmp .ne (.call false 6 [(.tup [(.tup [(.cst (.int (2))), (.cst (.int (2)))]), (.cst (.int (1))), (.cst (.str (Str.ofString "stay"))), (.cst (.bl false))]), (.var 4)]) (.bin false .mul (.cst (.int (5))) (.bin false .pow (.cst (.int (10))) (.cst (.int (29)))))))) [.ret (.cst (.bl false))] [],
  .ife (.or (.cmp .ne (.call false 10 [(.idx (.call false 9 []) (.cst (.int (0)))), (.var 4), (.cst (.int (7)))]) (.cst (.int (7)))) (.cmp .ne (.call false 10 [(.var 5), (.var 4), (.bin false .sub (.var 4) (.cst (.int (1))))]) (.bin false .fdiv (.bin false .mul (.cst (.int (2))) (.bin false .sub (.var 4) (.cst (.int (1))))) (.cst (.int (3)))))) [.ret (.cst (.bl false))] [],
  .ret (.and (.cmp .eq (.call false 10 [(.tup [(.tup [(.neg (.cst (.int (1))))]), (.cst (.int (1))), (.cst (.str (Str.ofString "stay"))), (.cst (.bl false))]), (.var 4), (.cst (.int (1)))]) (.bin false .sub (.var 4) (.cst (.int (1))))) (.cmp .eq (.call false 10 [(.tup [(.tup [(.cst (.int (3)))]), (.cst (.int (1))), (.cst (.str (Str.ofString "stay"))), (.cst (.bl false))]), (.var 4), (.cst (.int (2)))]) (.bin false .fdiv (.bin false .add (.var 4) (.cst (.int (2)))) (.cst (.int (3))))))] }
/-- need_both -/
def F_need_both : Fn := { np := 2, ns := 2, keep := false, body := [
  .expr (.call false 19 [(.var 0)]),
  .expr (.call false 13 [(.var 1), (.cst (.int (1))), (.con 0)])] }
/-- need_number -/
def F_need_number : Fn := { np := 3, ns := 3, keep := false, body := [
  .ife (.not (.call false 20 [(.var 0), (.var 1), (.var 2)])) [.rais 21 (.cst (.str (Str.ofString "not a number as it is wanted")))] []] }
/-- rung_at -/
def F_rung_at : Fn := { np := 3, ns := 5, keep := false, body := [
  .ife (.cmp .eq (.var 0) (.cst (.str (Str.ofString "down")))) [.ret (.bin false .sub (.bin false .sub (.var 1) (.cst (.int (1)))) (.bin false .mod (.var 2) (.var 1)))] [],
  .ife (.cmp .eq (.var 0) (.cst (.str (Str.ofString "bounce")))) [.set (.nm 3) (.bin false .mod (.var 2) (.blt false .max [(.cst (.int (1))), (.bin false .sub (.bin false .mul (.cst (.int (2))) (.var 1)) (.cst (.int (2))))])), .ret (.ife (.cmp .lt (.var 3) (.var 1)) (.var 3) (.bin false .sub (.bin false .sub (.bin false .mul (.cst (.int (2))) (.var 1)) (.cst (.int (2)))) (.var 3)))] [],
  .ife (.cmp .eq (.var 0) (.cst (.str (Str.ofString "twice")))) [.set (.nm 3) (.bin false .mod (.var 2) (.bin false .mul (.cst (.int (2))) (.var 1))), .ret (.ife (.cmp .lt (.var 3) (.var 1)) (.var 3) (.bin false .sub (.bin false .sub (.bin false .mul (.cst (.int (2))) (.var 1)) (.cst (.int (1)))) (.var 3)))] [],
  .ife (.isi (.var 0) .str) [.ret (.bin false .mod (.var 2) (.var 1))] [],
  .par 4 3 (.bin false .fdiv (.var 2) (.blt false .len [(.var 0)])) (.bin false .mod (.var 2) (.blt false .len [(.var 0)])),
  .ret (.bin false .mod (.bin false .add (.bin false .mul (.var 4) (.blt false .sum [(.var 0)])) (.blt false .sum [(.slc (.var 0) none (some (.var 3)))])) (.var 1))] }
/-- common -/
def F_common : Fn := { np := 2, ns := 2, keep := false, body := [
  .whl (.cmp .ne (.var 1) (.cst (.int (0)))) [.par 0 1 (.var 1) (.bin false .mod (.var 0) (.var 1))],
  .ret (.blt false .abs [(.var 0)])] }
/-- sums_of -/
def F_sums_of : Fn := { np := 1, ns := 2, keep := false, body := [
  .ret (.comp false (.blt false .sum [(.slc (.var 0) none (some (.var 1)))]) (.nm 1) (.rng none (.blt false .len [(.var 0)])) none [1])] }
/-- _law_common -/
def F__law_common : Fn := { np := 2, ns := 2, keep := false, body := [
  .whl (.cmp .ne (.var 1) (.cst (.int (0)))) [.par 0 1 (.var 1) (.bin false .mod (.var 0) (.var 1))],
  .ret (.blt false .abs [(.var 0)])] }
/-- first_place -/
def F_first_place : Fn := { np := 3, ns := 10, keep := false, body := [
  .par 4 5 (.blt false .sum [(.var 0)]) (.lst true []),
  .set (.nm 3) (.call false 15 [(.var 4), (.var 1)]),
  .for_ (.tp [(.nm 6), (.nm 7)]) (.enum (.call false 16 [(.var 0)])) [.ife (.cmp .eq (.bin false .mod (.bin false .sub (.var 2) (.var 7)) (.var 3)) (.cst (.int (0)))) [.set (.nm 8) (.bin false .fdiv (.var 1) (.var 3)), .set (.nm 9) (.ife (.cmp .gt (.var 8) (.cst (.int (1)))) (.bin false .mod (.bin false .mul (.bin false .fdiv (.bin false .sub (.var 2) (.var 7)) (.var 3)) (.call false 22 [(.bin false .fdiv (.var 4) (.var 3)), (.var 8)])) (.var 8)) (.cst (.int (0)))), .app (.var 5) (.bin false .add (.bin false .mul (.var 9) (.blt false .len [(.var 0)])) (.var 6))] []],
  .ret (.ife (.cmp .ne (.var 5) (.lst false [])) (.blt false .min [(.var 5)]) (.cst .non))] }
/-- need_machine -/
def F_need_machine : Fn := { np := 1, ns := 1, keep := false, body := [
  .ife (.not (.call false 23 [(.var 0)])) [.rais 24 (.cst (.str (Str.ofString "not a machine")))] []] }
/-- is_whole -/
def F_is_whole : Fn := { np := 3, ns := 3, keep := false, body := [
  .ret (.and (.isi (.var 0) .int) (.and (.not (.isi (.var 0) .bool)) (.cmp2 .le .le (.var 1) (.var 0) (.var 2))))] }
/-- inverse -/
def F_inverse : Fn := { np := 2, ns := 7, keep := false, body := [
  .set (.tp [(.nm 2), (.nm 3), (.nm 4), (.nm 5)]) (.tup [(.bin false .mod (.var 0) (.var 1)), (.var 1), (.cst (.int (1))), (.cst (.int (0)))]),
  .whl (.cmp .gt (.var 2) (.cst (.int (1)))) [.set (.nm 6) (.bin false .fdiv (.var 3) (.var 2)), .set (.tp [(.nm 2), (.nm 3), (.nm 4), (.nm 5)]) (.tup [(.bin false .sub (.var 3) (.bin false .mul (.var 6) (.var 2))), (.var 2), (.bin false .sub (.var 5) (.bin false .mul (.var 6) (.var 4))), (.var 4)])],
  .ret (.bin false .mod (.var 4) (.var 1))] }
/-- is_good -/
def F_is_good : Fn := { np := 1, ns := 5, keep := false, body := [
  .ife (.or (.not (.isi (.var 0) .tup)) (.cmp .ne (.blt false .len [(.var 0)]) (.cst (.int (4))))) [.ret (.cst (.bl false))] [],
  .set (.tp [(.nm 1), (.nm 2), (.nm 3), (.nm 4)]) (.var 0),
  .ife (.or (.not (.call false 25 [(.var 1)])) (.or (.not (.call false 20 [(.var 2), (.cst (.int (1))), (.con 1)])) (.not (.isi (.var 4) .bool)))) [.ret (.cst (.bl false))] [],
  .ret (.and (.isi (.var 3) .str) (.cmp .isin (.var 3) (.con 2)))] }
/-- is_pattern -/
def F_is_pattern : Fn := { np := 1, ns := 2, keep := false, body := [
  .ife (.isi (.var 0) .str) [.ret (.cmp .isin (.var 0) (.con 3))] [],
  .ife (.or (.not (.isi (.var 0) .tup)) (.not (.cmp2 .le .le (.cst (.int (1))) (.blt false .len [(.var 0)]) (.con 4)))) [.ret (.cst (.bl false))] [],
  .ret (.blt false .all [(.comp false (.call false 20 [(.var 1), (.neg (.con 5)), (.con 5)]) (.nm 1) (.seq (.var 0)) none [1])])] }
/-- round_with -/
def F_round_with : Fn := { np := 2, ns := 4, keep := false, body := [
  .par 2 3 (.idx (.var 0) (.cst (.int (0)))) (.bin false .mul (.var 1) (.idx (.var 0) (.cst (.int (1))))),
  .ife (.cmp .eq (.var 2) (.cst (.str (Str.ofString "bounce")))) [.ret (.blt false .max [(.cst (.int (1))), (.bin false .sub (.bin false .mul (.cst (.int (2))) (.var 3)) (.cst (.int (2))))])] [],
  .ife (.cmp .eq (.var 2) (.cst (.str (Str.ofString "twice")))) [.ret (.bin false .mul (.cst (.int (2))) (.var 3))] [],
  .ret (.ife (.isi (.var 2) .str) (.var 3) (.bin false .mul (.var 3) (.blt false .len [(.var 2)])))] }
/-- note_of -/
def F_note_of : Fn := { np := 3, ns := 5, keep := false, body := [
  .set (.nm 3) (.call false 14 [(.idx (.var 0) (.cst (.int (0)))), (.bin false .mul (.blt false .len [(.var 1)]) (.idx (.var 0) (.cst (.int (1))))), (.var 2)]),
  .set (.nm 4) (.ife (.cmp .eq (.idx (.var 0) (.cst (.int (0)))) (.cst (.str (Str.ofString "pressed")))) (.var 1) (.blt false .tuple [(.blt false .sorted [(.var 1)])])),
  .ret (.tup [(.idx (.var 4) (.bin false .mod (.var 3) (.blt false .len [(.var 1)]))), (.bin false .fdiv (.var 3) (.blt false .len [(.var 1)]))])] }
/-- are_keys -/
def F_are_keys : Fn := { np := 2, ns := 5, keep := false, body := [
  .ife (.or (.not (.isi (.var 0) .tup)) (.not (.blt false .all [(.comp false (.call false 20 [(.var 4), (.cst (.int (0))), (.var 1)]) (.nm 4) (.seq (.var 0)) none [4])]))) [.ret (.cst (.bl false))] [],
  .ret (.blt false .all [(.comp false (.cmp .lt (.var 2) (.var 3)) (.tp [(.nm 2), (.nm 3)]) (.zip (.var 0) (.slc (.var 0) (some (.cst (.int (1)))) none)) none [2, 3])])] }
/-- is_tick -/
def F_is_tick : Fn := { np := 3, ns := 7, keep := false, body := [
  .ife (.or (.not (.isi (.var 1) .tup)) (.or (.cmp .ne (.blt false .len [(.var 1)]) (.cst (.int (2)))) (.not (.blt false .all [(.comp false (.call false 28 [(.var 6), (.var 2)]) (.nm 6) (.seq (.var 1)) none [6])])))) [.ret (.cst (.bl false))] [],
  .set (.tp [(.nm 3), (.nm 4)]) (.var 1),
  .ife (.not (.blt false .all [(.comp false (.cmp .isin (.var 5) (.var 0)) (.nm 5) (.seq (.var 3)) none [5])])) [.ret (.cst (.bl false))] [],
  .ret (.blt false .all [(.comp false (.or (.cmp .nin (.var 5) (.var 0)) (.cmp .isin (.var 5) (.var 3))) (.nm 5) (.seq (.var 4)) none [5])])] }
/-- held_behind -/
def F_held_behind : Fn := { np := 2, ns := 3, keep := false, body := [
  .ret (.bin false .add (.blt false .tuple [(.comp false (.var 2) (.nm 2) (.seq (.var 0)) (some (.cmp .nin (.var 2) (.idx (.var 1) (.cst (.int (0)))))) [2])]) (.idx (.var 1) (.cst (.int (1)))))] }
/-- kept_behind -/
def F_kept_behind : Fn := { np := 3, ns := 6, keep := false, body := [
  .set (.tp [(.nm 3), (.nm 4)]) (.tup [(.idx (.var 1) (.cst (.int (0)))), (.idx (.var 1) (.cst (.int (1))))]),
  .ife (.not (.idx (.var 0) (.cst (.int (3))))) [.ret (.call false 30 [(.var 3), (.var 2)])] [],
  .ife (.and (.cmp .ne (.idx (.var 2) (.cst (.int (1)))) (.tup [])) (.blt false .all [(.comp false (.cmp .isin (.var 5) (.idx (.var 2) (.cst (.int (0))))) (.nm 5) (.seq (.var 3)) none [5])])) [.set (.nm 4) (.tup [])] [],
  .ret (.bin false .add (.var 4) (.blt false .tuple [(.comp false (.var 5) (.nm 5) (.seq (.idx (.var 2) (.cst (.int (1))))) (some (.cmp .nin (.var 5) (.var 4))) [5])]))] }
/-- taken -/
def F_taken : Fn := { np := 3, ns := 5, keep := false, body := [
  .par 3 4 (.idx (.var 1) (.cst (.int (2)))) (.idx (.var 1) (.cst (.int (3)))),
  .ife (.cmp .eq (.var 3) (.tup [])) [.ret (.tup [(.var 2), (.cst (.int (0)))])] [],
  .ife (.or (.cmp .eq (.var 2) (.var 3)) (.and (.cmp .eq (.idx (.var 0) (.cst (.int (2)))) (.cst (.str (Str.ofString "wait")))) (.cmp .ne (.bin false .mod (.var 4) (.call false 26 [(.var 0), (.blt false .len [(.var 3)])])) (.cst (.int (0)))))) [.ret (.tup [(.var 3), (.var 4)])] [],
  .ret (.tup [(.var 2), (.ife (.cmp .eq (.idx (.var 0) (.cst (.int (2)))) (.cst (.str (Str.ofString "stay")))) (.var 4) (.cst (.int (0))))])] }
/-- step -/
def F_step : Fn := { np := 3, ns := 6, keep := false, body := [
  .set (.nm 3) (.call false 31 [(.var 0), (.var 1), (.var 2)]),
  .set (.tp [(.nm 4), (.nm 5)]) (.call false 32 [(.var 0), (.var 1), (.var 3)]),
  .ife (.cmp .eq (.var 4) (.tup [])) [.ret (.tup [(.tup [(.call false 30 [(.idx (.var 1) (.cst (.int (0)))), (.var 2)]), (.var 3), (.tup []), (.cst (.int (0)))]), (.cst .non)])] [],
  .ret (.tup [(.tup [(.call false 30 [(.idx (.var 1) (.cst (.int (0)))), (.var 2)]), (.var 3), (.var 4), (.bin false .add (.var 5) (.cst (.int (1))))]), (.call false 27 [(.var 0), (.var 4), (.var 5)])])] }
/-- goes -/
def F_goes : Fn := { np := 3, ns := 4, keep := false, body := [
  .for_ (.nm 3) (.seq (.var 1)) [.ife (.not (.call false 29 [(.var 0), (.var 3), (.var 2)])) [.ret (.cst (.bl false))] [], .set (.nm 0) (.call false 30 [(.var 0), (.var 3)])],
  .ret (.cst (.bl true))] }
/-- is_good_run -/
def F_is_good_run : Fn := { np := 1, ns := 1, keep := false, body := [
  .ret (.and (.isi (.var 0) .tup) (.and (.cmp .le (.blt false .len [(.var 0)]) (.con 6)) (.call false 34 [(.tup []), (.var 0), (.con 7)])))] }
/-- need_run -/
def F_need_run : Fn := { np := 1, ns := 1, keep := false, body := [
  .ife (.not (.call false 35 [(.var 0)])) [.rais 36 (.cst (.str (Str.ofString "not a run")))] []] }
/-- played -/
def F_played : Fn := { np := 2, ns := 6, keep := false, body := [
  .par 3 4 (.con 8) (.lst true []),
  .for_ (.nm 2) (.seq (.var 1)) [.set (.tp [(.nm 3), (.nm 5)]) (.call false 33 [(.var 0), (.var 3), (.var 2)]), .app (.var 4) (.var 5)],
  .ret (.frz (.var 4))] }
/-- cycle_of -/
def F_cycle_of : Fn := { np := 2, ns := 3, keep := false, body := [
  .ret (.comp false (.call false 27 [(.var 0), (.var 1), (.var 2)]) (.nm 2) (.rng none (.call false 26 [(.var 0), (.blt false .len [(.var 1)])])) none [2])] }
/-- is_machine -/
def F_is_machine : Fn := { np := 1, ns := 1, keep := false, body := [
  .ret (.call false 23 [(.var 0)])] }
/-- is_run -/
def F_is_run : Fn := { np := 1, ns := 1, keep := false, body := [
  .ret (.call false 35 [(.var 0)])] }
/-- notes -/
def F_notes : Fn := { np := 2, ns := 2, keep := false, body := [
  .expr (.call false 19 [(.var 0)]),
  .expr (.call false 37 [(.var 1)]),
  .ret (.call false 38 [(.var 0), (.var 1)])] }
/-- cycle -/
def F_cycle : Fn := { np := 2, ns := 3, keep := false, body := [
  .expr (.call false 19 [(.var 0)]),
  .ife (.or (.not (.isi (.var 1) .tup)) (.not (.cmp2 .le .le (.cst (.int (1))) (.blt false .len [(.var 1)]) (.bin false .add (.con 7) (.cst (.int (1))))))) [.rais 43 (.cst (.str (Str.ofString "not held keys")))] [],
  .ife (.or (.not (.blt false .all [(.comp false (.call false 20 [(.var 2), (.cst (.int (0))), (.con 7)]) (.nm 2) (.seq (.var 1)) none [2])])) (.cmp .ne (.blt false .len [(.blt false .sorted [(.blt false .set [(.var 1)])])]) (.blt false .len [(.var 1)]))) [.rais 43 (.cst (.str (Str.ofString "not held keys")))] [],
  .ret (.call false 39 [(.var 0), (.var 1)])] }
/-- _law_is_whole -/
def F__law_is_whole : Fn := { np := 3, ns := 3, keep := false, body := [
  .ret (.and (.isi (.var 0) .int) (.and (.not (.isi (.var 0) .bool)) (.cmp2 .le .le (.var 1) (.var 0) (.var 2))))] }
/-- _law_truly -/
def F__law_truly : Fn := { np := 2, ns := 2, keep := false, body := [
  .ret (.and (.isi (.var 0) .bool) (.cmp .eq (.var 0) (.var 1)))] }
/-- _law_is_machine -/
def F__law_is_machine : Fn := { np := 1, ns := 2, keep := false, body := [
  .ife (.or (.not (.isi (.var 0) .tup)) (.or (.cmp .ne (.blt false .len [(.var 0)]) (.cst (.int (4)))) (.not (.isi (.idx (.var 0) (.cst (.int (3)))) .bool)))) [.ret (.cst (.bl false))] [],
  .ife (.or (.not (.call false 45 [(.idx (.var 0) (.cst (.int (1)))), (.cst (.int (1))), (.cst (.int (2)))])) (.cmp .nin (.idx (.var 0) (.cst (.int (2)))) (.lst false [(.cst (.str (Str.ofString "restart"))), (.cst (.str (Str.ofString "stay"))), (.cst (.str (Str.ofString "wait")))]))) [.ret (.cst (.bl false))] [],
  .ife (.isi (.idx (.var 0) (.cst (.int (0)))) .str) [.ret (.cmp .isin (.idx (.var 0) (.cst (.int (0)))) (.lst false [(.cst (.str (Str.ofString "bounce"))), (.cst (.str (Str.ofString "down"))), (.cst (.str (Str.ofString "pressed"))), (.cst (.str (Str.ofString "twice"))), (.cst (.str (Str.ofString "up")))]))] [],
  .ife (.or (.not (.isi (.idx (.var 0) (.cst (.int (0)))) .tup)) (.cmp .nin (.blt false .len [(.idx (.var 0) (.cst (.int (0))))]) (.lst false [(.cst (.int (1))), (.cst (.int (2))), (.cst (.int (3))), (.cst (.int (4)))]))) [.ret (.cst (.bl false))] [],
  .ret (.cmp .eq (.comp false (.var 1) (.nm 1) (.seq (.idx (.var 0) (.cst (.int (0))))) (some (.not (.call false 45 [(.var 1), (.neg (.cst (.int (3)))), (.cst (.int (3)))]))) [1]) (.lst false []))] }
/-- _law_are_keys -/
def F__law_are_keys : Fn := { np := 2, ns := 3, keep := false, body := [
  .ife (.or (.not (.isi (.var 0) .tup)) (.cmp .ne (.comp false (.var 2) (.nm 2) (.seq (.var 0)) (some (.not (.call false 45 [(.var 2), (.cst (.int (0))), (.var 1)]))) [2]) (.lst false []))) [.ret (.cst (.bl false))] [],
  .ret (.cmp .eq (.blt false .list [(.var 0)]) (.blt false .sorted [(.blt false .set [(.var 0)])]))] }
/-- _law_goes -/
def F__law_goes : Fn := { np := 2, ns := 5, keep := false, body := [
  .ife (.not (.isi (.var 0) .tup)) [.ret (.cst (.bl false))] [],
  .set (.nm 2) (.lst false []),
  .for_ (.nm 3) (.seq (.var 0)) [.ife (.or (.not (.isi (.var 3) .tup)) (.cmp .ne (.blt false .len [(.var 3)]) (.cst (.int (2))))) [.ret (.cst (.bl false))] [], .ife (.or (.not (.call false 48 [(.idx (.var 3) (.cst (.int (0)))), (.var 1)])) (.not (.call false 48 [(.idx (.var 3) (.cst (.int (1)))), (.var 1)]))) [.ret (.cst (.bl false))] [], .for_ (.nm 4) (.seq (.idx (.var 3) (.cst (.int (0))))) [.ife (.cmp .nin (.var 4) (.var 2)) [.ret (.cst (.bl false))] []], .set (.nm 2) (.comp false (.var 4) (.nm 4) (.seq (.var 2)) (some (.cmp .nin (.var 4) (.idx (.var 3) (.cst (.int (0)))))) [4]), .for_ (.nm 4) (.seq (.idx (.var 3) (.cst (.int (1))))) [.ife (.cmp .isin (.var 4) (.var 2)) [.ret (.cst (.bl false))] []], .set (.nm 2) (.bin false .add (.var 2) (.blt false .list [(.idx (.var 3) (.cst (.int (1))))]))],
  .ret (.cst (.bl true))] }
/-- _law_run -/
def F__law_run : Fn := { np := 3, ns := 10, keep := false, body := [
  .set (.tp [(.nm 4), (.nm 5)]) (.tup [(.tup []), (.tup [])]),
  .for_ (.nm 3) (.rng none (.call true 3 [(.var 0), (.bin false .add (.var 2) (.cst (.int (1))))])) [.set (.nm 6) (.blt false .tuple [(.comp false (.var 9) (.nm 9) (.seq (.blt false .sorted [(.var 4)])) (some (.cmp .eq (.call true 3 [(.var 0), (.cst (.int (3)))]) (.cst (.int (0))))) [9])]), .set (.nm 7) (.comp false (.var 9) (.nm 9) (.rng none (.var 1)) (some (.or (.cmp .nin (.var 9) (.var 4)) (.cmp .isin (.var 9) (.var 6)))) [9]), .set (.nm 8) (.blt false .tuple [(.comp false (.var 9) (.nm 9) (.seq (.var 7)) (some (.cmp .eq (.call true 3 [(.var 0), (.cst (.int (3)))]) (.cst (.int (0))))) [9])]), .set (.nm 5) (.bin false .add (.var 5) (.tup [(.tup [(.var 6), (.var 8)])])), .set (.nm 4) (.bin false .add (.blt false .tuple [(.comp false (.var 9) (.nm 9) (.seq (.var 4)) (some (.cmp .nin (.var 9) (.var 6))) [9])]) (.var 8))],
  .ret (.var 5)] }
/-- _law_spoilt -/
def F__law_spoilt : Fn := { np := 2, ns := 4, keep := false, body := [
  .ife (.and (.isi (.var 1) .tup) (.and (.cmp .ne (.var 1) (.tup [])) (.cmp .gt (.call true 3 [(.var 0), (.cst (.int (5)))]) (.cst (.int (0)))))) [.set (.nm 3) (.call true 3 [(.var 0), (.blt false .len [(.var 1)])]), .ret (.bin false .add (.bin false .add (.slc (.var 1) none (some (.var 3))) (.tup [(.call true 51 [(.var 0), (.idx (.var 1) (.var 3))])])) (.slc (.var 1) (some (.bin false .add (.var 3) (.cst (.int (1))))) none))] [],
  .set (.nm 2) (.call true 3 [(.var 0), (.cst (.int (6)))]),
  .ife (.isi (.var 1) .tup) [.ret (.idx (.lst false [(.blt false .list [(.var 1)]), (.slc (.var 1) (some (.cst (.int (1)))) none), (.bin false .add (.var 1) (.slc (.var 1) (some (.neg (.cst (.int (1))))) none)), (.rev (.var 1)), (.cst .non), (.tup [(.tup []), (.tup [(.cst (.int (0)))])])]) (.var 2))] [],
  .ife (.isi (.var 1) .bool) [.ret (.idx (.lst false [(.not (.var 1)), (.blt false .int [(.var 1)]), (.cst .non), (.cst (.str (Str.ofString "True"))), (.cst (.int (2))), (.var 1)]) (.var 2))] [],
  .ife (.isi (.var 1) .int) [.ret (.idx (.lst false [(.bin false .add (.var 1) (.cst (.int (1)))), (.bin false .sub (.var 1) (.cst (.int (1)))), (.cst (.int (0))), (.cst (.bl true)), (.cst .non), (.cst (.str (Str.ofString "1")))]) (.var 2))] [],
  .ret (.idx (.lst false [(.cst (.str (Str.ofString "up"))), (.cst (.str (Str.ofString "stay"))), (.cst (.str (Str.ofString "Up"))), (.cst .non), (.cst (.str (Str.ofString ""))), (.cst (.int (1)))]) (.var 2))] }
/-- _law_bad_machines -/
def F__law_bad_machines : Fn := { np := 0, ns := 1, keep := false, body := [
  .set (.nm 0) (.lst false [(.cst .non), (.tup []), (.tup [(.cst (.str (Str.ofString "up"))), (.cst (.int (1))), (.cst (.str (Str.ofString "stay")))]), (.lst false [(.cst (.str (Str.ofString "up"))), (.cst (.int (1))), (.cst (.str (Str.ofString "stay"))), (.cst (.bl true))]), (.tup [(.cst (.str (Str.ofString "Up"))), (.cst (.int (1))), (.cst (.str (Str.ofString "stay"))), (.cst (.bl true))]), (.tup [(.cst (.str (Str.ofString "up"))), (.cst (.int (3))), (.cst (.str (Str.ofString "stay"))), (.cst (.bl true))])]),
  .set (.nm 0) (.bin false .add (.var 0) (.lst false [(.tup [(.cst (.str (Str.ofString "up"))), (.cst (.int (1))), (.cst (.str (Str.ofString "go"))), (.cst (.bl true))]), (.tup [(.cst (.str (Str.ofString "up"))), (.cst (.int (1))), (.cst (.str (Str.ofString "stay"))), (.cst (.int (1)))]), (.tup [(.tup []), (.cst (.int (1))), (.cst (.str (Str.ofString "stay"))), (.cst (.bl true))]), (.tup [(.tup [(.cst (.int (4)))]), (.cst (.int (1))), (.cst (.str (Str.ofString "stay"))), (.cst (.bl true))])])),
  .ret (.bin false .add (.var 0) (.lst false [(.tup [(.bin false .mul (.tup [(.cst (.int (0)))]) (.cst (.int (5)))), (.cst (.int (1))), (.cst (.str (Str.ofString "stay"))), (.cst (.bl true))]), (.tup [(.lst false [(.cst (.int (1)))]), (.cst (.int (1))), (.cst (.str (Str.ofString "stay"))), (.cst (.bl true))]), (.tup [(.tup [(.cst (.bl true))]), (.cst (.int (1))), (.cst (.str (Str.ofString "stay"))), (.cst (.bl true))]), (.tup [(.cst (.str (Str.ofString "up"))), (.cst (.bl true)), (.cst (.str (Str.ofString "stay"))), (.cst (.bl true))])]))] }
/-- _law_bad_runs -/
def F__law_bad_runs : Fn := { np := 0, ns := 1, keep := false, body := [
  .set (.nm 0) (.lst false [(.cst .non), (.lst false []), (.tup [(.tup [(.tup [])])]), (.tup [(.tup [(.tup [(.tup [(.cst (.int (0)))]), (.tup [])])])]), (.tup [(.tup [(.tup []), (.tup [(.cst (.int (0))), (.cst (.int (0)))])])]), (.tup [(.tup [(.tup [(.cst (.int (0)))]), (.tup [])])]), (.tup [(.tup [(.tup []), (.tup [(.cst (.int (8)))])])]), (.tup [(.tup [(.tup []), (.tup [(.cst (.int (1))), (.cst (.int (0)))])])])]),
  .ret (.bin false .add (.var 0) (.lst false [(.tup [(.tup [(.tup []), (.tup [(.cst (.int (0)))])]), (.tup [(.tup []), (.tup [(.cst (.int (0)))])])]), (.tup [(.tup [(.tup []), (.lst false [(.cst (.int (0)))])])]), (.bin false .mul (.tup [(.tup [(.tup []), (.tup [])])]) (.cst (.int (41)))), (.tup [(.tup [(.tup []), (.tup [(.cst (.bl true))])])]), (.tup [(.tup [(.tup []), (.tup [])]), (.cst .non)])]))] }
/-- _law_turn -/
def F__law_turn : Fn := { np := 2, ns := 6, keep := false, body := [
  .ife (.cmp .eq (.var 0) (.cst (.str (Str.ofString "down")))) [.ret (.rev (.ofr false false none (.var 1)))] [],
  .ife (.cmp .eq (.var 0) (.cst (.str (Str.ofString "bounce")))) [.ret (.bin false .add (.ofr false false none (.var 1)) (.rev (.ofr false false (some (.cst (.int (1)))) (.bin false .sub (.var 1) (.cst (.int (1)))))))] [],
  .ife (.cmp .eq (.var 0) (.cst (.str (Str.ofString "twice")))) [.ret (.bin false .add (.ofr false false none (.var 1)) (.rev (.ofr false false none (.var 1))))] [],
  .ife (.isi (.var 0) .str) [.ret (.ofr false false none (.var 1))] [],
  .par 3 4 (.lst true []) (.cst (.int (0))),
  .for_ (.nm 2) (.rng none (.var 1)) [.for_ (.nm 5) (.seq (.var 0)) [.app (.var 3) (.var 4), .set (.nm 4) (.bin false .mod (.bin false .add (.var 4) (.var 5)) (.var 1))]],
  .ret (.frz (.var 3))] }
/-- _law_ladder -/
def F__law_ladder : Fn := { np := 2, ns := 6, keep := false, body := [
  .set (.nm 2) (.ife (.cmp .eq (.idx (.var 0) (.cst (.int (0)))) (.cst (.str (Str.ofString "pressed")))) (.blt false .list [(.var 1)]) (.blt false .sorted [(.var 1)])),
  .set (.nm 3) (.lst false []),
  .for_ (.nm 4) (.rng none (.idx (.var 0) (.cst (.int (1))))) [.set (.nm 3) (.bin false .add (.var 3) (.comp false (.tup [(.var 5), (.var 4)]) (.nm 5) (.seq (.var 2)) none [5]))],
  .ret (.var 3)] }
/-- _law_cycle -/
def F__law_cycle : Fn := { np := 2, ns := 4, keep := false, body := [
  .set (.nm 2) (.call false 55 [(.var 0), (.var 1)]),
  .ret (.comp false (.idx (.var 2) (.var 3)) (.nm 3) (.seq (.call false 54 [(.idx (.var 0) (.cst (.int (0)))), (.blt false .len [(.var 2)])])) none [3])] }
/-- _law_after -/
def F__law_after : Fn := { np := 3, ns := 9, keep := false, body := [
  .set (.tp [(.nm 3), (.nm 5), (.nm 6), (.nm 7)]) (.var 1),
  .set (.nm 3) (.blt false .tuple [(.comp false (.var 8) (.nm 8) (.seq (.var 3)) (some (.cmp .nin (.var 8) (.idx (.var 2) (.cst (.int (0)))))) [8])]),
  .ife (.and (.idx (.var 0) (.cst (.int (3)))) (.and (.cmp .ne (.idx (.var 2) (.cst (.int (1)))) (.tup [])) (.cmp .eq (.var 3) (.tup [])))) [.set (.nm 5) (.tup [])] [],
  .set (.nm 3) (.bin false .add (.var 3) (.idx (.var 2) (.cst (.int (1))))),
  .ife (.idx (.var 0) (.cst (.int (3)))) [.set (.nm 5) (.bin false .add (.var 5) (.blt false .tuple [(.comp false (.var 8) (.nm 8) (.seq (.idx (.var 2) (.cst (.int (1))))) (some (.cmp .nin (.var 8) (.var 5))) [8])]))] [.set (.nm 5) (.var 3)],
  .ife (.cmp .eq (.var 6) (.tup [])) [.par 6 7 (.var 5) (.cst (.int (0)))] [.ife (.cmp .ne (.var 5) (.var 6)) [.ife (.cmp .eq (.idx (.var 0) (.cst (.int (2)))) (.cst (.str (Str.ofString "restart")))) [.par 6 7 (.var 5) (.cst (.int (0)))] [.ife (.cmp .eq (.idx (.var 0) (.cst (.int (2)))) (.cst (.str (Str.ofString "stay")))) [.set (.nm 6) (.var 5)] [.ife (.cmp .eq (.bin false .mod (.var 7) (.blt false .len [(.call false 56 [(.var 0), (.var 6)])])) (.cst (.int (0)))) [.par 6 7 (.var 5) (.cst (.int (0)))] []]]] []],
  .ife (.cmp .eq (.var 6) (.tup [])) [.ret (.tup [(.tup [(.var 3), (.var 5), (.tup []), (.cst (.int (0)))]), (.cst .non)])] [],
  .set (.nm 4) (.call false 56 [(.var 0), (.var 6)]),
  .ret (.tup [(.tup [(.var 3), (.var 5), (.var 6), (.bin false .add (.var 7) (.cst (.int (1))))]), (.idx (.var 4) (.bin false .mod (.var 7) (.blt false .len [(.var 4)])))])] }
/-- _law_play -/
def F__law_play : Fn := { np := 2, ns := 6, keep := false, body := [
  .par 3 4 (.tup [(.tup []), (.tup []), (.tup []), (.cst (.int (0)))]) (.lst true []),
  .for_ (.nm 2) (.seq (.var 1)) [.set (.tp [(.nm 3), (.nm 5)]) (.call false 57 [(.var 0), (.var 3), (.var 2)]), .app (.var 4) (.var 5)],
  .ret (.tup [(.var 4), (.var 3)])] }
/-- _law_written@k02 -/
def F__law_written_k02 : Fn := { np := 0, ns := 6, keep := false, body := [
  .set (.tp [(.nm 2), (.nm 3), (.nm 1), (.nm 4), (.nm 5)]) (.call false 9 []),
  .set (.nm 0) (.tup [(.tup [(.tup []), (.tup [(.cst (.int (0))), (.cst (.int (2)))])]), (.tup [(.tup []), (.tup [])]), (.tup [(.tup []), (.tup [(.cst (.int (1)))])]), (.tup [(.tup []), (.tup [])])]),
  .ife (.cmp .ne (.call false 42 [(.var 2), (.var 0)]) (.lst false [(.tup [(.cst (.int (0))), (.cst (.int (0)))]), (.tup [(.cst (.int (2))), (.cst (.int (0)))]), (.tup [(.cst (.int (0))), (.cst (.int (0)))]), (.tup [(.cst (.int (1))), (.cst (.int (0)))])])) [.ret (.cst (.bl false))] [],
  .ife (.cmp .ne (.call false 42 [(.var 3), (.var 0)]) (.lst false [(.tup [(.cst (.int (0))), (.cst (.int (0)))]), (.tup [(.cst (.int (2))), (.cst (.int (0)))]), (.tup [(.cst (.int (2))), (.cst (.int (0)))]), (.tup [(.cst (.int (0))), (.cst (.int (0)))])])) [.ret (.cst (.bl false))] [],
  .ife (.cmp .ne (.call false 42 [(.var 1), (.tup [(.tup [(.tup []), (.tup [(.cst (.int (0)))])]), (.tup [(.tup [(.cst (.int (0)))]), (.tup [(.cst (.int (1)))])]), (.tup [(.tup [(.cst (.int (1)))]), (.tup [])]), (.tup [(.tup []), (.tup [])])])]) (.lst false [(.tup [(.cst (.int (0))), (.cst (.int (0)))]), (.tup [(.cst (.int (1))), (.cst (.int (0)))]), (.cst .non), (.cst .non)])) [.ret (.cst (.bl false))] [],
  .ife (.cmp .ne (.call false 44 [(.var 1), (.tup [(.cst (.int (4))), (.cst (.int (0))), (.cst (.int (2)))])]) (.lst false [(.tup [(.cst (.int (0))), (.cst (.int (0)))]), (.tup [(.cst (.int (2))), (.cst (.int (0)))]), (.tup [(.cst (.int (4))), (.cst (.int (0)))]), (.tup [(.cst (.int (2))), (.cst (.int (0)))])])) [.ret (.cst (.bl false))] [],
  .ife (.or (.cmp .ne (.call false 44 [(.var 5), (.tup [(.cst (.int (4))), (.cst (.int (0)))])]) (.lst false [(.tup [(.cst (.int (4))), (.cst (.int (0)))]), (.tup [(.cst (.int (0))), (.cst (.int (0)))]), (.tup [(.cst (.int (4))), (.cst (.int (1)))]), (.tup [(.cst (.int (0))), (.cst (.int (1)))])])) (.cmp .ne (.call false 44 [(.var 4), (.tup [(.cst (.int (1))), (.cst (.int (3))), (.cst (.int (5)))])]) (.bin false .mul (.lst false [(.tup [(.cst (.int (1))), (.cst (.int (0)))]), (.tup [(.cst (.int (3))), (.cst (.int (0)))])]) (.cst (.int (3)))))) [.ret (.cst (.bl false))] [],
  .ife (.cmp .ne (.call false 42 [(.var 5), (.tup [(.tup [(.tup []), (.tup [(.cst (.int (2)))])]), (.tup [(.tup [(.cst (.int (2)))]), (.tup [])]), (.tup [(.tup []), (.tup [(.cst (.int (1)))])])])]) (.lst false [(.tup [(.cst (.int (2))), (.cst (.int (0)))]), (.tup [(.cst (.int (2))), (.cst (.int (1)))]), (.tup [(.cst (.int (1))), (.cst (.int (0)))])])) [.ret (.cst (.bl false))] [],
  .ife (.cmp .ne (.call false 42 [(.var 5), (.tup [(.tup [(.tup []), (.tup [(.cst (.int (2))), (.cst (.int (3)))])]), (.tup [(.tup [(.cst (.int (2)))]), (.tup [])]), (.tup [(.tup [(.cst (.int (3)))]), (.tup [(.cst (.int (1)))])])])]) (.lst false [(.tup [(.cst (.int (2))), (.cst (.int (0)))]), (.tup [(.cst (.int (3))), (.cst (.int (0)))]), (.tup [(.cst (.int (1))), (.cst (.int (0)))])])) [.ret (.cst (.bl false))] [],
  .set (.nm 1) (.tup [(.cst (.str (Str.ofString "twice"))), (.cst (.int (1))), (.cst (.str (Str.ofString "wait"))), (.cst (.bl true))]),
  .set (.nm 0) (.tup [(.tup [(.tup []), (.tup [(.cst (.int (0))), (.cst (.int (1)))])]), (.tup [(.tup [(.cst (.int (0))), (.cst (.int (1)))]), (.tup [])]), (.tup [(.tup []), (.tup [(.cst (.int (3)))])]), (.tup [(.tup []), (.tup [])]), (.tup [(.tup []), (.tup [])])]),
  .ret (.cmp .eq (.call false 42 [(.var 1), (.var 0)]) (.lst false [(.tup [(.cst (.int (0))), (.cst (.int (0)))]), (.tup [(.cst (.int (1))), (.cst (.int (0)))]), (.tup [(.cst (.int (1))), (.cst (.int (0)))]), (.tup [(.cst (.int (0))), (.cst (.int (0)))]), (.tup [(.cst (.int (3))), (.cst (.int (0)))])]))] }
/-- _law_written@k03 -/
def F__law_written_k03 : Fn := { np := 0, ns := 6, keep := false, body := [
  .set (.tp [(.nm 1), (.nm 2), (.nm 3), (.nm 4), (.nm 5)]) (.call false 9 []),
  .set (.nm 0) (.lst false [(.call false 5 [(.var 1), (.cst (.int (3))), (.bin false .pow (.cst (.int (10))) (.cst (.int (30))))]), (.call false 5 [(.var 3), (.cst (.int (3))), (.cst (.int (3)))]), (.call false 5 [(.var 5), (.cst (.int (2))), (.cst (.int (6)))]), (.call false 5 [(.var 3), (.cst (.int (1))), (.cst (.int (7)))])]),
  .ife (.or (.cmp .ne (.var 0) (.lst false [(.tup [(.cst (.int (1))), (.cst (.int (0)))]), (.tup [(.cst (.int (1))), (.cst (.int (0)))]), (.tup [(.cst (.int (0))), (.cst (.int (1)))]), (.tup [(.cst (.int (0))), (.cst (.int (0)))])])) (.cmp .ne (.lst false [(.call false 6 [(.var 4), (.cst (.int (3)))]), (.call false 6 [(.var 4), (.cst (.int (4)))])]) (.lst false [(.cst (.int (2))), (.cst (.int (4)))]))) [.ret (.cst (.bl false))] [],
  .ife (.or (.cmp .ne (.call false 6 [(.tup [(.tup [(.cst (.int (0)))]), (.cst (.int (2))), (.cst (.str (Str.ofString "stay"))), (.cst (.bl false))]), (.cst (.int (5)))]) (.cst (.int (1)))) (.cmp .ne (.call false 10 [(.tup [(.cst (.str (Str.ofString "down"))), (.cst (.int (2))), (.cst (.str (Str.ofString "stay"))), (.cst (.bl false))]), (.cst (.int (5))), (.cst (.int (0)))]) (.cst (.int (4))))) [.ret (.cst (.bl false))] [],
  .ret (.and (.cmp .is (.call false 10 [(.var 4), (.cst (.int (3))), (.cst (.int (2)))]) (.cst .non)) (.cmp .eq (.call false 10 [(.tup [(.cst (.str (Str.ofString "twice"))), (.cst (.int (1))), (.cst (.str (Str.ofString "wait"))), (.cst (.bl true))]), (.cst (.int (4))), (.cst (.int (3)))]) (.cst (.int (3)))))] }
/-- need_keys -/
def F_need_keys : Fn := { np := 1, ns := 1, keep := false, body := [
  .ife (.not (.call false 20 [(.var 0), (.cst (.int (1))), (.con 9)])) [.rais 61 (.cst (.str (Str.ofString "not a number of keys")))] []] }
/-- need_key -/
def F_need_key : Fn := { np := 2, ns := 2, keep := false, body := [
  .ife (.not (.call false 20 [(.var 1), (.cst (.int (0))), (.bin false .sub (.var 0) (.cst (.int (1))))])) [.rais 63 (.cst (.str (Str.ofString "not one of the keys")))] []] }
/-- lots_of -/
def F_lots_of : Fn := { np := 1, ns := 4, keep := false, body := [
  .set (.nm 1) (.lst false [(.tup [])]),
  .for_ (.nm 2) (.seq (.var 0)) [.set (.nm 1) (.bin false .add (.var 1) (.comp false (.bin false .add (.var 3) (.tup [(.var 2)])) (.nm 3) (.seq (.var 1)) none [3]))],
  .ret (.var 1)] }
/-- ticks_of -/
def F_ticks_of : Fn := { np := 2, ns := 7, keep := false, body := [
  .set (.nm 2) (.lst false []),
  .for_ (.nm 3) (.seq (.call false 65 [(.blt false .sorted [(.var 1)])])) [.set (.nm 4) (.comp false (.var 5) (.nm 5) (.rng none (.var 0)) (some (.or (.cmp .nin (.var 5) (.var 1)) (.cmp .isin (.var 5) (.var 3)))) [5]), .set (.nm 2) (.bin false .add (.var 2) (.comp false (.tup [(.var 3), (.var 6)]) (.nm 6) (.seq (.call false 65 [(.var 4)])) none [6]))],
  .ret (.blt false .sorted [(.var 2)])] }
/-- common_round -/
def F_common_round : Fn := { np := 2, ns := 6, keep := false, body := [
  .set (.nm 2) (.cst (.int (1))),
  .for_ (.nm 3) (.rng (some (.cst (.int (1)))) (.bin false .add (.var 1) (.cst (.int (1))))) [.par 4 5 (.call false 26 [(.var 0), (.var 3)]) (.var 2), .whl (.cmp .ne (.bin false .mod (.var 2) (.var 4)) (.cst (.int (0)))) [.set (.nm 2) (.bin false .add (.var 2) (.var 5))]],
  .ret (.var 2)] }
/-- folded -/
def F_folded : Fn := { np := 3, ns := 7, keep := false, body := [
  .set (.tp [(.nm 3), (.nm 4), (.nm 5), (.nm 6)]) (.var 2),
  .ife (.cmp .eq (.var 5) (.tup [])) [.ret (.var 2)] [],
  .ife (.cmp .ne (.idx (.var 0) (.cst (.int (2)))) (.cst (.str (Str.ofString "stay")))) [.set (.nm 1) (.call false 26 [(.var 0), (.blt false .len [(.var 5)])])] [],
  .ret (.tup [(.var 3), (.var 4), (.var 5), (.bin false .mod (.var 6) (.var 1))])] }
/-- next_state -/
def F_next_state : Fn := { np := 4, ns := 6, keep := false, body := [
  .set (.tp [(.nm 4), (.nm 5)]) (.call false 33 [(.var 0), (.var 2), (.var 3)]),
  .ret (.tup [(.call false 68 [(.var 0), (.var 1), (.var 4)]), (.var 5)])] }
/-- unheard_ways -/
def F_unheard_ways : Fn := { np := 4, ns := 9, keep := false, body := [
  .par 5 6 (.call false 67 [(.var 0), (.var 1)]) (.lst true []),
  .for_ (.nm 4) (.seq (.call false 66 [(.var 1), (.idx (.var 3) (.cst (.int (0))))])) [.ife (.cmp .nin (.var 2) (.idx (.var 4) (.cst (.int (0))))) [.set (.tp [(.nm 7), (.nm 8)]) (.call false 69 [(.var 0), (.var 5), (.var 3), (.var 4)]), .ife (.cmp .ne (.idx (.var 8) (.cst (.int (0)))) (.var 2)) [.app (.var 6) (.tup [(.var 4), (.var 7)])] []] []],
  .ret (.frz (.var 6))] }
/-- greatest_wait -/
def F_greatest_wait : Fn := { np := 3, ns := 6, keep := false, body := [
  .expr (.call false 19 [(.var 0)]),
  .expr (.call false 62 [(.var 1)]),
  .expr (.call false 64 [(.var 1), (.var 2)]),
  .set (.nm 3) (.idx (.call false 71 [(.var 0), (.var 1), (.var 2)]) (.cst (.int (1)))),
  .set (.nm 4) (.call false 72 [(.var 3)]),
  .ife (.cmp .lt (.blt false .len [(.var 4)]) (.blt false .len [(.var 3)])) [.ret (.cst .non)] [],
  .ret (.blt false .max [(.bin false .add (.lst false [(.cst (.int (0)))]) (.comp false (.idx (.var 4) (.var 5)) (.nm 5) (.seq (.call false 73 [(.var 0), (.var 1), (.var 2)])) none [5]))])] }
/-- _law_lots -/
def F__law_lots : Fn := { np := 1, ns := 4, keep := false, body := [
  .set (.nm 1) (.lst false [(.tup [])]),
  .for_ (.nm 2) (.seq (.var 0)) [.set (.nm 1) (.bin false .add (.var 1) (.comp false (.bin false .add (.var 3) (.tup [(.var 2)])) (.nm 3) (.seq (.var 1)) none [3]))],
  .ret (.var 1)] }
/-- _law_ticks -/
def F__law_ticks : Fn := { np := 2, ns := 7, keep := false, body := [
  .set (.nm 2) (.lst true []),
  .for_ (.nm 3) (.seq (.call false 75 [(.blt false .sorted [(.var 1)])])) [.set (.nm 4) (.comp false (.var 6) (.nm 6) (.rng none (.var 0)) (some (.or (.cmp .nin (.var 6) (.var 1)) (.cmp .isin (.var 6) (.var 3)))) [6]), .for_ (.nm 5) (.seq (.call false 75 [(.var 4)])) [.app (.var 2) (.tup [(.var 3), (.var 5)])]],
  .ret (.blt false .sorted [(.var 2)])] }
/-- _law_fold -/
def F__law_fold : Fn := { np := 3, ns := 5, keep := false, body := [
  .ife (.cmp .eq (.idx (.var 2) (.cst (.int (2)))) (.tup [])) [.ret (.var 2)] [],
  .set (.nm 3) (.blt false .len [(.call false 56 [(.var 0), (.idx (.var 2) (.cst (.int (2))))])]),
  .ife (.cmp .eq (.idx (.var 0) (.cst (.int (2)))) (.cst (.str (Str.ofString "stay")))) [.set (.nm 3) (.cst (.int (1))), .for_ (.nm 4) (.rng (some (.cst (.int (1)))) (.bin false .add (.var 1) (.cst (.int (1))))) [.set (.nm 3) (.bin false .mul (.var 3) (.blt false .len [(.call false 56 [(.var 0), (.ofr true false none (.var 4))])]))]] [],
  .ret (.bin false .add (.slc (.var 2) none (some (.cst (.int (3))))) (.tup [(.bin false .mod (.idx (.var 2) (.cst (.int (3)))) (.var 3))]))] }
/-- _law_firsts -/
def F__law_firsts : Fn := { np := 3, ns := 8, keep := false, body := [
  .set (.nm 3) (.lst true []),
  .for_ (.nm 4) (.seq (.call false 78 [(.var 0), (.var 1)])) [.for_ (.nm 5) (.seq (.call false 76 [(.var 1), (.idx (.var 4) (.cst (.int (0))))])) [.ife (.cmp .isin (.var 2) (.idx (.var 5) (.cst (.int (1))))) [.set (.tp [(.nm 6), (.nm 7)]) (.call false 57 [(.var 0), (.var 4), (.var 5)]), .ife (.cmp .ne (.idx (.var 7) (.cst (.int (0)))) (.var 2)) [.app (.var 3) (.call false 77 [(.var 0), (.var 1), (.var 6)])] []] []]],
  .ret (.blt false .sorted [(.blt false .set [(.var 3)])])] }
/-- is_part -/
def F_is_part : Fn := { np := 3, ns := 5, keep := false, body := [
  .ife (.or (.not (.isi (.var 1) .tup)) (.not (.cmp2 .le .le (.var 2) (.blt false .len [(.var 1)]) (.con 10)))) [.ret (.cst (.bl false))] [],
  .for_ (.nm 3) (.seq (.var 1)) [.ife (.or (.not (.isi (.var 3) .tup)) (.or (.cmp .ne (.blt false .len [(.var 3)]) (.cst (.int (2)))) (.not (.blt false .all [(.comp false (.call false 28 [(.var 4), (.bin false .sub (.var 0) (.cst (.int (1))))]) (.nm 4) (.seq (.var 3)) none [4])])))) [.ret (.cst (.bl false))] []],
  .ret (.cst (.bl true))] }
/-- led -/
def F_led : Fn := { np := 4, ns := 8, keep := false, body := [
  .par 5 6 (.call false 67 [(.var 0), (.var 1)]) (.lst true []),
  .for_ (.nm 4) (.seq (.var 3)) [.ife (.not (.call false 29 [(.idx (.var 2) (.cst (.int (0)))), (.var 4), (.bin false .sub (.var 1) (.cst (.int (1))))])) [.ret (.cst .non)] [], .set (.tp [(.nm 2), (.nm 7)]) (.call false 69 [(.var 0), (.var 5), (.var 2), (.var 4)]), .app (.var 6) (.tup [(.var 4), (.var 7), (.var 2)])],
  .ret (.frz (.var 6))] }
/-- is_unheard -/
def F_is_unheard : Fn := { np := 2, ns := 5, keep := false, body := [
  .ret (.blt false .all [(.comp false (.and (.cmp .nin (.var 0) (.idx (.var 2) (.cst (.int (0))))) (.and (.cmp .isn (.var 3) (.cst .non)) (.cmp .ne (.idx (.var 3) (.cst (.int (0)))) (.var 0)))) (.tp [(.nm 2), (.nm 3), (.nm 4)]) (.seq (.var 1)) none [2, 3, 4])])] }
/-- starves -/
def F_starves : Fn := { np := 4, ns := 10, keep := false, body := [
  .expr (.call false 19 [(.var 0)]),
  .expr (.call false 62 [(.var 1)]),
  .expr (.call false 64 [(.var 1), (.var 2)]),
  .ife (.or (.not (.isi (.var 3) .tup)) (.cmp .ne (.blt false .len [(.var 3)]) (.cst (.int (2))))) [.rais 83 (.cst (.str (Str.ofString "not a lead and a loop")))] [],
  .ife (.or (.not (.call false 80 [(.var 1), (.idx (.var 3) (.cst (.int (0)))), (.cst (.int (0)))])) (.not (.call false 80 [(.var 1), (.idx (.var 3) (.cst (.int (1)))), (.cst (.int (1)))]))) [.rais 83 (.cst (.str (Str.ofString "not a lead and a loop")))] [],
  .set (.nm 4) (.call false 81 [(.var 0), (.var 1), (.con 8), (.idx (.var 3) (.cst (.int (0))))]),
  .ife (.or (.cmp .is (.var 4) (.cst .non)) (.or (.cmp .eq (.var 4) (.lst false [])) (.cmp .nin (.var 2) (.idx (.idx (.idx (.var 4) (.neg (.cst (.int (1))))) (.cst (.int (2)))) (.cst (.int (0))))))) [.ret (.cst (.bl false))] [],
  .set (.nm 5) (.blt false .max [(.comp false (.var 8) (.tp [(.nm 8), (.nm 9)]) (.enum (.var 4)) (some (.cmp .isin (.var 2) (.idx (.idx (.var 9) (.cst (.int (0)))) (.cst (.int (1)))))) [8, 9])]),
  .ife (.or (.cmp .eq (.idx (.idx (.idx (.var 4) (.var 5)) (.cst (.int (1)))) (.cst (.int (0)))) (.var 2)) (.not (.call false 82 [(.var 2), (.slc (.var 4) (some (.bin false .add (.var 5) (.cst (.int (1))))) none)]))) [.ret (.cst (.bl false))] [],
  .par 6 7 (.idx (.idx (.var 4) (.neg (.cst (.int (1))))) (.cst (.int (2)))) (.lst true []),
  .whl (.cmp .nin (.var 6) (.var 7)) [.app (.var 7) (.var 6), .set (.nm 4) (.call false 81 [(.var 0), (.var 1), (.var 6), (.idx (.var 3) (.cst (.int (1))))]), .ife (.or (.cmp .is (.var 4) (.cst .non)) (.not (.call false 82 [(.var 2), (.var 4)]))) [.ret (.cst (.bl false))] [], .set (.nm 6) (.idx (.idx (.var 4) (.neg (.cst (.int (1))))) (.cst (.int (2))))],
  .ret (.cst (.bl true))] }
/-- _law_is_part -/
def F__law_is_part : Fn := { np := 3, ns := 4, keep := false, body := [
  .ife (.or (.not (.isi (.var 0) .tup)) (.not (.cmp2 .le .le (.var 2) (.blt false .len [(.var 0)]) (.cst (.int (60)))))) [.ret (.cst (.bl false))] [],
  .for_ (.nm 3) (.seq (.var 0)) [.ife (.or (.not (.isi (.var 3) .tup)) (.cmp .ne (.blt false .len [(.var 3)]) (.cst (.int (2))))) [.ret (.cst (.bl false))] [], .ife (.or (.not (.call false 48 [(.idx (.var 3) (.cst (.int (0)))), (.bin false .sub (.var 1) (.cst (.int (1))))])) (.not (.call false 48 [(.idx (.var 3) (.cst (.int (1)))), (.bin false .sub (.var 1) (.cst (.int (1))))]))) [.ret (.cst (.bl false))] []],
  .ret (.cst (.bl true))] }
/-- _law_is_shape -/
def F__law_is_shape : Fn := { np := 2, ns := 2, keep := false, body := [
  .ife (.or (.not (.isi (.var 0) .tup)) (.cmp .ne (.blt false .len [(.var 0)]) (.cst (.int (2))))) [.ret (.cst (.bl false))] [],
  .ret (.and (.call false 85 [(.idx (.var 0) (.cst (.int (0)))), (.var 1), (.cst (.int (0)))]) (.call false 85 [(.idx (.var 0) (.cst (.int (1)))), (.var 1), (.cst (.int (1)))]))] }
/-- _law_starves -/
def F__law_starves : Fn := { np := 4, ns := 10, keep := false, body := [
  .set (.nm 4) (.bin false .add (.idx (.var 3) (.cst (.int (0)))) (.bin false .mul (.idx (.var 3) (.cst (.int (1)))) (.cst (.int (2))))),
  .ife (.not (.call false 49 [(.var 4), (.bin false .sub (.var 1) (.cst (.int (1))))])) [.ret (.cst (.bl false))] [],
  .set (.tp [(.nm 7), (.nm 8)]) (.tup [(.tup [(.tup []), (.tup []), (.tup []), (.cst (.int (0)))]), (.cst (.bl false))]),
  .for_ (.nm 5) (.seq (.idx (.var 3) (.cst (.int (0))))) [.set (.tp [(.nm 7), (.nm 9)]) (.call false 57 [(.var 0), (.var 7), (.var 5)]), .ife (.cmp .isin (.var 2) (.idx (.var 5) (.cst (.int (1))))) [.set (.nm 8) (.cst (.bl true))] [], .set (.nm 8) (.and (.var 8) (.and (.cmp .isin (.var 2) (.idx (.var 7) (.cst (.int (0))))) (.cmp .ne (.idx (.var 9) (.cst (.int (0)))) (.var 2))))],
  .ife (.not (.var 8)) [.ret (.cst (.bl false))] [],
  .for_ (.nm 6) (.rng none (.cst (.int (120)))) [.for_ (.nm 5) (.seq (.idx (.var 3) (.cst (.int (1))))) [.set (.tp [(.nm 7), (.nm 9)]) (.call false 57 [(.var 0), (.var 7), (.var 5)]), .ife (.or (.cmp .isin (.var 2) (.idx (.var 5) (.cst (.int (0))))) (.cmp .eq (.idx (.var 9) (.cst (.int (0)))) (.var 2))) [.ret (.cst (.bl false))] []]],
  .ret (.cst (.bl true))] }
/-- _law_drawn -/
def F__law_drawn : Fn := { np := 2, ns := 4, keep := false, body := [
  .set (.nm 2) (.call true 50 [(.var 0), (.var 1), (.cst (.int (4)))]),
  .set (.nm 3) (.call true 50 [(.var 0), (.var 1), (.cst (.int (6)))]),
  .ret (.tup [(.var 2), (.ife (.cmp .ne (.var 3) (.tup [])) (.var 3) (.tup [(.tup [(.tup []), (.tup [])])]))])] }
/-- is_met -/
def F_is_met : Fn := { np := 4, ns := 4, keep := false, body := [
  .ife (.cmp .is (.var 2) (.cst .non)) [.ret (.cst (.bl false))] [],
  .ife (.cmp .eq (.var 0) (.cst (.str (Str.ofString "ghost")))) [.ret (.cmp .nin (.idx (.var 2) (.cst (.int (0)))) (.idx (.var 1) (.cst (.int (0)))))] [],
  .ret (.and (.cmp .eq (.var 2) (.var 3)) (.cmp .gt (.blt false .len [(.idx (.var 1) (.cst (.int (2))))]) (.cst (.int (1)))))] }
/-- need_all -/
def F_need_all : Fn := { np := 3, ns := 3, keep := false, body := [
  .expr (.call false 19 [(.var 0)]),
  .expr (.call false 19 [(.var 1)]),
  .expr (.call false 62 [(.var 2)])] }
/-- alike -/
def F_alike : Fn := { np := 3, ns := 3, keep := false, body := [
  .expr (.call false 90 [(.var 0), (.var 1), (.var 2)]),
  .ret (.cmp .is (.call false 91 [(.var 0), (.var 1), (.var 2)]) (.cst .non))] }
/-- parting -/
def F_parting : Fn := { np := 3, ns := 3, keep := false, body := [
  .expr (.call false 90 [(.var 0), (.var 1), (.var 2)]),
  .ret (.call false 91 [(.var 0), (.var 1), (.var 2)])] }
/-- _law_near -/
def F__law_near : Fn := { np := 2, ns := 3, keep := false, body := [
  .set (.nm 2) (.call true 3 [(.var 0), (.cst (.int (5)))]),
  .ife (.cmp .eq (.var 2) (.cst (.int (0)))) [.ret (.tup [(.idx (.var 1) (.cst (.int (0)))), (.idx (.var 1) (.cst (.int (1)))), (.call true 2 [(.var 0), (.lst false [(.cst (.str (Str.ofString "restart"))), (.cst (.str (Str.ofString "stay"))), (.cst (.str (Str.ofString "wait")))])]), (.idx (.var 1) (.cst (.int (3))))])] [],
  .ife (.cmp .eq (.var 2) (.cst (.int (1)))) [.ret (.bin false .add (.slc (.var 1) none (some (.cst (.int (3))))) (.tup [(.not (.idx (.var 1) (.cst (.int (3)))))]))] [],
  .ife (.cmp .eq (.var 2) (.cst (.int (2)))) [.ret (.bin false .add (.tup [(.call true 2 [(.var 0), (.lst false [(.cst (.str (Str.ofString "up"))), (.cst (.str (Str.ofString "pressed"))), (.cst (.str (Str.ofString "twice"))), (.cst (.str (Str.ofString "bounce"))), (.tup [(.cst (.int (1)))]), (.tup [(.cst (.int (1))), (.cst (.int (1)))]), (.tup [(.cst (.int (0))), (.cst (.int (1)))])])])]) (.slc (.var 1) (some (.cst (.int (1)))) none))] [],
  .ret (.ife (.cmp .eq (.var 2) (.cst (.int (3)))) (.call true 1 [(.var 0)]) (.var 1))] }
/-- is_note -/
def F_is_note : Fn := { np := 1, ns := 1, keep := false, body := [
  .ife (.or (.not (.isi (.var 0) .tup)) (.cmp .ne (.blt false .len [(.var 0)]) (.cst (.int (2))))) [.ret (.cst (.bl false))] [],
  .ret (.and (.call false 20 [(.idx (.var 0) (.cst (.int (0)))), (.cst (.int (0))), (.con 7)]) (.call false 20 [(.idx (.var 0) (.cst (.int (1)))), (.cst (.int (0))), (.bin false .sub (.con 1) (.cst (.int (1))))]))] }
/-- word_machines -/
def F_word_machines : Fn := { np := 0, ns := 5, keep := false, body := [
  .set (.nm 0) (.lst false []),
  .for_ (.nm 1) (.seq (.con 3)) [.for_ (.nm 2) (.rng (some (.cst (.int (1)))) (.bin false .add (.con 1) (.cst (.int (1))))) [.set (.nm 0) (.bin false .add (.var 0) (.comp2 false (.tup [(.var 1), (.var 2), (.var 3), (.var 4)]) (.nm 3) (.seq (.con 2)) (.nm 4) (.seq (.tup [(.cst (.bl false)), (.cst (.bl true))])) none [3, 4] [4]))]],
  .ret (.var 0)] }
/-- orders_of -/
def F_orders_of : Fn := { np := 1, ns := 6, keep := false, body := [
  .par 2 3 (.lst false []) (.lst false [(.tup [])]),
  .for_ (.nm 1) (.rng none (.var 0)) [.set (.nm 3) (.comp2 false (.bin false .add (.var 4) (.tup [(.var 5)])) (.nm 4) (.seq (.var 3)) (.nm 5) (.rng none (.bin false .add (.con 7) (.cst (.int (1))))) (some (.cmp .nin (.var 5) (.var 4))) [4, 5] [5]), .set (.nm 2) (.bin false .add (.var 2) (.var 3))],
  .ret (.blt false .sorted [(.var 2)])] }
/-- machines_told -/
def F_machines_told : Fn := { np := 2, ns := 4, keep := false, body := [
  .expr (.call false 37 [(.var 0)]),
  .ife (.or (.not (.isi (.var 1) .tup)) (.cmp .ne (.blt false .len [(.var 1)]) (.blt false .len [(.var 0)]))) [.rais 98 (.cst (.str (Str.ofString "not as many notes as ticks")))] [],
  .ife (.not (.blt false .all [(.comp false (.or (.cmp .is (.var 3) (.cst .non)) (.call false 95 [(.var 3)])) (.nm 3) (.seq (.var 1)) none [3])])) [.rais 98 (.cst (.str (Str.ofString "not notes")))] [],
  .ret (.comp false (.var 2) (.nm 2) (.seq (.call false 96 [])) (some (.cmp .eq (.call false 38 [(.var 2), (.var 0)]) (.blt false .list [(.var 1)]))) [2])] }
/-- held_told -/
def F_held_told : Fn := { np := 2, ns := 6, keep := false, body := [
  .expr (.call false 19 [(.var 0)]),
  .ife (.or (.not (.isi (.var 1) .tup)) (.not (.cmp2 .le .le (.cst (.int (1))) (.blt false .len [(.var 1)]) (.con 11)))) [.rais 98 (.cst (.str (Str.ofString "not notes")))] [],
  .ife (.not (.blt false .all [(.comp false (.call false 95 [(.var 4)]) (.nm 4) (.seq (.var 1)) none [4])])) [.rais 98 (.cst (.str (Str.ofString "not notes")))] [],
  .set (.nm 2) (.lst true []),
  .for_ (.nm 3) (.seq (.call false 97 [(.cst (.int (3)))])) [.ife (.or (.cmp .eq (.idx (.var 0) (.cst (.int (0)))) (.cst (.str (Str.ofString "pressed")))) (.cmp .eq (.blt false .list [(.var 3)]) (.blt false .sorted [(.var 3)]))) [.ife (.blt false .all [(.comp false (.cmp .eq (.call false 27 [(.var 0), (.var 3), (.var 5)]) (.var 4)) (.tp [(.nm 5), (.nm 4)]) (.enum (.var 1)) none [5, 4])]) [.app (.var 2) (.var 3)] []] []],
  .ret (.frz (.var 2))] }
/-- _law_words -/
def F__law_words : Fn := { np := 0, ns := 4, keep := false, body := [
  .set (.nm 0) (.lst false []),
  .for_ (.nm 1) (.seq (.lst false [(.cst (.str (Str.ofString "bounce"))), (.cst (.str (Str.ofString "down"))), (.cst (.str (Str.ofString "pressed"))), (.cst (.str (Str.ofString "twice"))), (.cst (.str (Str.ofString "up")))])) [.for_ (.nm 2) (.seq (.lst false [(.cst (.int (1))), (.cst (.int (2)))])) [.for_ (.nm 3) (.seq (.lst false [(.cst (.str (Str.ofString "restart"))), (.cst (.str (Str.ofString "stay"))), (.cst (.str (Str.ofString "wait")))])) [.set (.nm 0) (.bin false .add (.var 0) (.lst false [(.tup [(.var 1), (.var 2), (.var 3), (.cst (.bl false))]), (.tup [(.var 1), (.var 2), (.var 3), (.cst (.bl true))])]))]]],
  .ret (.var 0)] }
/-- _law_orders -/
def F__law_orders : Fn := { np := 0, ns := 4, keep := false, body := [
  .set (.nm 0) (.comp true (.tup [(.var 1)]) (.nm 1) (.rng none (.cst (.int (8)))) none [1]),
  .for_ (.nm 1) (.rng none (.cst (.int (8)))) [.for_ (.nm 2) (.rng none (.cst (.int (8)))) [.ife (.cmp .ne (.var 2) (.var 1)) [.app (.var 0) (.tup [(.var 1), (.var 2)]), .set (.nm 0) (.bin true .add (.var 0) (.comp false (.tup [(.var 1), (.var 2), (.var 3)]) (.nm 3) (.rng none (.cst (.int (8)))) (some (.cmp .nin (.var 3) (.tup [(.var 1), (.var 2)]))) [3]))] []]],
  .ret (.blt false .sorted [(.var 0)])] }
/-- _law_begins -/
def F__law_begins : Fn := { np := 3, ns := 5, keep := false, body := [
  .set (.nm 3) (.call false 56 [(.var 0), (.var 1)]),
  .ret (.cmp .eq (.comp false (.var 4) (.nm 4) (.rng none (.blt false .len [(.var 2)])) (some (.cmp .ne (.idx (.var 3) (.bin false .mod (.var 4) (.blt false .len [(.var 3)]))) (.idx (.var 2) (.var 4)))) [4]) (.lst false []))] }
/-- _law_written@k09 -/
def F__law_written_k09 : Fn := { np := 0, ns := 6, keep := false, body := [
  .set (.tp [(.nm 1), (.nm 2), (.nm 3), (.nm 4), (.nm 5)]) (.call false 9 []),
  .set (.nm 0) (.tup [(.tup [(.tup []), (.tup [(.cst (.int (0))), (.cst (.int (2)))])]), (.tup [(.tup []), (.tup [])]), (.tup [(.tup []), (.tup [(.cst (.int (1)))])])]),
  .ife (.or (.cmp .ne (.blt false .len [(.call false 99 [(.tup []), (.tup [])])]) (.cst (.int (60)))) (.cmp .ne (.blt false .len [(.call false 99 [(.var 0), (.tup [(.tup [(.cst (.int (0))), (.cst (.int (0)))]), (.tup [(.cst (.int (2))), (.cst (.int (0)))]), (.tup [(.cst (.int (2))), (.cst (.int (0)))])])])]) (.cst (.int (14))))) [.ret (.cst (.bl false))] [],
  .ife (.cmp .ne (.call false 99 [(.var 0), (.tup [(.tup [(.cst (.int (2))), (.cst (.int (0)))]), (.tup [(.cst (.int (0))), (.cst (.int (0)))]), (.tup [(.cst (.int (0))), (.cst (.int (0)))])])]) (.lst false [(.tup [(.cst (.str (Str.ofString "down"))), (.cst (.int (1))), (.cst (.str (Str.ofString "stay"))), (.cst (.bl false))]), (.tup [(.cst (.str (Str.ofString "down"))), (.cst (.int (1))), (.cst (.str (Str.ofString "stay"))), (.cst (.bl true))])])) [.ret (.cst (.bl false))] [],
  .ife (.or (.cmp .ne (.call false 100 [(.var 1), (.tup [(.tup [(.cst (.int (0))), (.cst (.int (0)))]), (.tup [(.cst (.int (2))), (.cst (.int (0)))]), (.tup [(.cst (.int (0))), (.cst (.int (0)))])])]) (.lst false [(.tup [(.cst (.int (0))), (.cst (.int (2)))])])) (.cmp .ne (.blt false .len [(.call false 100 [(.var 3), (.tup [(.tup [(.cst (.int (1))), (.cst (.int (0)))])])])]) (.cst (.int (22))))) [.ret (.cst (.bl false))] [],
  .ret (.and (.cmp .eq (.call false 100 [(.var 5), (.tup [(.tup [(.cst (.int (4))), (.cst (.int (0)))]), (.tup [(.cst (.int (0))), (.cst (.int (0)))]), (.tup [(.cst (.int (4))), (.cst (.int (1)))])])]) (.lst false [(.tup [(.cst (.int (4))), (.cst (.int (0)))])])) (.cmp .eq (.call false 100 [(.var 1), (.tup [(.tup [(.cst (.int (0))), (.cst (.int (1)))])])]) (.lst false [])))] }
/-- whole_in -/
def F_whole_in : Fn := { np := 1, ns := 2, keep := false, body := [
  .set (.nm 1) (.ife (.cmp .eq (.slc (.var 0) none (some (.cst (.int (1))))) (.cst (.str (Str.ofString "-")))) (.slc (.var 0) (some (.cst (.int (1)))) none) (.var 0)),
  .ret (.ife (.and (.cmp .eq (.blt false .len [(.var 1)]) (.cst (.int (1)))) (.cmp .isin (.var 1) (.cst (.str (Str.ofString "0123456789"))))) (.blt false .int [(.var 0)]) (.cst .non))] }
/-- machine_in -/
def F_machine_in : Fn := { np := 1, ns := 5, keep := false, body := [
  .set (.nm 1) (.cmp .eq (.idx (.var 0) (.neg (.cst (.int (1))))) (.cst (.str (Str.ofString "latch")))),
  .set (.nm 2) (.ife (.var 1) (.slc (.var 0) none (some (.neg (.cst (.int (1)))))) (.var 0)),
  .ife (.or (.cmp .lt (.blt false .len [(.var 2)]) (.cst (.int (4)))) (.cmp .ne (.idx (.var 2) (.neg (.cst (.int (3))))) (.cst (.str (Str.ofString "octaves"))))) [.ret (.cst .non)] [],
  .set (.nm 3) (.ife (.cmp .ne (.idx (.var 2) (.cst (.int (0)))) (.cst (.str (Str.ofString "steps")))) (.idx (.var 2) (.cst (.int (0)))) (.blt false .tuple [(.comp false (.call false 105 [(.var 4)]) (.nm 4) (.seq (.slc (.var 2) (some (.cst (.int (1)))) (some (.neg (.cst (.int (3))))))) none [4])])),
  .ret (.tup [(.var 3), (.call false 105 [(.idx (.var 2) (.neg (.cst (.int (2)))))]), (.idx (.var 2) (.neg (.cst (.int (1))))), (.var 1)])] }
/-- machine_text -/
def F_machine_text : Fn := { np := 1, ns := 1, keep := false, body := [
  .expr (.call false 19 [(.var 0)]),
  .ret (.call false 107 [(.var 0)])] }
/-- _law_a_tick -/
def F__law_a_tick : Fn := { np := 2, ns := 5, keep := false, body := [
  .set (.nm 2) (.blt false .tuple [(.comp false (.var 4) (.nm 4) (.seq (.blt false .sorted [(.var 1)])) (some (.cmp .eq (.call true 3 [(.var 0), (.cst (.int (3)))]) (.cst (.int (0))))) [4])]),
  .set (.nm 3) (.comp false (.var 4) (.nm 4) (.rng none (.cst (.int (4)))) (some (.or (.cmp .nin (.var 4) (.var 1)) (.cmp .isin (.var 4) (.var 2)))) [4]),
  .ret (.tup [(.var 2), (.blt false .tuple [(.comp false (.var 4) (.nm 4) (.seq (.var 3)) (some (.cmp .eq (.call true 3 [(.var 0), (.cst (.int (3)))]) (.cst (.int (0))))) [4])])])] }
/-- _law_later -/
def F__law_later : Fn := { np := 2, ns := 12, keep := false, body := [
  .set (.tp [(.nm 4), (.nm 5), (.nm 6)]) (.var 0),
  .set (.tp [(.nm 7), (.nm 8)]) (.call false 57 [(.var 4), (.var 5), (.tup [(.tup []), (.tup [(.cst (.int (1))), (.cst (.int (5)))])])]),
  .set (.tp [(.nm 7), (.nm 9)]) (.call false 57 [(.var 4), (.var 7), (.tup [(.tup [(.cst (.int (1)))]), (.tup [])])]),
  .set (.nm 2) (.tup [(.var 4), (.var 7), (.bin false .add (.var 6) (.tup [(.var 8), (.var 9)]))]),
  .set (.nm 3) (.tup [(.var 1), (.var 7), (.idx (.var 2) (.cst (.int (2))))]),
  .set (.tp [(.nm 10), (.nm 11)]) (.call false 57 [(.var 1), (.var 7), (.tup [(.tup [(.cst (.int (5)))]), (.tup [])])]),
  .ret (.lst false [(.var 2), (.var 3), (.tup [(.var 1), (.var 10), (.bin false .add (.idx (.var 2) (.cst (.int (2)))) (.tup [(.var 11)]))])])] }
/-- _law_steady_right -/
def F__law_steady_right : Fn := { np := 2, ns := 7, keep := false, body := [
  .set (.nm 2) (.call false 42 [(.var 0), (.bin false .add (.tup [(.tup [(.tup []), (.ofr true false none (.var 1))])]) (.bin false .mul (.tup [(.tup [(.tup []), (.tup [])])]) (.cst (.int (30)))))]),
  .ife (.cmp .ne (.comp false (.call false 5 [(.var 0), (.var 1), (.var 5)]) (.nm 5) (.rng none (.cst (.int (31)))) none [5]) (.var 2)) [.ret (.cst (.bl false))] [],
  .set (.nm 3) (.comp false (.call false 10 [(.var 0), (.var 1), (.var 4)]) (.nm 4) (.rng none (.var 1)) none [4]),
  .ife (.cmp .ne (.blt false .len [(.comp false (.var 6) (.nm 6) (.seq (.var 3)) (some (.cmp .isn (.var 6) (.cst .non))) [6])]) (.call false 6 [(.var 0), (.var 1)])) [.ret (.cst (.bl false))] [],
  .for_ (.nm 4) (.rng none (.var 1)) [.ife (.and (.cmp .isn (.idx (.var 3) (.var 4)) (.cst .non)) (.cmp .ne (.idx (.call false 5 [(.var 0), (.var 1), (.idx (.var 3) (.var 4))]) (.cst (.int (0)))) (.var 4))) [.ret (.cst (.bl false))] []],
  .ret (.cst (.bl true))] }
/-- law@k14 -/
def F_law_k14 : Fn := { np := 1, ns := 10, keep := false, body := [
  .for_ (.nm 1) (.rng none (.blt false .max [(.cst (.int (3))), (.blt false .min [(.cst (.int (7))), (.blt false .len [(.var 0)])])])) [.set (.nm 2) (.call true 0 [(.var 0), (.var 1)]), .set (.nm 3) (.call true 1 [(.var 2)]), .ife (.or (.not (.call false 112 [(.var 3), (.call true 50 [(.var 2), (.cst (.int (4))), (.cst (.int (12)))])])) (.not (.call false 111 [(.var 3), (.bin false .add (.cst (.int (1))) (.call true 3 [(.var 2), (.cst (.int (8)))]))]))) [.ret (.cst (.bl false))] [], .set (.nm 4) (.ife (.and (.cmp .eq (.idx (.var 3) (.cst (.int (2)))) (.cst (.str (Str.ofString "wait")))) (.idx (.var 3) (.cst (.int (3))))) (.cst (.int (1))) (.cst (.int (2)))), .ife (.not (.call false 113 [(.var 3), (.var 4), (.call true 3 [(.var 2), (.var 4)])])) [.ret (.cst (.bl false))] []],
  .set (.tp [(.nm 5), (.nm 6), (.nm 7), (.nm 8), (.nm 9)]) (.call false 9 []),
  .ife (.not (.call false 112 [(.var 7), (.tup [(.tup [(.tup []), (.tup [(.cst (.int (0))), (.cst (.int (1)))])]), (.tup [(.tup [(.cst (.int (1)))]), (.tup [])]), (.tup [(.tup [(.cst (.int (0)))]), (.tup [(.cst (.int (1)))])])])])) [.ret (.cst (.bl false))] [],
  .ife (.not (.call false 112 [(.var 9), (.tup [(.tup [(.tup []), (.tup [(.cst (.int (3)))])]), (.tup [(.tup [(.cst (.int (3)))]), (.tup [])]), (.tup [(.tup []), (.tup [(.cst (.int (4))), (.cst (.int (5)))])])])])) [.ret (.cst (.bl false))] [],
  .ife (.or (.not (.call false 111 [(.var 8), (.cst (.int (4)))])) (.or (.not (.call false 111 [(.var 9), (.cst (.int (3)))])) (.not (.call false 111 [(.var 7), (.cst (.int (5)))])))) [.ret (.cst (.bl false))] [],
  .ret (.and (.call false 113 [(.var 5), (.cst (.int (3))), (.cst (.int (2)))]) (.and (.call false 113 [(.var 9), (.cst (.int (1))), (.cst (.int (0)))]) (.call false 113 [(.var 7), (.cst (.int (2))), (.cst (.int (1)))])))] }
/-- _law_written@k15 -/
def F__law_written_k15 : Fn := { np := 0, ns := 6, keep := false, body := [
  .par 3 4 (.tup [(.cst (.str (Str.ofString "twice"))), (.cst (.int (2))), (.cst (.str (Str.ofString "stay"))), (.cst (.bl false))]) (.ofr true false none (.cst (.int (8)))),
  .ife (.or (.cmp .ne (.blt false .len [(.call false 44 [(.var 3), (.var 4)])]) (.cst (.int (32)))) (.or (.cmp .ne (.slc (.call false 44 [(.var 3), (.var 4)]) (some (.cst (.int (15)))) (some (.cst (.int (17))))) (.lst false [(.tup [(.cst (.int (7))), (.cst (.int (1)))]), (.tup [(.cst (.int (7))), (.cst (.int (1)))])])) (.cmp .ne (.blt false .len [(.call false 44 [(.tup [(.cst (.str (Str.ofString "bounce"))), (.cst (.int (2))), (.cst (.str (Str.ofString "wait"))), (.cst (.bl true))]), (.var 4)])]) (.cst (.int (30)))))) [.ret (.cst (.bl false))] [],
  .ife (.cmp .ne (.slc (.call false 44 [(.tup [(.tup [(.cst (.int (3))), (.cst (.int (3))), (.cst (.int (3))), (.cst (.int (3)))]), (.cst (.int (2))), (.cst (.str (Str.ofString "wait"))), (.cst (.bl true))]), (.var 4)]) none (some (.cst (.int (6))))) (.lst false [(.tup [(.cst (.int (0))), (.cst (.int (0)))]), (.tup [(.cst (.int (3))), (.cst (.int (0)))]), (.tup [(.cst (.int (6))), (.cst (.int (0)))]), (.tup [(.cst (.int (1))), (.cst (.int (1)))]), (.tup [(.cst (.int (4))), (.cst (.int (1)))]), (.tup [(.cst (.int (7))), (.cst (.int (1)))])])) [.ret (.cst (.bl false))] [],
  .ife (.or (.cmp .ne (.call false 44 [(.tup [(.cst (.str (Str.ofString "pressed"))), (.cst (.int (1))), (.cst (.str (Str.ofString "stay"))), (.cst (.bl true))]), (.rev (.var 4))]) (.comp false (.tup [(.var 5), (.cst (.int (0)))]) (.nm 5) (.seq (.rev (.var 4))) none [5])) (.cmp .ne (.idx (.call false 44 [(.tup [(.cst (.str (Str.ofString "down"))), (.cst (.int (2))), (.cst (.str (Str.ofString "stay"))), (.cst (.bl true))]), (.tup [(.cst (.int (0))), (.cst (.int (7)))])]) (.cst (.int (0)))) (.tup [(.cst (.int (7))), (.cst (.int (1)))]))) [.ret (.cst (.bl false))] [],
  .set (.nm 0) (.bin false .add (.tup [(.tup [(.tup []), (.var 4)])]) (.bin false .mul (.tup [(.tup [(.tup []), (.tup [])])]) (.cst (.int (39))))),
  .ife (.or (.cmp .ne (.slc (.call false 42 [(.var 3), (.var 0)]) (some (.cst (.int (31)))) (some (.cst (.int (34))))) (.lst false [(.tup [(.cst (.int (0))), (.cst (.int (0)))]), (.tup [(.cst (.int (0))), (.cst (.int (0)))]), (.tup [(.cst (.int (1))), (.cst (.int (0)))])])) (.cmp .ne (.slc (.call false 42 [(.tup [(.cst (.str (Str.ofString "down"))), (.cst (.int (1))), (.cst (.str (Str.ofString "restart"))), (.cst (.bl false))]), (.var 0)]) (some (.cst (.int (7)))) (some (.cst (.int (9))))) (.lst false [(.tup [(.cst (.int (0))), (.cst (.int (0)))]), (.tup [(.cst (.int (7))), (.cst (.int (0)))])]))) [.ret (.cst (.bl false))] [],
  .set (.nm 1) (.bin false .add (.tup [(.tup [(.tup []), (.var 4)])]) (.bin false .mul (.tup [(.tup [(.var 4), (.var 4)])]) (.cst (.int (39))))),
  .ife (.or (.cmp .ne (.slc (.call false 42 [(.tup [(.cst (.str (Str.ofString "up"))), (.cst (.int (1))), (.cst (.str (Str.ofString "restart"))), (.cst (.bl false))]), (.var 1)]) none (some (.cst (.int (3))))) (.lst false [(.tup [(.cst (.int (0))), (.cst (.int (0)))]), (.tup [(.cst (.int (1))), (.cst (.int (0)))]), (.tup [(.cst (.int (2))), (.cst (.int (0)))])])) (.cmp .ne (.call false 42 [(.var 3), (.bin false .add (.slc (.var 1) none (some (.cst (.int (1))))) (.bin false .mul (.tup [(.tup [(.var 4), (.tup [])])]) (.cst (.int (1)))))]) (.lst false [(.tup [(.cst (.int (0))), (.cst (.int (0)))]), (.cst .non)]))) [.ret (.cst (.bl false))] [],
  .set (.nm 2) (.bin false .pow (.cst (.int (10))) (.cst (.int (30)))),
  .ife (.or (.cmp .ne (.call false 5 [(.tup [(.cst (.str (Str.ofString "bounce"))), (.cst (.int (2))), (.cst (.str (Str.ofString "wait"))), (.cst (.bl true))]), (.var 2), (.var 2)]) (.tup [(.cst (.int (0))), (.cst (.int (1)))])) (.cmp .ne (.call false 5 [(.tup [(.cst (.str (Str.ofString "down"))), (.cst (.int (2))), (.cst (.str (Str.ofString "stay"))), (.cst (.bl false))]), (.var 2), (.var 2)]) (.tup [(.bin false .sub (.var 2) (.cst (.int (1)))), (.cst (.int (0)))]))) [.ret (.cst (.bl false))] [],
  .ife (.or (.cmp .ne (.call false 10 [(.tup [(.tup [(.neg (.cst (.int (3)))), (.neg (.cst (.int (3))))]), (.cst (.int (2))), (.cst (.str (Str.ofString "stay"))), (.cst (.bl false))]), (.var 2), (.cst (.int (0)))]) (.cst (.int (0)))) (.cmp .ne (.call false 6 [(.tup [(.tup [(.cst (.int (3)))]), (.cst (.int (1))), (.cst (.str (Str.ofString "stay"))), (.cst (.bl false))]), (.var 2)]) (.var 2))) [.ret (.cst (.bl false))] [],
  .ret (.and (.cmp .eq (.call false 6 [(.tup [(.tup [(.cst (.int (2))), (.cst (.int (2))), (.cst (.int (2))), (.cst (.int (2)))]), (.cst (.int (2))), (.cst (.str (Str.ofString "stay"))), (.cst (.bl false))]), (.var 2)]) (.bin false .fdiv (.var 2) (.cst (.int (2))))) (.cmp .is (.call false 10 [(.tup [(.tup [(.cst (.int (2)))]), (.cst (.int (1))), (.cst (.str (Str.ofString "stay"))), (.cst (.bl false))]), (.var 2), (.cst (.int (1)))]) (.cst .non)))] }
/-- law@k15 -/
def F_law_k15 : Fn := { np := 1, ns := 5, keep := false, body := [
  .for_ (.nm 1) (.rng none (.blt false .max [(.cst (.int (4))), (.blt false .min [(.cst (.int (8))), (.blt false .len [(.var 0)])])])) [.set (.nm 2) (.call true 0 [(.var 0), (.var 1)]), .set (.nm 3) (.bin false .sub (.bin false .pow (.cst (.int (10))) (.cst (.int (30)))) (.call true 3 [(.var 2), (.cst (.int (999)))])), .ife (.cmp .ne (.lst false [(.call false 6 [(.tup [(.cst (.str (Str.ofString "pressed"))), (.cst (.int (2))), (.cst (.str (Str.ofString "wait"))), (.cst (.bl true))]), (.var 3)]), (.call false 10 [(.tup [(.cst (.str (Str.ofString "bounce"))), (.cst (.int (2))), (.cst (.str (Str.ofString "stay"))), (.cst (.bl false))]), (.var 3), (.bin false .sub (.var 3) (.cst (.int (1))))])]) (.lst false [(.var 3), (.bin false .sub (.var 3) (.cst (.int (1))))])) [.ret (.cst (.bl false))] [], .set (.nm 4) (.call true 3 [(.var 2), (.cst (.int (999)))]), .ife (.or (.cmp .ne (.call false 5 [(.tup [(.cst (.str (Str.ofString "up"))), (.cst (.int (2))), (.cst (.str (Str.ofString "stay"))), (.cst (.bl false))]), (.var 3), (.var 4)]) (.tup [(.var 4), (.cst (.int (0)))])) (.cmp .ne (.call false 5 [(.tup [(.cst (.str (Str.ofString "down"))), (.cst (.int (1))), (.cst (.str (Str.ofString "stay"))), (.cst (.bl false))]), (.var 3), (.var 4)]) (.tup [(.bin false .sub (.bin false .sub (.var 3) (.cst (.int (1)))) (.var 4)), (.cst (.int (0)))]))) [.ret (.cst (.bl false))] [], .ife (.or (.cmp .ne (.call false 5 [(.tup [(.cst (.str (Str.ofString "twice"))), (.cst (.int (1))), (.cst (.str (Str.ofString "stay"))), (.cst (.bl false))]), (.cst (.int (1))), (.var 3)]) (.tup [(.cst (.int (0))), (.cst (.int (0)))])) (.cmp .ne (.call false 5 [(.tup [(.tup [(.cst (.int (0))), (.cst (.int (1)))]), (.cst (.int (1))), (.cst (.str (Str.ofString "stay"))), (.cst (.bl false))]), (.var 3), (.bin false .add (.bin false .mul (.cst (.int (2))) (.var 4)) (.cst (.int (1))))]) (.tup [(.var 4), (.cst (.int (0)))]))) [.ret (.cst (.bl false))] []],
  .ret (.call false 115 [])] }
def FN : Nat → Option Fn
  | 0 => some F__law_vat
  | 1 => some F__law_machine
  | 2 => some F__law_some
  | 3 => some F__law_under
  | 4 => some F__law_rung
  | 5 => some F_note_at
  | 6 => some F_heard
  | 7 => some F__law_heard
  | 8 => some F__law_first_right
  | 9 => some F__law_known
  | 10 => some F_first_heard
  | 11 => some F_law_k04
  | 12 => some F_need_both
  | 13 => some F_need_number
  | 14 => some F_rung_at
  | 15 => some F_common
  | 16 => some F_sums_of
  | 17 => some F__law_common
  | 18 => some F_first_place
  | 19 => some F_need_machine
  | 20 => some F_is_whole
  | 22 => some F_inverse
  | 23 => some F_is_good
  | 25 => some F_is_pattern
  | 26 => some F_round_with
  | 27 => some F_note_of
  | 28 => some F_are_keys
  | 29 => some F_is_tick
  | 30 => some F_held_behind
  | 31 => some F_kept_behind
  | 32 => some F_taken
  | 33 => some F_step
  | 34 => some F_goes
  | 35 => some F_is_good_run
  | 37 => some F_need_run
  | 38 => some F_played
  | 39 => some F_cycle_of
  | 40 => some F_is_machine
  | 41 => some F_is_run
  | 42 => some F_notes
  | 44 => some F_cycle
  | 45 => some F__law_is_whole
  | 46 => some F__law_truly
  | 47 => some F__law_is_machine
  | 48 => some F__law_are_keys
  | 49 => some F__law_goes
  | 50 => some F__law_run
  | 51 => some F__law_spoilt
  | 52 => some F__law_bad_machines
  | 53 => some F__law_bad_runs
  | 54 => some F__law_turn
  | 55 => some F__law_ladder
  | 56 => some F__law_cycle
  | 57 => some F__law_after
  | 58 => some F__law_play
  | 59 => some F__law_written_k02
  | 60 => some F__law_written_k03
  | 62 => some F_need_keys
  | 64 => some F_need_key
  | 65 => some F_lots_of
  | 66 => some F_ticks_of
  | 67 => some F_common_round
  | 68 => some F_folded
  | 69 => some F_next_state
  | 70 => some F_unheard_ways
  | 74 => some F_greatest_wait
  | 75 => some F__law_lots
  | 76 => some F__law_ticks
  | 77 => some F__law_fold
  | 79 => some F__law_firsts
  | 80 => some F_is_part
  | 81 => some F_led
  | 82 => some F_is_unheard
  | 84 => some F_starves
  | 85 => some F__law_is_part
  | 86 => some F__law_is_shape
  | 87 => some F__law_starves
  | 88 => some F__law_drawn
  | 89 => some F_is_met
  | 90 => some F_need_all
  | 92 => some F_alike
  | 93 => some F_parting
  | 94 => some F__law_near
  | 95 => some F_is_note
  | 96 => some F_word_machines
  | 97 => some F_orders_of
  | 99 => some F_machines_told
  | 100 => some F_held_told
  | 101 => some F__law_words
  | 102 => some F__law_orders
  | 103 => some F__law_begins
  | 104 => some F__law_written_k09
  | 105 => some F_whole_in
  | 106 => some F_machine_in
  | 108 => some F_machine_text
  | 109 => some F__law_a_tick
  | 110 => some F__law_later
  | 111 => some F__law_steady_right
  | 114 => some F_law_k14
  | 115 => some F__law_written_k15
  | 116 => some F_law_k15
  | _ => none

end KG

set_option Elab.async false
set_option linter.all false
/-! IpMath: rules of the evaluator for the laws' mathematics. -/
namespace Ip
theorem wip_len : ∀ (l : List Nat) (ρ : Rho), (wip ρ l).length = ρ.length
  | [], ρ => rfl
  | a :: l, ρ => by rw [wip, List.length_set, wip_len l]
section
variable {cb : Cb} {CN : Nat → Option P} {W : Nat}
/-- a comprehension, item by item -/
theorem comp_gen {m : Bool} {elt : CE} {t : Tg} {it : It} {ifs : Option CE} {own : List Nat} {ρ : Rho} {M : Hm} {qs : List P} {f : P → Option P} (hi : evI cb CN it ρ M = .ok qs M) (hl : qs.length ≤ LIM) (h : ∀ q ∈ qs, stepC cb CN elt t ifs own ρ q M = .ok (f q) M) :
    evE cb CN (.comp m elt t it ifs own) ρ M = mk m (.lst (qs.filterMap f)) M := by
  rw [comp_eq, hi]
  simp only [R.bind]
  rw [if_pos hl, cmpL_map h]
  rfl
theorem comp_map {m : Bool} {elt : CE} {i : Nat} {it : It} {own : List Nat} {ρ : Rho} {M : Hm} {qs : List P} {f : P → P} (hi : evI cb CN it ρ M = .ok qs M) (hl : qs.length ≤ LIM) (hw : i < ρ.length) (h : ∀ q ∈ qs, evE cb CN elt ((wip ρ own).set i (some (.p q))) M = .ok (.p (f q)) M) :
    evE cb CN (.comp m elt (.nm i) it none own) ρ M = mk m (.lst (qs.map f)) M := by
  rw [comp_gen (f := fun q => some (f q)) hi hl fun q hq => ?_]
  · rw [List.filterMap_eq_map']
  · unfold stepC put
    rw [if_pos (by rw [wip_len]; exact hw)]
    simp only [testC, R.bind, valC, if_true, h q hq]
theorem comp_filter {m : Bool} {elt c : CE} {i : Nat} {it : It} {own : List Nat} {ρ : Rho} {M : Hm} {qs : List P} {f : P → P} {p : P → Bool} (hi : evI cb CN it ρ M = .ok qs M) (hl : qs.length ≤ LIM) (hw : i < ρ.length) (hp : ∀ q ∈ qs, evT cb CN c ((wip ρ own).set i (some (.p q))) M = .ok (p q) M)
    (h : ∀ q ∈ qs, p q = true → evE cb CN elt ((wip ρ own).set i (some (.p q))) M = .ok (.p (f q)) M) : evE cb CN (.comp m elt (.nm i) it (some c) own) ρ M = mk m (.lst ((qs.filter p).map f)) M := by
  rw [comp_gen (f := fun q => if p q then some (f q) else none) hi hl fun q hq => ?_]
  · congr 2
    clear hi hl hp h
    induction qs with
    | nil => rfl
    | cons q qs ih => cases e : p q <;> simp [List.filterMap_cons, List.filter_cons, e, ih]
  · unfold stepC put
    rw [if_pos (by rw [wip_len]; exact hw)]
    simp only [testC, hp q hq, R.bind]
    cases e : p q with
    | true => simp only [valC, if_true, h q hq e, R.bind]
    | false => rfl
/-- two clauses, the inner over the outer's item -/
theorem comp2_gen {m : Bool} {elt : CE} {t t1 : Tg} {it it1 : It} {ifs : Option CE} {own own1 : List Nat} {ρ : Rho} {M : Hm} {qs : List P} {g : P → List P} (hi : evI cb CN it ρ M = .ok qs M) (hl : qs.length ≤ LIM)
    (h : ∀ q ∈ qs, ∀ acc, innerC cb CN elt t t1 it1 ifs own own1 ρ q acc M = .ok (acc ++ g q) M) : evE cb CN (.comp2 m elt t it t1 it1 ifs own own1) ρ M = mk m (.lst (qs.map g).flatten) M := by
  rw [comp2_eq, hi]
  simp only [R.bind]
  rw [if_pos hl, cmpO_map h]
  rfl
/-- a for loop that always goes on; the state behind each turn by a relation -/
theorem for_inv {t : Tg} {it : It} {body : List CS} {ρ : Rho} {M : Hm} {qs : List P} (Inv : Nat → Rho → Hm → Prop) (hi : evI cb CN it ρ M = .ok qs M) (h0 : Inv 0 ρ M) (hs : ∀ i q ρ M, qs[i]? = some q → Inv i ρ M → ∃ ρ1 ρ2 M2, put t q ρ = some ρ1 ∧ (evB cb CN W body ρ1 M = .next ρ2 M2 ∨ evB cb CN W body ρ1 M = .cont ρ2 M2) ∧ Inv (i + 1) ρ2 M2) :
    ∃ ρ' M', evS cb CN W (.for_ t it body) ρ M = .next ρ' M' ∧ Inv qs.length ρ' M' := by
  obtain ⟨ρ', M', e, h⟩ := forL_inv (pt := put t) (body := evB cb CN W body) Inv qs 0 ρ M (fun i q ρ M hq hI => by rw [Nat.zero_add] at hI ⊢; exact hs i q ρ M hq hI) h0
  refine ⟨ρ', M', ?_, by rw [Nat.zero_add] at h; exact h⟩
  rw [evS, hi]
  exact e
/-- blocks -/
theorem evB_cons {s : CS} {ss : List CS} {ρ ρ' : Rho} {M M' : Hm} (h : evS cb CN W s ρ M = .next ρ' M') : evB cb CN W (s :: ss) ρ M = evB cb CN W ss ρ' M' := by
  rw [evB, h]
  rfl
theorem evB_ret {s : CS} {ss : List CS} {ρ : Rho} {M M' : Hm} {u : U} (h : evS cb CN W s ρ M = .ret u M') : evB cb CN W (s :: ss) ρ M = .ret u M' := by
  rw [evB, h]
  rfl
theorem evB_ex {s : CS} {ss : List CS} {ρ ρ' : Rho} {M M' : Hm} {c : Nat} (h : evS cb CN W s ρ M = .ex c ρ' M') : evB cb CN W (s :: ss) ρ M = .ex c ρ' M' := by
  rw [evB, h]
  rfl
theorem evS_ret {e : CE} {ρ : Rho} {M M' : Hm} {u : U} (h : evE cb CN e ρ M = .ok u M') : evS cb CN W (.ret e) ρ M = .ret u M' := by
  rw [evS, h]
  rfl
theorem evS_set {i : Nat} {e : CE} {ρ : Rho} {M M' : Hm} {u : U} (h : evE cb CN e ρ M = .ok u M') (hi : i < ρ.length) : evS cb CN W (.set (.nm i) e) ρ M = .next (ρ.set i (some u)) M' := by
  rw [evS, h]
  simp only [R.st, putU]
  rw [if_pos hi]
end
/-- a call of data -/
theorem callN_data {FN : Nat → Option Fn} {CN : Nat → Option P} {W n g : Nat} {us : List U} {F : Fn} {x : P} {M' : Hm} (hF : FN g = some F) (hk : F.keep = false) (hl : us.length = F.np) (h : evB (callN FN CN W n) CN W F.body (us.map some ++ List.replicate (F.ns - F.np) none) [] = .ret (.p x) M') : callN FN CN W (n + 1) g us [] = .ok (.p x) [] := by
  rw [callN, hF]
  simp only [hl, if_true, h, finR, hk]
  rfl
theorem rngP_nat (m : Nat) : rngP 0 (m : Int) = (List.range m).map fun (k : Nat) => P.int (k : Int) := by
  unfold rngP
  simp
end Ip
namespace Ip
section
variable {cb : Cb} {CN : Nat → Option P} {W : Nat}
theorem evB_set {i : Nat} {e : CE} {ss : List CS} {ρ : Rho} {M M' : Hm} {u : U} (h : evE cb CN e ρ M = .ok u M') (hi : i < ρ.length) : evB cb CN W (.set (.nm i) e :: ss) ρ M = evB cb CN W ss (ρ.set i (some u)) M' := evB_cons (evS_set h hi)
theorem evB_for {t : Tg} {it : It} {body ss : List CS} {ρ : Rho} {M : Hm} {qs : List P} {r : RS} (Inv : Nat → Rho → Hm → Prop) (hi : evI cb CN it ρ M = .ok qs M) (h0 : Inv 0 ρ M) (hs : ∀ i q ρ M, qs[i]? = some q → Inv i ρ M → ∃ ρ1 ρ2 M2, put t q ρ = some ρ1 ∧ (evB cb CN W body ρ1 M = .next ρ2 M2 ∨ evB cb CN W body ρ1 M = .cont ρ2 M2) ∧ Inv (i + 1) ρ2 M2)
    (hk : ∀ ρ' M', Inv qs.length ρ' M' → evB cb CN W ss ρ' M' = r) : evB cb CN W (.for_ t it body :: ss) ρ M = r := by
  obtain ⟨ρ', M', e, h⟩ := for_inv (W := W) Inv hi h0 hs
  rw [evB_cons e]
  exact hk ρ' M' h
theorem evB_one {e : CE} {ss : List CS} {ρ : Rho} {M M' : Hm} {u : U} (h : evE cb CN e ρ M = .ok u M') : evB cb CN W (.ret e :: ss) ρ M = .ret u M' := evB_ret (evS_ret h)
end
end Ip
namespace Ip
theorem cmpO_map2 {inner : P → List P → Hm → R (List P)} {g : P → List P} {M : Hm} {b : Nat} : ∀ {qs acc : List P}, (∀ q ∈ qs, (g q).length ≤ b) → (∀ q ∈ qs, ∀ acc, acc.length + (g q).length ≤ LIM → inner q acc M = .ok (acc ++ g q) M) → acc.length + qs.length * b ≤ LIM → cmpO inner qs acc M = .ok (acc ++ (qs.map g).flatten) M
  | [], acc, _, _, _ => by simp [cmpO]
  | q :: qs, acc, hb, h, hl => by
    have b1 := hb q List.mem_cons_self
    rw [List.length_cons, Nat.succ_mul] at hl
    rw [cmpO, h q List.mem_cons_self acc (by omega)]
    show cmpO inner qs (acc ++ g q) M = _
    rw [cmpO_map2 (b := b) (fun p hp => hb p (List.mem_cons_of_mem _ hp)) (fun p hp => h p (List.mem_cons_of_mem _ hp)) (by rw [List.length_append]; omega)]
    simp
section
variable {cb : Cb} {CN : Nat → Option P} {W : Nat}
theorem comp2_map {m : Bool} {elt : CE} {i i1 : Nat} {it it1 : It} {own own1 : List Nat} {ρ : Rho} {M : Hm} {qs : List P} {its : P → List P} {f : P → P → P} (b : Nat) (hi : evI cb CN it ρ M = .ok qs M) (hl : qs.length ≤ LIM) (hb : ∀ q ∈ qs, (its q).length ≤ b) (hlb : qs.length * b ≤ LIM) (hi0 : i < ρ.length) (hi1 : i1 < ρ.length)
    (h1 : ∀ q ∈ qs, evI cb CN it1 ((wip ρ own).set i (some (.p q))) M = .ok (its q) M) (h2 : ∀ q ∈ qs, ∀ p ∈ its q, evE cb CN elt ((wip ((wip ρ own).set i (some (.p q))) own1).set i1 (some (.p p))) M = .ok (.p (f q p)) M) :
    evE cb CN (.comp2 m elt (.nm i) it (.nm i1) it1 none own own1) ρ M = mk m (.lst (qs.map fun q => (its q).map (f q)).flatten) M := by
  rw [comp2_eq, hi]
  simp only [R.bind]
  rw [if_pos hl, cmpO_map2 (g := fun q => (its q).map (f q)) (b := b) (fun q hq => by rw [List.length_map]; exact hb q hq) (fun q hq acc ha => ?_) (by rw [List.length_nil, Nat.zero_add]; exact hlb)]
  · rfl
  · rw [List.length_map] at ha
    unfold innerC put
    rw [if_pos (by rw [wip_len]; exact hi0)]
    simp only [h1 q hq]
    rw [if_pos ha, cmpL_map (f := fun p => some (f q p)) fun p hp => ?_]
    · rw [List.filterMap_eq_map']
    · unfold stepC put
      rw [if_pos (by rw [wip_len, List.length_set, wip_len]; exact hi1)]
      simp only [testC, R.bind, valC, if_true, h2 q hq p hp]
end
end Ip
namespace Ip
@[simp] theorem R.ok_bind {α β : Type} {a : α} {M : Hm} {f : α → Hm → R β} : (R.ok a M).bind f = f a M := rfl
@[simp] theorem R.of_some {α : Type} {a : α} {M : Hm} : R.of (some a) M = .ok a M := rfl
section
variable {cb : Cb} {CN : Nat → Option P} {W : Nat}
theorem ev_blt1 {m : Bool} {f : Bf} {e : CE} {ρ : Rho} {M M' : Hm} {u : U} {p q : P} (h : evE cb CN e ρ M = .ok u M') (hr : rd M' u = some p) (hb : bltP f [p] = some q) : evE cb CN (.blt m f [e]) ρ M = mk m q M' := by
  rw [evE, evU, h]
  simp only [R.ok_bind, evU, rdAll, hr, R.of_some, hb]
theorem ev_seq {e : CE} {ρ : Rho} {M M' : Hm} {p : P} {qs : List P} (h : evE cb CN e ρ M = .ok (.p p) M') (hs : seqOf p = some qs) : evI cb CN (.seq e) ρ M = .ok qs M' := by
  rw [evI, h]
  simp only [R.ok_bind, hs, R.of_some]
end
end Ip

set_option Elab.async false
set_option linter.all false
/-! IpSat: blocks run forward, by what is wanted behind them. -/
namespace Ip
/-- what is wanted behind a block -/
structure Post where
  nx : Rho → Hm → Prop
  rt : U → Hm → Prop := fun _ _ => False
  ct : Rho → Hm → Prop := fun _ _ => False
  bk : Rho → Hm → Prop := fun _ _ => False
  ex : Nat → Hm → Prop := fun _ _ => False
/-- other wishes for going on -/
def Post.wn (Q : Post) (f : Rho → Hm → Prop) : Post := { Q with nx := f }
/-- a loop's turn -/
def Post.lp (Q : Post) (f : Rho → Hm → Prop) : Post := { nx := f, ct := f, rt := Q.rt, bk := Q.nx, ex := Q.ex }
@[simp] theorem wn_nx {Q : Post} {f : Rho → Hm → Prop} {ρ : Rho} {M : Hm} : (Q.wn f).nx ρ M = f ρ M := rfl
@[simp] theorem wn_rt {Q : Post} {f : Rho → Hm → Prop} : (Q.wn f).rt = Q.rt := rfl
@[simp] theorem wn_ct {Q : Post} {f : Rho → Hm → Prop} : (Q.wn f).ct = Q.ct := rfl
@[simp] theorem wn_bk {Q : Post} {f : Rho → Hm → Prop} : (Q.wn f).bk = Q.bk := rfl
@[simp] theorem wn_ex {Q : Post} {f : Rho → Hm → Prop} : (Q.wn f).ex = Q.ex := rfl
@[simp] theorem lp_nx {Q : Post} {f : Rho → Hm → Prop} {ρ : Rho} {M : Hm} : (Q.lp f).nx ρ M = f ρ M := rfl
@[simp] theorem lp_ct {Q : Post} {f : Rho → Hm → Prop} {ρ : Rho} {M : Hm} : (Q.lp f).ct ρ M = f ρ M := rfl
@[simp] theorem lp_rt {Q : Post} {f : Rho → Hm → Prop} : (Q.lp f).rt = Q.rt := rfl
@[simp] theorem lp_bk {Q : Post} {f : Rho → Hm → Prop} {ρ : Rho} {M : Hm} : (Q.lp f).bk ρ M = Q.nx ρ M := rfl
@[simp] theorem lp_ex {Q : Post} {f : Rho → Hm → Prop} : (Q.lp f).ex = Q.ex := rfl
def RS.sat : RS → Post → Prop
  | .next ρ M, Q => Q.nx ρ M
  | .ret u M, Q => Q.rt u M
  | .brk ρ M, Q => Q.bk ρ M
  | .cont ρ M, Q => Q.ct ρ M
  | .ex c _ M, Q => Q.ex c M
  | .no, _ => False
/-- an expression's -/
def R.sat {α : Type} : R α → (α → Hm → Prop) → (Nat → Hm → Prop) → Prop
  | .ok a M, Q, _ => Q a M
  | .ex c M, _, E => E c M
  | .no, _, _ => False
@[simp] theorem sat_next {ρ : Rho} {M : Hm} {Q : Post} : (RS.next ρ M).sat Q = Q.nx ρ M := rfl
@[simp] theorem sat_ret {u : U} {M : Hm} {Q : Post} : (RS.ret u M).sat Q = Q.rt u M := rfl
@[simp] theorem sat_brk {ρ : Rho} {M : Hm} {Q : Post} : (RS.brk ρ M).sat Q = Q.bk ρ M := rfl
@[simp] theorem sat_cont {ρ : Rho} {M : Hm} {Q : Post} : (RS.cont ρ M).sat Q = Q.ct ρ M := rfl
@[simp] theorem sat_ex {ρ : Rho} {M : Hm} {c : Nat} {Q : Post} : (RS.ex c ρ M).sat Q = Q.ex c M := rfl
@[simp] theorem sat_thn {r : RS} {f : Rho → Hm → RS} {Q : Post} : (r.thn f).sat Q = r.sat (Q.wn fun ρ M => (f ρ M).sat Q) := by
  cases r <;> rfl
@[simp] theorem R.ok_st {α : Type} {a : α} {M : Hm} {ρ : Rho} {f : α → Hm → RS} : (R.ok a M).st ρ f = f a M := rfl
@[simp] theorem R.ex_st {α : Type} {c : Nat} {M : Hm} {ρ : Rho} {f : α → Hm → RS} : (R.ex c M : R α).st ρ f = .ex c ρ M := rfl
@[simp] theorem R.ex_bind {α β : Type} {c : Nat} {M : Hm} {f : α → Hm → R β} : (R.ex c M).bind f = .ex c M := rfl
section
variable {cb : Cb} {CN : Nat → Option P} {W : Nat}
theorem sat_nil {ρ : Rho} {M : Hm} {Q : Post} : (evB cb CN W [] ρ M).sat Q = Q.nx ρ M := by rw [evB]; rfl
theorem sat_cons {s : CS} {ss : List CS} {ρ : Rho} {M : Hm} {Q : Post} : (evB cb CN W (s :: ss) ρ M).sat Q = (evS cb CN W s ρ M).sat (Q.wn fun ρ M => (evB cb CN W ss ρ M).sat Q) := by
  rw [evB, sat_thn]
theorem sat_one {s : CS} {ρ : Rho} {M : Hm} {Q : Post} : (evB cb CN W [s] ρ M).sat Q = (evS cb CN W s ρ M).sat Q := by
  rw [sat_cons]
  have : (Q.wn fun ρ M => (evB cb CN W [] ρ M).sat Q) = Q := by
    unfold Post.wn
    simp only [sat_nil]
  rw [this]
/-- a for; the items q before this turn are the invariant's list -/
theorem sat_forL {pt : P → Rho → Option Rho} {body : Rho → Hm → RS} {Q : Post} (Inv : List P → Rho → Hm → Prop) : ∀ (pre qs : List P) (ρ : Rho) (M : Hm), Inv pre ρ M →
    (∀ pre' q post ρ M, pre ++ qs = pre' ++ q :: post → Inv pre' ρ M → ∃ ρ1, pt q ρ = some ρ1 ∧ (body ρ1 M).sat (Q.lp (Inv (pre' ++ [q])))) →
    (∀ ρ M, Inv (pre ++ qs) ρ M → Q.nx ρ M) → (forL pt body qs ρ M).sat Q
  | pre, [], ρ, M, h0, _, hk => by
    rw [forL]
    rw [List.append_nil] at hk
    exact hk ρ M h0
  | pre, q :: qs, ρ, M, h0, hs, hk => by
    obtain ⟨ρ1, e1, h1⟩ := hs pre q qs ρ M rfl h0
    rw [forL, e1]
    simp only
    have e : pre ++ q :: qs = (pre ++ [q]) ++ qs := by simp
    have go : ∀ ρ M, Inv (pre ++ [q]) ρ M → (forL pt body qs ρ M).sat Q := fun ρ M h => sat_forL Inv (pre ++ [q]) qs ρ M h (fun pre' q' post ρ M e' => hs pre' q' post ρ M (by rw [e]; exact e')) (fun ρ M h => hk ρ M (by rw [e]; exact h))
    generalize body ρ1 M = r at h1
    cases r with
    | next ρ M => exact go ρ M h1
    | cont ρ M => exact go ρ M h1
    | brk ρ M => exact h1
    | ret u M => exact h1
    | ex c ρ M => exact h1
    | no => exact h1
theorem sat_for {t : Tg} {it : It} {body : List CS} {ρ : Rho} {M M1 : Hm} {Q : Post} {qs : List P} (Inv : List P → Rho → Hm → Prop) (hi : evI cb CN it ρ M = .ok qs M1) (h0 : Inv [] ρ M1)
    (hs : ∀ pre q post ρ M, qs = pre ++ q :: post → Inv pre ρ M → ∃ ρ1, put t q ρ = some ρ1 ∧ (evB cb CN W body ρ1 M).sat (Q.lp (Inv (pre ++ [q])))) (hk : ∀ ρ M, Inv qs ρ M → Q.nx ρ M) : (evS cb CN W (.for_ t it body) ρ M).sat Q := by
  rw [evS, hi]
  exact sat_forL Inv [] qs ρ M1 h0 hs hk
/-- a while: a measure that falls -/
theorem sat_whlL {test : Rho → Hm → R Bool} {body : Rho → Hm → RS} {Q : Post} (Inv : Nat → Rho → Hm → Prop) (hs : ∀ m ρ M, Inv m ρ M → ∃ b M1, test ρ M = .ok b M1 ∧ if b then (body ρ M1).sat (Q.lp (fun ρ M => ∃ m', m' < m ∧ Inv m' ρ M)) else Q.nx ρ M1) :
    ∀ (W m : Nat) (ρ : Rho) (M : Hm), m < W → Inv m ρ M → (whlL test body W ρ M).sat Q
  | 0, m, _, _, h, _ => absurd h (Nat.not_lt_zero m)
  | W + 1, m, ρ, M, hW, h => by
    rw [whlL]
    obtain ⟨b, M1, e, h1⟩ := hs m ρ M h
    rw [e]
    cases b with
    | false => exact h1
    | true =>
      simp only [R.ok_st, if_true] at h1 ⊢
      have go : ∀ ρ M, (∃ m', m' < m ∧ Inv m' ρ M) → (whlL test body W ρ M).sat Q := fun ρ M ⟨m', hm, hi⟩ => sat_whlL Inv hs W m' ρ M (by omega) hi
      generalize body ρ M1 = r at h1
      cases r with
      | next ρ M => exact go ρ M h1
      | cont ρ M => exact go ρ M h1
      | brk ρ M => exact h1
      | ret u M => exact h1
      | ex c ρ M => exact h1
      | no => exact h1
theorem sat_whl {c : CE} {body : List CS} {ρ : Rho} {M : Hm} {Q : Post} (Inv : Nat → Rho → Hm → Prop) (m : Nat) (hW : m < W) (h0 : Inv m ρ M)
    (hs : ∀ m ρ M, Inv m ρ M → ∃ b M1, evT cb CN c ρ M = .ok b M1 ∧ if b then (evB cb CN W body ρ M1).sat (Q.lp (fun ρ M => ∃ m', m' < m ∧ Inv m' ρ M)) else Q.nx ρ M1) : (evS cb CN W (.whl c body) ρ M).sat Q := by
  rw [evS]
  exact sat_whlL Inv hs W m ρ M hW h0
end
/-- a call whose end is data -/
def Rt (x : P) : Post := { nx := fun _ _ => x = .non, rt := fun u _ => u = .p x }
@[simp] theorem Rt_rt {x : P} {u : U} {M : Hm} : (Rt x).rt u M = (u = .p x) := rfl
@[simp] theorem Rt_nx {x : P} {ρ : Rho} {M : Hm} : (Rt x).nx ρ M = (x = .non) := rfl
theorem callN_sat {FN : Nat → Option Fn} {CN : Nat → Option P} {W n g : Nat} {us : List U} {F : Fn} {x : P} (hF : FN g = some F) (hk : F.keep = false) (hl : us.length = F.np) (h : (evB (callN FN CN W n) CN W F.body (us.map some ++ List.replicate (F.ns - F.np) none) []).sat (Rt x)) : callN FN CN W (n + 1) g us [] = .ok (.p x) [] := by
  rw [callN, hF]
  simp only [hl, if_true]
  generalize evB (callN FN CN W n) CN W F.body (us.map some ++ List.replicate (F.ns - F.np) none) [] = r at h
  cases r with
  | next ρ M => have h : x = .non := h; subst h; simp only [finR, hk]; rfl
  | ret u M => have h : u = .p x := h; subst h; simp only [finR, hk]; rfl
  | brk ρ M => exact h.elim
  | cont ρ M => exact h.elim
  | ex c ρ M => exact h.elim
  | no => exact h.elim
/-- .. an exception -/
def Ex (c : Nat) : Post := { nx := fun _ _ => False, ex := fun d _ => d = c }
@[simp] theorem Ex_ex {c d : Nat} {M : Hm} : (Ex c).ex d M = (d = c) := rfl
theorem callN_satE {FN : Nat → Option Fn} {CN : Nat → Option P} {W n g : Nat} {us : List U} {F : Fn} {c : Nat} (hF : FN g = some F) (hk : F.keep = false) (hl : us.length = F.np) (h : (evB (callN FN CN W n) CN W F.body (us.map some ++ List.replicate (F.ns - F.np) none) []).sat (Ex c)) : callN FN CN W (n + 1) g us [] = .ex c [] := by
  rw [callN, hF]
  simp only [hl, if_true]
  generalize evB (callN FN CN W n) CN W F.body (us.map some ++ List.replicate (F.ns - F.np) none) [] = r at h
  cases r with
  | next ρ M => exact h.elim
  | ret u M => exact h.elim
  | brk ρ M => exact h.elim
  | cont ρ M => exact h.elim
  | ex d ρ M => have h : d = c := h; subst h; simp only [finR, hk]; rfl
  | no => exact h.elim
section
variable {cb : Cb} {CN : Nat → Option P} {W : Nat}
theorem qE_var (i : Nat) (ρ : Rho) (M : Hm) : evE cb CN (.var i) ρ M = (match ρ[i]? with
    | some (some u) => .ok u M
    | _ => .no : R U) := by first | (rw [evE]; done) | (rw [evE]; rfl)
theorem qE_cst (p : P) (ρ : Rho) (M : Hm) : evE cb CN (.cst p) ρ M = (.ok (.p p) M : R U) := by first | (rw [evE]; done) | (rw [evE]; rfl)
theorem qE_con (c : Nat) (ρ : Rho) (M : Hm) : evE cb CN (.con c) ρ M = (R.of ((CN c).map .p) M : R U) := by first | (rw [evE]; done) | (rw [evE]; rfl)
theorem qE_glb (g : Nat) (ρ : Rho) (M : Hm) : evE cb CN (.glb g) ρ M = (.ok (.p (.glb g)) M : R U) := by first | (rw [evE]; done) | (rw [evE]; rfl)
theorem qE_tup (es : List CE) (ρ : Rho) (M : Hm) : evE cb CN (.tup es) ρ M = ((evU cb CN es ρ M).bind fun us M => (R.of (asPs us) M).bind fun ps M => .ok (.p (.tup ps)) M : R U) := by first | (rw [evE]; done) | (rw [evE]; rfl)
theorem qE_lst (m : Bool) (es : List CE) (ρ : Rho) (M : Hm) : evE cb CN (.lst m es) ρ M = ((evU cb CN es ρ M).bind fun us M => (R.of (asPs us) M).bind fun ps M => mk m (.lst ps) M : R U) := by first | (rw [evE]; done) | (rw [evE]; rfl)
theorem qE_bin (m : Bool) (op : BOp) (a : CE) (b : CE) (ρ : Rho) (M : Hm) : evE cb CN (.bin m op a b) ρ M = ((evE cb CN a ρ M).bind fun x M => (evE cb CN b ρ M).bind fun y M => match rd M x, rd M y with
    | some p, some q => (R.of (binP op p q) M).bind (mk m)
    | _, _ => .no : R U) := by first | (rw [evE]; done) | (rw [evE]; rfl)
theorem qE_neg (a : CE) (ρ : Rho) (M : Hm) : evE cb CN (.neg a) ρ M = ((evE cb CN a ρ M).bind fun x M => match x with
    | .p (.int i) => .ok (.p (.int (-i))) M
    | _ => .no : R U) := by first | (rw [evE]; done) | (rw [evE]; rfl)
theorem qE_cmp (op : COp) (a : CE) (b : CE) (ρ : Rho) (M : Hm) : evE cb CN (.cmp op a b) ρ M = ((evE cb CN a ρ M).bind fun x M => (evE cb CN b ρ M).bind fun y M => match rd M x, rd M y with
    | some p, some q => (R.of (cmpP op p q) M).bind fun c M => .ok (.p (.bl c)) M
    | _, _ => .no : R U) := by first | (rw [evE]; done) | (rw [evE]; rfl)
theorem qE_cmp2 (op : COp) (op' : COp) (a : CE) (b : CE) (c : CE) (ρ : Rho) (M : Hm) : evE cb CN (.cmp2 op op' a b c) ρ M = ((evE cb CN a ρ M).bind fun x M => (evE cb CN b ρ M).bind fun y M => match rd M x, rd M y with
    | some p, some q => (R.of (cmpP op p q) M).bind fun k M => if k then (evE cb CN c ρ M).bind fun z M => (match rd M y, rd M z with
        | some q, some r => (R.of (cmpP op' q r) M).bind fun k M => .ok (.p (.bl k)) M
        | _, _ => .no) else .ok (.p (.bl false)) M
    | _, _ => .no : R U) := by first | (rw [evE]; done) | (rw [evE]; rfl)
theorem qE_and (a : CE) (b : CE) (ρ : Rho) (M : Hm) : evE cb CN (.and a b) ρ M = ((evE cb CN a ρ M).bind fun x M => match (rd M x).bind truP with
    | some true => evE cb CN b ρ M
    | some false => .ok x M
    | none => .no : R U) := by first | (rw [evE]; done) | (rw [evE]; rfl)
theorem qE_or (a : CE) (b : CE) (ρ : Rho) (M : Hm) : evE cb CN (.or a b) ρ M = ((evE cb CN a ρ M).bind fun x M => match (rd M x).bind truP with
    | some true => .ok x M
    | some false => evE cb CN b ρ M
    | none => .no : R U) := by first | (rw [evE]; done) | (rw [evE]; rfl)
theorem qE_not (a : CE) (ρ : Rho) (M : Hm) : evE cb CN (.not a) ρ M = ((evE cb CN a ρ M).bind fun x M => match (rd M x).bind truP with
    | some k => .ok (.p (.bl (!k))) M
    | none => .no : R U) := by first | (rw [evE]; done) | (rw [evE]; rfl)
theorem qE_ife (c : CE) (a : CE) (b : CE) (ρ : Rho) (M : Hm) : evE cb CN (.ife c a b) ρ M = ((evE cb CN c ρ M).bind fun x M => match (rd M x).bind truP with
    | some true => evE cb CN a ρ M
    | some false => evE cb CN b ρ M
    | none => .no : R U) := by first | (rw [evE]; done) | (rw [evE]; rfl)
theorem qE_call (m : Bool) (g : Nat) (es : List CE) (ρ : Rho) (M : Hm) : evE cb CN (.call m g es) ρ M = ((evU cb CN es ρ M).bind fun us M => if m then cb g us M else callD us (cb g us []) M : R U) := by first | (rw [evE]; done) | (rw [evE]; rfl)
theorem qE_blt (m : Bool) (f : Bf) (es : List CE) (ρ : Rho) (M : Hm) : evE cb CN (.blt m f es) ρ M = ((evU cb CN es ρ M).bind fun us M => (R.of (rdAll M us) M).bind fun ps M => (R.of (bltP f ps) M).bind (mk m) : R U) := by first | (rw [evE]; done) | (rw [evE]; rfl)
theorem qE_isi (e : CE) (t : Ty) (ρ : Rho) (M : Hm) : evE cb CN (.isi e t) ρ M = ((evE cb CN e ρ M).bind fun x M => (R.of (isiU M t x) M).bind fun b M => .ok (.p (.bl b)) M : R U) := by first | (rw [evE]; done) | (rw [evE]; rfl)
theorem qE_idx (o : CE) (i : CE) (ρ : Rho) (M : Hm) : evE cb CN (.idx o i) ρ M = ((evE cb CN o ρ M).bind fun x M => (evE cb CN i ρ M).bind fun y M => match (rd M x).bind itsOf, y with
    | some ps, .p (.int i) => (R.of (atP ps i) M).bind fun q M => .ok (.p q) M
    | _, _ => .no : R U) := by first | (rw [evE]; done) | (rw [evE]; rfl)
theorem qE_slc (o : CE) (lo : Option CE) (hi : Option CE) (ρ : Rho) (M : Hm) : evE cb CN (.slc o lo hi) ρ M = ((evE cb CN o ρ M).bind fun x M => (evO cb CN lo ρ M).bind fun a M => (evO cb CN hi ρ M).bind fun b M => match rd M x with
    | some (.tup ps) => .ok (.p (.tup (cutP ps a b))) M
    | some (.lst ps) => .ok (.p (.lst (cutP ps a b))) M
    | _ => .no : R U) := by first | (rw [evE]; done) | (rw [evE]; rfl)
theorem qE_rev (o : CE) (ρ : Rho) (M : Hm) : evE cb CN (.rev o) ρ M = ((evE cb CN o ρ M).bind fun x M => match rd M x with
    | some (.lst ps) => .ok (.p (.lst ps.reverse)) M
    | some (.tup ps) => .ok (.p (.tup ps.reverse)) M
    | _ => .no : R U) := by first | (rw [evE]; done) | (rw [evE]; rfl)
theorem qE_ofr (t : Bool) (m : Bool) (lo : Option CE) (hi : CE) (ρ : Rho) (M : Hm) : evE cb CN (.ofr t m lo hi) ρ M = ((evO cb CN lo ρ M).bind fun a M => (evE cb CN hi ρ M).bind fun y M => match y with
    | .p (.int j) => let i := a.getD 0
      if decide (-1000000000 ≤ i) && decide (i ≤ 1000000000) && decide (-1000000000 ≤ j) && decide (j ≤ 1000000000) && decide ((j - i).toNat ≤ LIM) then
        (if t then .ok (.p (.tup (rngP i j))) M else mk m (.lst (rngP i j)) M) else .no
    | _ => .no : R U) := by first | (rw [evE]; done) | (rw [evE]; rfl)
theorem qE_frz (e : CE) (ρ : Rho) (M : Hm) : evE cb CN (.frz e) ρ M = ((evE cb CN e ρ M).bind fun x M => match x with
    | .ref i => (match M[i]? with
      | some (.lst ps) => .ok (.p (.lst ps)) (M.set i .dead)
      | some (.dct ks vs) => .ok (.p (.dct ks vs)) (M.set i .dead)
      | _ => .no)
    | _ => .no : R U) := by first | (rw [evE]; done) | (rw [evE]; rfl)
theorem qS_set (t : Tg) (e : CE) (ρ : Rho) (M : Hm) : evS cb CN W (.set t e) ρ M = ((evE cb CN e ρ M).st ρ fun u M => match putU t u ρ with
    | some ρ' => .next ρ' M
    | none => .no : RS) := by first | (rw [evS]; done) | (rw [evS]; rfl)
theorem qS_par (i : Nat) (j : Nat) (a : CE) (b : CE) (ρ : Rho) (M : Hm) : evS cb CN W (.par i j a b) ρ M = ((evE cb CN a ρ M).st ρ fun u M => (evE cb CN b ρ M).st ρ fun w M =>
    if i < ρ.length ∧ j < ρ.length then .next ((ρ.set i (some u)).set j (some w)) M else .no : RS) := by first | (rw [evS]; done) | (rw [evS]; rfl)
theorem qS_par3 (i : Nat) (j : Nat) (k : Nat) (a : CE) (b : CE) (c : CE) (ρ : Rho) (M : Hm) : evS cb CN W (.par3 i j k a b c) ρ M = ((evE cb CN a ρ M).st ρ fun u M => (evE cb CN b ρ M).st ρ fun w M => (evE cb CN c ρ M).st ρ fun z M =>
    if i < ρ.length ∧ j < ρ.length ∧ k < ρ.length then .next (((ρ.set i (some u)).set j (some w)).set k (some z)) M else .no : RS) := by first | (rw [evS]; done) | (rw [evS]; rfl)
theorem qS_parT (is : List Nat) (es : List CE) (ρ : Rho) (M : Hm) : evS cb CN W (.parT is es) ρ M = ((evU cb CN es ρ M).st ρ fun us M => match setA ρ is us with
    | some ρ' => .next ρ' M
    | none => .no : RS) := by first | (rw [evS]; done) | (rw [evS]; rfl)
theorem qS_sub (o : CE) (i : CE) (e : CE) (ρ : Rho) (M : Hm) : evS cb CN W (.sub o i e) ρ M = ((evE cb CN e ρ M).st ρ fun u M => (evE cb CN o ρ M).st ρ fun x M => (evE cb CN i ρ M).st ρ fun y M => match u, x, y with
    | .p v, .ref a, .p (.int k) => (match M[a]? with
      | some (.lst ps) => if 0 ≤ k ∧ k < ps.length then .next ρ (M.set a (.lst (ps.set k.toNat v))) else .no
      | _ => .no)
    | _, _, _ => .no : RS) := by first | (rw [evS]; done) | (rw [evS]; rfl)
theorem qS_expr (e : CE) (ρ : Rho) (M : Hm) : evS cb CN W (.expr e) ρ M = ((evE cb CN e ρ M).st ρ fun _ M => .next ρ M : RS) := by first | (rw [evS]; done) | (rw [evS]; rfl)
theorem qS_app (o : CE) (e : CE) (ρ : Rho) (M : Hm) : evS cb CN W (.app o e) ρ M = ((evE cb CN o ρ M).st ρ fun x M => match x with
    | .ref a => (match M[a]? with
      | some (.lst _) => (evE cb CN e ρ M).st ρ fun u M => (match u, M[a]? with
        | .p v, some (.lst ps) => if ps.length < LIM then .next ρ (M.set a (.lst (ps ++ [v]))) else .no
        | _, _ => .no)
      | _ => .no)
    | _ => .no : RS) := by first | (rw [evS]; done) | (rw [evS]; rfl)
theorem qS_ife (c : CE) (a : List CS) (b : List CS) (ρ : Rho) (M : Hm) : evS cb CN W (.ife c a b) ρ M = ((evE cb CN c ρ M).st ρ fun x M => match (rd M x).bind truP with
    | some true => evB cb CN W a ρ M
    | some false => evB cb CN W b ρ M
    | none => .no : RS) := by first | (rw [evS]; done) | (rw [evS]; rfl)
theorem qS_ret (e : CE) (ρ : Rho) (M : Hm) : evS cb CN W (.ret e) ρ M = ((evE cb CN e ρ M).st ρ fun u M => .ret u M : RS) := by first | (rw [evS]; done) | (rw [evS]; rfl)
theorem qS_rais (c : Nat) (e : CE) (ρ : Rho) (M : Hm) : evS cb CN W (.rais c e) ρ M = ((evE cb CN e ρ M).st ρ fun _ M => .ex c ρ M : RS) := by first | (rw [evS]; done) | (rw [evS]; rfl)
theorem qS_brk  (ρ : Rho) (M : Hm) : evS cb CN W (.brk ) ρ M = (.brk ρ M : RS) := by first | (rw [evS]; done) | (rw [evS]; rfl)
theorem qS_cont  (ρ : Rho) (M : Hm) : evS cb CN W (.cont ) ρ M = (.cont ρ M : RS) := by first | (rw [evS]; done) | (rw [evS]; rfl)
end
section
variable {cb : Cb} {CN : Nat → Option P} {W : Nat}
theorem ev_rng {hi : CE} {ρ : Rho} {M M' : Hm} {m : Int} (h : evE cb CN hi ρ M = .ok (.p (.int m)) M') (h1 : -1000000000 ≤ m) (h2 : m ≤ 1000000000) : evI cb CN (.rng none hi) ρ M = .ok (rngP 0 m) M' := by
  rw [evI, evO]
  simp only [R.ok_bind, h]
  simp [h1, h2]
theorem ev_rng2 {lo hi : CE} {ρ : Rho} {M M' M2 : Hm} {a m : Int} (h0 : evE cb CN lo ρ M = .ok (.p (.int a)) M2) (h : evE cb CN hi ρ M2 = .ok (.p (.int m)) M') (h1 : -1000000000 ≤ m) (h2 : m ≤ 1000000000) (h3 : -1000000000 ≤ a) (h4 : a ≤ 1000000000) : evI cb CN (.rng (some lo) hi) ρ M = .ok (rngP a m) M' := by
  rw [evI, evO, h0]
  simp only [R.ok_bind, h]
  simp [h1, h2, h3, h4]
/-- for x in range(m) -/
theorem sat_forR {i m : Nat} {it : It} {body : List CS} {ρ : Rho} {M M1 : Hm} {Q : Post} (Inv : Nat → Rho → Hm → Prop) (hi : evI cb CN it ρ M = .ok (rngP 0 (m : Int)) M1) (h0 : Inv 0 ρ M1)
    (hs : ∀ k ρ M, k < m → Inv k ρ M → i < ρ.length ∧ (evB cb CN W body (ρ.set i (some (.p (.int (k : Int))))) M).sat (Q.lp (Inv (k + 1)))) (hk : ∀ ρ M, Inv m ρ M → Q.nx ρ M) : (evS cb CN W (.for_ (.nm i) it body) ρ M).sat Q := by
  refine sat_for (fun pre ρ M => Inv pre.length ρ M) hi h0 (fun pre q post ρ M e h => ?_) fun ρ M h => hk ρ M (by rw [rngP_nat, List.length_map, List.length_range] at h; exact h)
  rw [rngP_nat] at e
  have hl : pre.length < m := by
    have := congrArg List.length e
    simp at this
    omega
  have hq : q = .int (pre.length : Int) := by
    have := congrArg (fun l => l[pre.length]?) e
    simp [hl] at this
    exact this.symm
  obtain ⟨h1, h2⟩ := hs pre.length ρ M hl h
  refine ⟨ρ.set i (some (.p q)), by unfold put; rw [if_pos h1], ?_⟩
  rw [hq, List.length_append, List.length_singleton]
  exact h2
/-- for x in a list of data of one kind -/
theorem sat_forM {α : Type} {f : α → P} {i : Nat} {it : It} {body : List CS} {ρ : Rho} {M M1 : Hm} {Q : Post} (xs : List α) (Inv : List α → Rho → Hm → Prop) (hi : evI cb CN it ρ M = .ok (xs.map f) M1) (h0 : Inv [] ρ M1)
    (hs : ∀ pre x post ρ M, xs = pre ++ x :: post → Inv pre ρ M → i < ρ.length ∧ (evB cb CN W body (ρ.set i (some (.p (f x)))) M).sat (Q.lp (Inv (pre ++ [x])))) (hk : ∀ ρ M, Inv xs ρ M → Q.nx ρ M) : (evS cb CN W (.for_ (.nm i) it body) ρ M).sat Q := by
  refine sat_for (fun pre ρ M => ∃ ys post, xs = ys ++ post ∧ pre = ys.map f ∧ Inv ys ρ M) hi ⟨[], xs, rfl, rfl, h0⟩ (fun pre q post ρ M e ⟨ys, post', e1, e2, h⟩ => ?_) fun ρ M ⟨ys, post, e1, e2, h⟩ => ?_
  · subst e2
    rw [e1, List.map_append] at e
    have e3 := List.append_cancel_left e
    cases post' with
    | nil => simp at e3
    | cons x post' =>
      rw [List.map_cons] at e3
      obtain ⟨rfl, e4⟩ := List.cons.inj e3
      obtain ⟨h1, h2⟩ := hs ys x post' ρ M e1 h
      have go : ∀ ρ M, Inv (ys ++ [x]) ρ M → ∃ zs post, xs = zs ++ post ∧ ys.map f ++ [f x] = zs.map f ∧ Inv zs ρ M := fun ρ M h => ⟨ys ++ [x], post', by rw [e1]; simp, by simp, h⟩
      refine ⟨ρ.set i (some (.p (f x))), by unfold put; rw [if_pos h1], ?_⟩
      generalize evB cb CN W body (ρ.set i (some (.p (f x)))) M = r at h2
      cases r with
      | next ρ M => exact go ρ M h2
      | cont ρ M => exact go ρ M h2
      | brk ρ M => exact h2
      | ret u M => exact h2
      | ex c ρ M => exact h2
      | no => exact h2
  · have hp : post = [] := by
      have := congrArg List.length e2
      have h3 := congrArg List.length e1
      simp at this h3
      exact List.length_eq_zero_iff.mp (by omega)
    subst hp
    rw [List.append_nil] at e1
    subst e1
    exact hk ρ M h
end
section
variable {cb : Cb} {CN : Nat → Option P} {W : Nat} {α : Type}
theorem cmpL_typed {step : P → Hm → R (Option P)} {f : α → P} {g : α → Option P} {M : Hm} : ∀ {xs : List α} {acc : List P}, (∀ x ∈ xs, step (f x) M = .ok (g x) M) → cmpL step (xs.map f) acc M = .ok (acc ++ xs.filterMap g) M
  | [], acc, _ => by simp [cmpL]
  | x :: xs, acc, h => by
    rw [List.map_cons, cmpL_cons, h x List.mem_cons_self]
    simp only
    rw [cmpL_typed fun p hp => h p (List.mem_cons_of_mem _ hp)]
    cases e : g x <;> simp [List.filterMap_cons, e]
theorem comp_mapM {m : Bool} {elt : CE} {i : Nat} {it : It} {own : List Nat} {ρ : Rho} {M : Hm} (xs : List α) (f g : α → P) (hi : evI cb CN it ρ M = .ok (xs.map f) M) (hl : xs.length ≤ LIM) (hw : i < ρ.length) (h : ∀ x ∈ xs, evE cb CN elt ((wip ρ own).set i (some (.p (f x)))) M = .ok (.p (g x)) M) :
    evE cb CN (.comp m elt (.nm i) it none own) ρ M = mk m (.lst (xs.map g)) M := by
  rw [comp_eq, hi]
  simp only [R.ok_bind]
  rw [if_pos (by rw [List.length_map]; exact hl), cmpL_typed (g := fun x => some (g x)) fun x hx => ?_]
  · simp
  · unfold stepC put
    rw [if_pos (by rw [wip_len]; exact hw)]
    simp only [testC, R.bind, valC, if_true, h x hx]
theorem comp_filterM {m : Bool} {elt c : CE} {i : Nat} {it : It} {own : List Nat} {ρ : Rho} {M : Hm} (xs : List α) (f g : α → P) (p : α → Bool) (hi : evI cb CN it ρ M = .ok (xs.map f) M) (hl : xs.length ≤ LIM) (hw : i < ρ.length) (hp : ∀ x ∈ xs, evT cb CN c ((wip ρ own).set i (some (.p (f x)))) M = .ok (p x) M)
    (h : ∀ x ∈ xs, p x = true → evE cb CN elt ((wip ρ own).set i (some (.p (f x)))) M = .ok (.p (g x)) M) : evE cb CN (.comp m elt (.nm i) it (some c) own) ρ M = mk m (.lst ((xs.filter p).map g)) M := by
  rw [comp_eq, hi]
  simp only [R.ok_bind]
  rw [if_pos (by rw [List.length_map]; exact hl), cmpL_typed (g := fun x => if p x then some (g x) else none) fun x hx => ?_]
  · simp only [R.ok_bind, List.nil_append]
    congr 2
    clear hi hl hp h
    induction xs with
    | nil => rfl
    | cons q qs ih => cases e : p q <;> simp [List.filterMap_cons, List.filter_cons, e, ih]
  · unfold stepC put
    rw [if_pos (by rw [wip_len]; exact hw)]
    simp only [testC, hp x hx, R.bind]
    cases e : p x with
    | true => simp only [valC, if_true, h x hx e, R.bind]
    | false => rfl
end
section
variable {cb : Cb} {CN : Nat → Option P} {W : Nat} {α : Type}
/-- for targets in a list of data of one kind -/
theorem sat_forG {f : α → P} {t : Tg} {it : It} {body : List CS} {ρ : Rho} {M M1 : Hm} {Q : Post} (xs : List α) (Inv : List α → Rho → Hm → Prop) (hi : evI cb CN it ρ M = .ok (xs.map f) M1) (h0 : Inv [] ρ M1)
    (hs : ∀ pre x post ρ M, xs = pre ++ x :: post → Inv pre ρ M → ∃ ρ1, put t (f x) ρ = some ρ1 ∧ (evB cb CN W body ρ1 M).sat (Q.lp (Inv (pre ++ [x])))) (hk : ∀ ρ M, Inv xs ρ M → Q.nx ρ M) : (evS cb CN W (.for_ t it body) ρ M).sat Q := by
  refine sat_for (fun pre ρ M => ∃ ys post, xs = ys ++ post ∧ pre = ys.map f ∧ Inv ys ρ M) hi ⟨[], xs, rfl, rfl, h0⟩ (fun pre q post ρ M e ⟨ys, post', e1, e2, h⟩ => ?_) fun ρ M ⟨ys, post, e1, e2, h⟩ => ?_
  · subst e2
    rw [e1, List.map_append] at e
    have e3 := List.append_cancel_left e
    cases post' with
    | nil => simp at e3
    | cons x post' =>
      rw [List.map_cons] at e3
      obtain ⟨rfl, e4⟩ := List.cons.inj e3
      obtain ⟨ρ1, h1, h2⟩ := hs ys x post' ρ M e1 h
      have go : ∀ ρ M, Inv (ys ++ [x]) ρ M → ∃ zs post, xs = zs ++ post ∧ ys.map f ++ [f x] = zs.map f ∧ Inv zs ρ M := fun ρ M h => ⟨ys ++ [x], post', by rw [e1]; simp, by simp, h⟩
      refine ⟨ρ1, h1, ?_⟩
      generalize evB cb CN W body ρ1 M = r at h2
      cases r with
      | next ρ M => exact go ρ M h2
      | cont ρ M => exact go ρ M h2
      | brk ρ M => exact h2
      | ret u M => exact h2
      | ex c ρ M => exact h2
      | no => exact h2
  · have hp : post = [] := by
      have := congrArg List.length e2
      have h3 := congrArg List.length e1
      simp at this h3
      exact List.length_eq_zero_iff.mp (by omega)
    subst hp
    rw [List.append_nil] at e1
    subst e1
    exact hk ρ M h
end
section
variable {β : Type}
/-- a comprehension's turns while the heap changes -/
theorem cmpL_inv {step : P → Hm → R (Option P)} {f : β → P} (Inv : List P → List β → Hm → Prop) : ∀ (pre qs : List P) (bs : List β) (M : Hm), (∀ pre' q post bs M, pre ++ qs = pre' ++ q :: post → Inv pre' bs M → ∃ (o : Option β) (M' : Hm), step q M = .ok (o.map f) M' ∧ Inv (pre' ++ [q]) (bs ++ o.toList) M') → Inv pre bs M →
    ∃ (ys : List β) (M' : Hm), cmpL step qs (bs.map f) M = .ok (ys.map f) M' ∧ Inv (pre ++ qs) ys M'
  | pre, [], bs, M, _, h => ⟨bs, M, by rw [cmpL], by rw [List.append_nil]; exact h⟩
  | pre, q :: qs, bs, M, hs, h => by
    obtain ⟨o, M1, e, h1⟩ := hs pre q qs bs M rfl h
    have e0 : pre ++ q :: qs = (pre ++ [q]) ++ qs := by simp
    obtain ⟨ys, M', e2, h2⟩ := cmpL_inv Inv (pre ++ [q]) qs (bs ++ o.toList) M1 (fun pre' q' post bs M e' => hs pre' q' post bs M (by rw [e0]; exact e')) h1
    refine ⟨ys, M', ?_, by rw [e0]; exact h2⟩
    rw [cmpL_cons, e]
    simp only
    rw [← e2, List.map_append]
    cases o <;> rfl
end
/-- a call that gives data and may change what it was handed -/
theorem callN_satM {FN : Nat → Option Fn} {CN : Nat → Option P} {W n g : Nat} {us : List U} {F : Fn} {M : Hm} (Q : P → Hm → Prop) (hF : FN g = some F) (hk : F.keep = false) (hl : us.length = F.np) (h : (evB (callN FN CN W n) CN W F.body (us.map some ++ List.replicate (F.ns - F.np) none) M).sat { nx := fun _ M' => Q .non (M'.take M.length), rt := fun u M' => ∃ x, u = .p x ∧ Q x (M'.take M.length) }) : ∃ x M', callN FN CN W (n + 1) g us M = .ok (.p x) M' ∧ Q x M' := by
  rw [callN, hF]
  simp only [hl, if_true]
  generalize evB (callN FN CN W n) CN W F.body (us.map some ++ List.replicate (F.ns - F.np) none) M = r at h
  cases r with
  | next ρ M' => exact ⟨_, _, by simp only [finR, hk]; rfl, h⟩
  | ret u M' =>
    obtain ⟨x, rfl, hq⟩ := h
    exact ⟨_, _, by simp only [finR, hk]; rfl, hq⟩
  | brk ρ M => exact h.elim
  | cont ρ M => exact h.elim
  | ex c ρ M => exact h.elim
  | no => exact h.elim
end Ip

set_option Elab.async false
set_option linter.all false
set_option maxRecDepth 100000
set_option maxHeartbeats 4000000
set_option exponentiation.threshold 5000
namespace KG
open Ip
abbrev CN := cnOf cons
abbrev C (n : Nat) : Cb := callN FN CN 100000 n
abbrev i_ (i : Int) : U := .p (.int i)
abbrev s_ (x : String) : P := .str (PySem.Str.ofString x)
/-! ### the greatest common divisor -/
theorem fmod_pos {x y : Int} (hy : 0 < y) : x.fmod y = x % y := Int.fmod_eq_emod_of_nonneg _ (by omega)
theorem fdiv_pos {x y : Int} (hy : 0 < y) : x.fdiv y = x / y := Int.fdiv_eq_ediv_of_nonneg _ (by omega)
theorem gcd_step (x y : Int) : Int.gcd y (x % y) = Int.gcd x y := by
  rw [Int.gcd_comm y]
  have h := Int.gcd_add_mul_left_left y (x % y) (x / y)
  rw [show x % y + y * (x / y) = x by have := Int.mul_ediv_add_emod x y; omega] at h
  exact h.symm
/-- the loop of common -/
def tstG (cb : Cb) : Rho → Hm → R Bool := fun ρ M => (evE cb CN (.cmp .ne (.var 1) (.cst (.int 0))) ρ M).bind fun x M => R.of ((rd M x).bind truP) M
def bdyG (cb : Cb) : Rho → Hm → RS := evB cb CN 100000 [.par 0 1 (.var 1) (.bin false .mod (.var 0) (.var 1))]
theorem tstG_eq (cb : Cb) (x y : Int) (M : Hm) : tstG cb [some (i_ x), some (i_ y)] M = .ok (decide (y ≠ 0)) M := by
  unfold tstG i_
  by_cases h : y = 0 <;> simp [FN, evB, evS, evE, evU, evI, evO, finR, Ip.R.bind, Ip.R.st, Ip.R.of, Ip.RS.thn, rd, rdAll, truP, callD, asPs, itsOf, atP, binP, addP, subP, mulP, modP, fdvP, isiU, putU, put, Ip.put.puts, setA, cmpP, eqC, neC, eqOk, scl2, eqP, eqPs, intC, mk, bltP, lenP, minP, maxP, intP, absP, h]
theorem bdyG_eq (cb : Cb) (x y : Int) (M : Hm) (h : y ≠ 0) : bdyG cb [some (i_ x), some (i_ y)] M = .next [some (i_ y), some (i_ (x.fmod y))] M := by
  unfold bdyG i_
  simp [FN, evB, evS, evE, evU, evI, evO, finR, Ip.R.bind, Ip.R.st, Ip.R.of, Ip.RS.thn, rd, rdAll, truP, callD, asPs, itsOf, atP, binP, addP, subP, mulP, modP, fdvP, isiU, putU, put, Ip.put.puts, setA, cmpP, eqC, neC, eqOk, scl2, eqP, eqPs, intC, mk, bltP, lenP, minP, maxP, intP, absP, h]
theorem half_step {x y : Int} {m : Nat} (hy : 0 < y) (hx : y < x) (h : x * y < 2 ^ (m + 1)) : y * (x % y) < 2 ^ m := by
  have h1 : 0 ≤ x % y := Int.emod_nonneg _ (by omega)
  have h2 : x % y < y := Int.emod_lt_of_pos _ hy
  have h3 : x = y * (x / y) + x % y := by have := Int.mul_ediv_add_emod x y; omega
  have h4 : 1 ≤ x / y := Int.le_ediv_of_mul_le hy (by omega)
  have h5 : y * 1 ≤ y * (x / y) := Int.mul_le_mul_of_nonneg_left h4 (by omega)
  have h6 : 2 * (x % y) ≤ x := by omega
  have h7 : 2 * (x % y) * y ≤ x * y := Int.mul_le_mul_of_nonneg_right h6 (by omega)
  have h8 : (2 : Int) ^ (m + 1) = 2 * 2 ^ m := by rw [Int.pow_succ]; omega
  have h9 : 2 * (x % y) * y = 2 * (y * (x % y)) := by rw [Int.mul_assoc, Int.mul_comm (x % y) y]
  omega
theorem loopG (cb : Cb) (M : Hm) (a b : Int) (hb : 0 < b) (hb2 : b < 2 ^ 110) : ∃ g : Int, whlL (tstG cb) (bdyG cb) 100000 [some (i_ a), some (i_ b)] M = .next [some (i_ g), some (i_ 0)] M ∧ g.natAbs = Int.gcd a b := by
  obtain ⟨ρ', M', e, x, rfl, rfl, hg⟩ := whlL_inv (test := tstG cb) (body := bdyG cb)
    (fun m ρ M' => M' = M ∧ ∃ x y : Int, ρ = [some (i_ x), some (i_ y)] ∧ Int.gcd x y = Int.gcd a b ∧ ((m = 300 ∧ x = a ∧ y = b) ∨ (m < 300 ∧ 0 ≤ y ∧ y < x ∧ x * y < 2 ^ m)))
    (fun ρ M' => ∃ g : Int, ρ = [some (i_ g), some (i_ 0)] ∧ M' = M ∧ g.natAbs = Int.gcd a b)
    (fun m ρ M' ⟨hM, x, y, hρ, hg, hc⟩ => by
      subst hM hρ
      rw [tstG_eq]
      by_cases hy : y = 0
      · subst hy
        refine .inl ⟨by simp, x, rfl, rfl, ?_⟩
        rw [← hg, Int.gcd_zero_right]
      · refine .inr ⟨by simp [hy], ?_⟩
        have hy0 : 0 < y := by rcases hc with ⟨_, _, rfl⟩ | ⟨_, h, _⟩ <;> omega
        have e := bdyG_eq cb x y M' hy
        rw [fmod_pos hy0] at e
        have r0 : 0 ≤ x % y := Int.emod_nonneg _ hy
        have r1 : x % y < y := Int.emod_lt_of_pos _ hy0
        rcases hc with ⟨rfl, rfl, rfl⟩ | ⟨hm, h1, h2, h3⟩
        · refine ⟨299, _, _, rfl, e, rfl, _, _, rfl, by rw [gcd_step], .inr ⟨by omega, r0, r1, ?_⟩⟩
          have h5 : y * (x % y) ≤ y * y := Int.mul_le_mul_of_nonneg_left (by omega) (by omega)
          have h6 : y * y ≤ 2 ^ 110 * 2 ^ 110 := Int.mul_le_mul (by omega) (by omega) (by omega) (by decide)
          have h7 : (2 : Int) ^ 110 * 2 ^ 110 < 2 ^ 299 := by decide
          omega
        · cases m with
          | zero =>
            have : 1 * 1 ≤ x * y := Int.mul_le_mul (by omega) (by omega) (by omega) (by omega)
            simp at h3
            omega
          | succ m =>
            exact ⟨m, _, _, rfl, e, rfl, _, _, rfl, by rw [gcd_step, hg], .inr ⟨by omega, r0, r1, half_step hy0 h2 h3⟩⟩) 100000 300 _ _ (by decide) ⟨rfl, a, b, rfl, rfl, .inl ⟨rfl, rfl, rfl⟩⟩
  exact ⟨x, e, hg⟩
theorem c_common (n : Nat) (a b : Int) (hb : 0 < b) (hb2 : b < 2 ^ 110) : C (n + 1) 15 [i_ a, i_ b] [] = .ok (i_ (Int.gcd a b : Nat)) [] := by
  obtain ⟨g, e, hg⟩ := loopG (C n) [] a b hb hb2
  have e2 : evB (C n) CN 100000 F_common.body [some (i_ a), some (i_ b)] [] = .ret (i_ (Int.gcd a b : Nat)) [] := by
    rw [show F_common.body = [CS.whl (.cmp .ne (.var 1) (.cst (.int 0))) [.par 0 1 (.var 1) (.bin false .mod (.var 0) (.var 1))], .ret (.blt false .abs [.var 0])] from rfl, evB, evS]
    show RS.thn (whlL (tstG (C n)) (bdyG (C n)) 100000 [some (i_ a), some (i_ b)] []) _ = _
    rw [e]
    have h : (if g < 0 then -g else g) = ((Int.gcd a b : Nat) : Int) := by
      rw [← hg]
      split <;> omega
    unfold i_
    simp [FN, evB, evS, evE, evU, evI, evO, finR, Ip.R.bind, Ip.R.st, Ip.R.of, Ip.RS.thn, rd, rdAll, truP, callD, asPs, itsOf, atP, binP, addP, subP, mulP, modP, fdvP, isiU, putU, put, Ip.put.puts, setA, cmpP, eqC, neC, eqOk, scl2, eqP, eqPs, intC, mk, bltP, lenP, minP, maxP, intP, absP, h]
  show callN FN CN 100000 (n + 1) 15 _ _ = _
  have ec : callN FN CN 100000 (n + 1) 15 [i_ a, i_ b] [] = finR false 0 (evB (C n) CN 100000 F_common.body [some (i_ a), some (i_ b)] []) := by
    rw [callN]
    rfl
  rw [ec, e2]
  rfl
theorem c_common2 (n : Nat) (a b : Int) (hb : 0 < b) (hb2 : b < 2 ^ 110) : C (n + 1) 17 [i_ a, i_ b] [] = .ok (i_ (Int.gcd a b : Nat)) [] := by
  rw [← c_common n a b hb hb2]
  show callN FN CN 100000 (n + 1) 17 _ _ = callN FN CN 100000 (n + 1) 15 _ _
  rw [callN, callN]
  rfl
end KG

set_option Elab.async false
set_option linter.all false
set_option maxRecDepth 100000
set_option maxHeartbeats 4000000
set_option exponentiation.threshold 5000
namespace KG
open Ip
/-! ### the inverse -/
def tstI (cb : Cb) : Rho → Hm → R Bool := fun ρ M => (evE cb CN (.cmp .gt (.var 2) (.cst (.int 1))) ρ M).bind fun x M => R.of ((rd M x).bind truP) M
def bdyI (cb : Cb) : Rho → Hm → RS := evB cb CN 100000 [.set (.nm 6) (.bin false .fdiv (.var 3) (.var 2)), .set (.tp [(.nm 2), (.nm 3), (.nm 4), (.nm 5)]) (.tup [(.bin false .sub (.var 3) (.bin false .mul (.var 6) (.var 2))), (.var 2), (.bin false .sub (.var 5) (.bin false .mul (.var 6) (.var 4))), (.var 4)])]
theorem tstI_eq (cb : Cb) (a b : Option U) (l h p q : Int) (z : Option U) (M : Hm) : tstI cb [a, b, some (i_ l), some (i_ h), some (i_ p), some (i_ q), z] M = .ok (decide (1 < l)) M := by
  unfold tstI i_
  simp [FN, evB, evS, evE, evU, evI, evO, finR, Ip.R.bind, Ip.R.st, Ip.R.of, Ip.RS.thn, rd, rdAll, truP, callD, asPs, itsOf, atP, binP, addP, subP, mulP, modP, fdvP, isiU, putU, put, Ip.put.puts, setA, cmpP, eqC, neC, eqOk, scl2, eqP, eqPs, intC, mk, bltP, lenP, minP, maxP, intP, absP]
theorem bdyI_eq (cb : Cb) (a b : Option U) (l h p q : Int) (z : Option U) (M : Hm) (hd : divOk h l = true) (m1 : mulOk (h.fdiv l) l = true) (m2 : mulOk (h.fdiv l) p = true) :
    bdyI cb [a, b, some (i_ l), some (i_ h), some (i_ p), some (i_ q), z] M = .next [a, b, some (i_ (h - h.fdiv l * l)), some (i_ l), some (i_ (q - h.fdiv l * p)), some (i_ p), some (i_ (h.fdiv l))] M := by
  unfold bdyI i_
  simp [FN, evB, evS, evE, evU, evI, evO, finR, Ip.R.bind, Ip.R.st, Ip.R.of, Ip.RS.thn, rd, rdAll, truP, callD, asPs, itsOf, atP, binP, addP, subP, mulP, modP, fdvP, isiU, putU, put, Ip.put.puts, setA, cmpP, eqC, neC, eqOk, scl2, eqP, eqPs, intC, mk, bltP, lenP, minP, maxP, intP, absP, hd, m1, m2]
theorem mul_big {i j : Int} (h1 : i.natAbs < 2 ^ 4000) (h2 : j.natAbs < 2 ^ 4000) : mulOk i j = true := by simp [mulOk, h1, h2]
theorem div_big {i j : Int} (h0 : 0 < j) (h1 : i.natAbs < 2 ^ 4000) (h2 : j.natAbs < 2 ^ 4000) : divOk i j = true := by
  have : j ≠ 0 := by omega
  simp [divOk, this, h0, h1, h2]
theorem lt4000 {x : Int} (h1 : -(2 ^ 120) ≤ x) (h2 : x ≤ 2 ^ 120) : x.natAbs < 2 ^ 4000 := Nat.lt_of_le_of_lt (show x.natAbs ≤ 2 ^ 120 by omega) (by decide)
structure InvI (v m : Int) (k : Nat) (l h p q s : Int) : Prop where
  l1 : 1 ≤ l
  lh : l < h
  hm : h ≤ m
  gd : Int.gcd l h = 1
  dp : m ∣ p * v - l
  dq : m ∣ q * v - h
  s1 : s = 1 ∨ s = -1
  sp : 0 ≤ s * p
  sq : s * q ≤ 0
  dt : p * h - q * l = s * m
  fu : l * h < 2 ^ k
theorem InvI.bounds {v m : Int} {k : Nat} {l h p q s : Int} (I : InvI v m k l h p q s) : -m ≤ p ∧ p ≤ m := by
  have h1 : s * p * h - s * q * l = m := by
    have := I.dt
    have h2 : s * (p * h - q * l) = s * (s * m) := by rw [this]
    have h3 : s * (s * m) = m := by rcases I.s1 with e | e <;> rw [e] <;> omega
    rw [h3, Int.mul_sub, ← Int.mul_assoc, ← Int.mul_assoc] at h2
    exact h2
  have h4 : s * q * l ≤ 0 := Int.mul_nonpos_of_nonpos_of_nonneg I.sq (by have := I.l1; omega)
  have h5 : s * p * 1 ≤ s * p * h := Int.mul_le_mul_of_nonneg_left (by have := I.l1; have := I.lh; omega) I.sp
  have h6 := I.sp
  rcases I.s1 with e | e <;> rw [e] at h1 h4 h5 h6 <;> omega
theorem InvI.step {v m : Int} {k : Nat} {l h p q s : Int} (I : InvI v m (k + 1) l h p q s) (hl : 1 < l) : InvI v m k (h - h.fdiv l * l) l (q - h.fdiv l * p) p (-s) := by
  obtain ⟨l1, lh, hm, gd, dp, dq, s1, sp, sq, dt, fu⟩ := I
  have hl0 : 0 < l := by omega
  rw [fdiv_pos hl0]
  generalize ht : h / l = t
  have hr : h - t * l = h % l := by rw [← ht, Int.emod_def, Int.mul_comm]
  have r0 : 0 ≤ h % l := Int.emod_nonneg _ (by omega)
  have r1 : h % l < l := Int.emod_lt_of_pos _ hl0
  have t0 : 0 ≤ t := by rw [← ht]; exact Int.ediv_nonneg (by omega) (by omega)
  have hg : Int.gcd (h % l) l = 1 := by
    rw [Int.gcd_comm, gcd_step, Int.gcd_comm]
    exact gd
  have rn : h % l ≠ 0 := fun e => by
    rw [e, Int.gcd_comm, Int.gcd_zero_right] at hg
    omega
  refine ⟨by omega, by omega, by omega, by rw [hr]; exact hg, ?_, dp, ?_, ?_, ?_, ?_, ?_⟩
  · have e : (q - t * p) * v - (h - t * l) = (q * v - h) - t * (p * v - l) := by
      rw [Int.sub_mul, Int.mul_sub, Int.mul_assoc]
      omega
    rw [e]
    exact Int.dvd_sub dq (Int.dvd_mul_of_dvd_right dp)
  · rcases s1 with e | e <;> omega
  · have h2 : 0 ≤ t * (s * p) := Int.mul_nonneg t0 sp
    have e : -s * (q - t * p) = -(s * q) + t * (s * p) := by
      rw [Int.mul_sub, Int.neg_mul, Int.neg_mul, ← Int.mul_assoc, Int.mul_comm s t, Int.mul_assoc]
      omega
    omega
  · rw [Int.neg_mul]
    omega
  · have e : (q - t * p) * l - p * (h - t * l) = -(p * h - q * l) := by
      rw [Int.sub_mul, Int.mul_sub, Int.mul_assoc t p l, Int.mul_comm p (t * l), Int.mul_assoc t l p, Int.mul_comm l p]
      omega
    rw [e, dt, Int.neg_mul]
  · rw [hr, Int.mul_comm]
    exact half_step hl0 lh (by rw [Int.mul_comm]; exact fu)
theorem loopI (cb : Cb) (a b : Option U) (v m : Int) (hm : 1 < m) (hm2 : m < 2 ^ 110) (z : Option U) (M : Hm) (hg : Int.gcd (v % m) m = 1) : ∃ p l h q z', whlL (tstI cb) (bdyI cb) 100000 [a, b, some (i_ (v % m)), some (i_ m), some (i_ 1), some (i_ 0), z] M = .next [a, b, some (i_ l), some (i_ h), some (i_ p), some (i_ q), z'] M ∧ m ∣ p * v - 1 := by
  have l0 : 0 ≤ v % m := Int.emod_nonneg _ (by omega)
  have l1 : v % m < m := Int.emod_lt_of_pos _ (by omega)
  have ln : v % m ≠ 0 := fun e => by
    rw [e, Int.gcd_comm, Int.gcd_zero_right] at hg
    omega
  obtain ⟨ρ', M', e, p, l, h, q, z', rfl, rfl, hd⟩ := whlL_inv (test := tstI cb) (body := bdyI cb)
    (fun k ρ M' => M' = M ∧ ∃ l h p q s z', ρ = [a, b, some (i_ l), some (i_ h), some (i_ p), some (i_ q), z'] ∧ InvI v m k l h p q s)
    (fun ρ M' => ∃ p l h q z', ρ = [a, b, some (i_ l), some (i_ h), some (i_ p), some (i_ q), z'] ∧ M' = M ∧ m ∣ p * v - 1)
    (fun k ρ M' ⟨hM, l, h, p, q, s, z', hρ, I⟩ => by
      subst hM hρ
      rw [tstI_eq]
      by_cases hl : 1 < l
      · refine .inr ⟨by simp [hl], ?_⟩
        have hb := I.bounds
        have l1' := I.l1
        have lh := I.lh
        have hm' := I.hm
        have t0 : 0 ≤ h.fdiv l := Int.fdiv_nonneg (by omega) (by omega)
        have t1 : h.fdiv l ≤ h := by
          rw [fdiv_pos (by omega)]
          exact Int.ediv_le_self _ (by omega)
        have e := bdyI_eq cb a b l h p q z' M' (div_big (by omega) (lt4000 (by omega) (by omega)) (lt4000 (by omega) (by omega))) (mul_big (lt4000 (by omega) (by omega)) (lt4000 (by omega) (by omega))) (mul_big (lt4000 (by omega) (by omega)) (lt4000 (by omega) (by omega)))
        cases k with
        | zero =>
          have := I.fu
          have h2 : 1 * 1 ≤ l * h := Int.mul_le_mul (by omega) (by omega) (by omega) (by omega)
          simp at this
          omega
        | succ k => exact ⟨k, _, _, rfl, e, rfl, _, _, _, _, _, _, rfl, I.step hl⟩
      · refine .inl ⟨by simp [hl], p, l, h, q, z', rfl, rfl, ?_⟩
        have := I.l1
        have e : l = 1 := by omega
        have d := I.dp
        rw [e] at d
        exact d) 100000 300 _ _ (by decide) ⟨rfl, v % m, m, 1, 0, 1, z, rfl, by omega, l1, Int.le_refl _, hg, by
      rw [Int.one_mul]
      exact ⟨v / m, by have := Int.mul_ediv_add_emod v m; omega⟩, by
      rw [Int.zero_mul]
      exact ⟨-1, by omega⟩, .inl rfl, by omega, by omega, by omega, by
      have h5 : v % m * m ≤ 2 ^ 110 * 2 ^ 110 := Int.mul_le_mul (by omega) (by omega) (by omega) (by decide)
      have h7 : (2 : Int) ^ 110 * 2 ^ 110 < 2 ^ 300 := by decide
      omega⟩
  exact ⟨p, l, h, q, z', e, hd⟩
theorem c_inverse (n : Nat) (v m : Int) (hm : 1 < m) (hm2 : m < 2 ^ 110) (hg : Int.gcd v m = 1) : ∃ r, C (n + 1) 22 [i_ v, i_ m] [] = .ok (i_ r) [] ∧ 0 ≤ r ∧ r < m ∧ m ∣ r * v - 1 := by
  have hg2 : Int.gcd (v % m) m = 1 := by
    rw [Int.gcd_comm, gcd_step]
    exact hg
  have m0 : m ≠ 0 := by omega
  obtain ⟨p, l, h, q, z', e, hd⟩ := loopI (C n) (some (i_ v)) (some (i_ m)) v m hm hm2 none [] hg2
  refine ⟨p % m, ?_, Int.emod_nonneg _ m0, Int.emod_lt_of_pos _ (by omega), ?_⟩
  · have e2 : evB (C n) CN 100000 F_inverse.body [some (i_ v), some (i_ m), none, none, none, none, none] [] = .ret (i_ (p % m)) [] := by
      rw [show F_inverse.body = [CS.set (.tp [(.nm 2), (.nm 3), (.nm 4), (.nm 5)]) (.tup [(.bin false .mod (.var 0) (.var 1)), (.var 1), (.cst (.int (1))), (.cst (.int (0)))]), CS.whl (.cmp .gt (.var 2) (.cst (.int 1))) [.set (.nm 6) (.bin false .fdiv (.var 3) (.var 2)), .set (.tp [(.nm 2), (.nm 3), (.nm 4), (.nm 5)]) (.tup [(.bin false .sub (.var 3) (.bin false .mul (.var 6) (.var 2))), (.var 2), (.bin false .sub (.var 5) (.bin false .mul (.var 6) (.var 4))), (.var 4)])], CS.ret (.bin false .mod (.var 4) (.var 1))] from rfl, evB]
      have e3 : evS (C n) CN 100000 (CS.set (.tp [(.nm 2), (.nm 3), (.nm 4), (.nm 5)]) (.tup [(.bin false .mod (.var 0) (.var 1)), (.var 1), (.cst (.int (1))), (.cst (.int (0)))])) [some (i_ v), some (i_ m), none, none, none, none, none] [] = .next [some (i_ v), some (i_ m), some (i_ (v % m)), some (i_ m), some (i_ 1), some (i_ 0), none] [] := by
        rw [← fmod_pos (show 0 < m by omega)]
        unfold i_
        simp [FN, evB, evS, evE, evU, evI, evO, finR, Ip.R.bind, Ip.R.st, Ip.R.of, Ip.RS.thn, rd, rdAll, truP, callD, asPs, itsOf, atP, binP, addP, subP, mulP, modP, fdvP, isiU, putU, put, Ip.put.puts, setA, cmpP, eqC, neC, eqOk, scl2, eqP, eqPs, intC, mk, bltP, lenP, minP, maxP, intP, absP, m0]
      rw [e3]
      simp only [RS.thn]
      rw [evB, evS]
      show RS.thn (whlL (tstI (C n)) (bdyI (C n)) 100000 _ []) _ = _
      rw [e]
      simp only [RS.thn]
      rw [← fmod_pos (show 0 < m by omega)]
      unfold i_
      simp [FN, evB, evS, evE, evU, evI, evO, finR, Ip.R.bind, Ip.R.st, Ip.R.of, Ip.RS.thn, rd, rdAll, truP, callD, asPs, itsOf, atP, binP, addP, subP, mulP, modP, fdvP, isiU, putU, put, Ip.put.puts, setA, cmpP, eqC, neC, eqOk, scl2, eqP, eqPs, intC, mk, bltP, lenP, minP, maxP, intP, absP, m0]
    have ec : callN FN CN 100000 (n + 1) 22 [i_ v, i_ m] [] = finR false 0 (evB (C n) CN 100000 F_inverse.body [some (i_ v), some (i_ m), none, none, none, none, none] []) := by
      rw [callN]
      rfl
    show callN FN CN 100000 (n + 1) 22 _ _ = _
    rw [ec, e2]
    rfl
  · have e : p % m * v - 1 = (p * v - 1) - m * (p / m * v) := by
      have h1 : p % m = p - m * (p / m) := by have := Int.mul_ediv_add_emod p m; omega
      rw [h1, Int.sub_mul, Int.mul_assoc]
      omega
    rw [e]
    exact Int.dvd_sub hd (Int.dvd_mul_right _ _)
end KG

set_option Elab.async false
set_option linter.all false
set_option maxRecDepth 100000
set_option maxHeartbeats 4000000
set_option exponentiation.threshold 5000
namespace KG
open Ip
abbrev tupI (ps : List Int) : P := .tup (ps.map .int)
theorem intsP_map : ∀ ps : List Int, intsP (ps.map .int) = some ps
  | [] => rfl
  | p :: ps => by rw [List.map_cons, intsP, intsP_map ps]; rfl
theorem take_map (ps : List Int) (k : Nat) : (ps.map P.int).take k = (ps.take k).map P.int := by rw [List.map_take]
theorem rng_nat (m : Nat) : rngP 0 (m : Int) = (List.range m).map fun (k : Nat) => P.int (k : Int) := by
  unfold rngP
  simp
/-- pattern[:k] summed -/
theorem sum_cut (ps : List Int) (k : Nat) (hk : k ≤ ps.length) : sumP [.tup (cutP (ps.map P.int) none (some (k : Int)))] = some (.int (ps.take k).sum) := by
  have e : cutP (ps.map P.int) none (some (k : Int)) = (ps.take k).map P.int := by
    show ((ps.map P.int).drop 0).take ((if 0 ≤ (k : Int) then min (k : Int).toNat (ps.map P.int).length else ((k : Int) + ((ps.map P.int).length : Nat)).toNat) - 0) = _
    rw [if_pos (by omega), List.drop_zero, Int.toNat_natCast, List.length_map, Nat.min_eq_left hk, Nat.sub_zero, List.map_take]
  rw [e]
  show (match intsP ((ps.take k).map P.int) with
    | some is => some (P.int is.sum)
    | none => none) = _
  rw [intsP_map]
def sumsL (ps : List Int) : List P := (List.range ps.length).map fun k => P.int (ps.take k).sum
theorem c_sums (n : Nat) (ps : List Int) (hl : ps.length ≤ 1000) : C (n + 1) 16 [.p (tupI ps)] [] = .ok (.p (.lst (sumsL ps))) [] := by
  have e2 : evB (C n) CN 100000 F_sums_of.body [some (.p (tupI ps)), none] [] = .ret (.p (.lst (sumsL ps))) [] := by
    rw [show F_sums_of.body = [CS.ret (.comp false (.blt false .sum [(.slc (.var 0) none (some (.var 1)))]) (.nm 1) (.rng none (.blt false .len [(.var 0)])) none [1])] from rfl, evB, evS, comp_eq]
    have hi : evI (C n) CN (.rng none (.blt false .len [(.var 0)])) [some (.p (tupI ps)), none] [] = .ok (rngP 0 (ps.length : Int)) [] := by
      have hb : ((ps.length : Nat) : Int) ≤ 1000000000 := by omega
      unfold tupI
      simp [FN, evB, evS, evE, evU, evI, evO, finR, Ip.R.bind, Ip.R.st, Ip.R.of, Ip.RS.thn, rd, rdAll, truP, callD, asPs, itsOf, atP, binP, addP, subP, mulP, modP, fdvP, isiU, putU, put, Ip.put.puts, setA, cmpP, eqC, neC, eqOk, scl2, eqP, eqPs, intC, mk, bltP, lenP, minP, maxP, intP, absP, hb]
    rw [hi]
    simp only [R.bind]
    have hq : (rngP 0 (ps.length : Int)).length ≤ LIM := by
      rw [rng_nat]
      simp [LIM]
      omega
    rw [if_pos hq]
    have hc : cmpL (stepC (C n) CN (.blt false .sum [(.slc (.var 0) none (some (.var 1)))]) (.nm 1) none [1] [some (.p (tupI ps)), none]) (rngP 0 (ps.length : Int)) [] [] = .ok ((rngP 0 (ps.length : Int)).map fun q => match q with
        | .int k => .int (ps.take k.toNat).sum
        | q => q) [] := by
      refine cmpL_all fun q hq => ?_
      rw [rng_nat] at hq
      obtain ⟨k, hk, rfl⟩ := List.mem_map.mp hq
      have hk' : k ≤ ps.length := Nat.le_of_lt (List.mem_range.mp hk)
      have h := sum_cut ps k hk'
      unfold tupI
      simp [FN, evB, evS, evE, evU, evI, evO, finR, Ip.R.bind, Ip.R.st, Ip.R.of, Ip.RS.thn, rd, rdAll, truP, callD, asPs, itsOf, atP, binP, addP, subP, mulP, modP, fdvP, isiU, putU, put, Ip.put.puts, setA, cmpP, eqC, neC, eqOk, scl2, eqP, eqPs, intC, mk, bltP, lenP, minP, maxP, intP, absP, stepC, testC, valC, wip, h]
    rw [hc]
    rw [rng_nat, List.map_map]
    rfl
  have ec : callN FN CN 100000 (n + 1) 16 [.p (tupI ps)] [] = finR false 0 (evB (C n) CN 100000 F_sums_of.body [some (.p (tupI ps)), none] []) := by
    rw [callN]
    rfl
  show callN FN CN 100000 (n + 1) 16 _ _ = _
  rw [ec, e2]
  rfl
end KG

set_option Elab.async false
set_option linter.all false
set_option maxRecDepth 100000
set_option maxHeartbeats 4000000
set_option exponentiation.threshold 5000
namespace KG
open Ip
/-! ### first_place -/
def bodyF : List CS := match F_first_place.body with
  | [_, _, .for_ _ _ b, _] => b
  | _ => []
/-- the turns of a place: r the inverse -/
def tfn (N d S r pre : Int) : Int := if 1 < S then ((N - pre) / d * r) % S else 0
def cand (N d S r len : Int) (at_ : Nat) (pre : Int) : Option P := if (N - pre) % d = 0 then some (.int (tfn N d S r pre * len + at_)) else none
theorem turnF (n : Nat) (ps : List Int) (R N d total r pre : Int) (at_ : Nat) (x8 x9 : Option U) (acc : List P) (hacc : acc.length < LIM) (d0 : 0 < d) (d1 : d ≤ 2 ^ 110) (R0 : 0 < R) (R1 : R ≤ 2 ^ 110) (N0 : -(2 ^ 112) ≤ N - pre) (N1 : N - pre ≤ 2 ^ 112) (t0 : -(2 ^ 110) ≤ total) (t1 : total ≤ 2 ^ 110) (hl : ps.length ≤ 1000)
    (hr0 : -(2 ^ 110) ≤ r) (hr1 : r ≤ 2 ^ 110) (hr : 1 < R / d → C n 22 [i_ (total / d), i_ (R / d)] [] = .ok (i_ r) []) :
    ∃ y8 y9, evB (C n) CN 100000 bodyF [some (.p (tupI ps)), some (i_ R), some (i_ N), some (i_ d), some (i_ total), some (.ref 0), some (i_ (at_ : Int)), some (i_ pre), x8, x9] [.lst acc] =
      .next [some (.p (tupI ps)), some (i_ R), some (i_ N), some (i_ d), some (i_ total), some (.ref 0), some (i_ (at_ : Int)), some (i_ pre), y8, y9] [.lst (acc ++ (cand N d (R / d) r ps.length at_ pre).toList)] := by
  have dn : d ≠ 0 := by omega
  have m0 : (N - pre).fmod d = (N - pre) % d := fmod_pos d0
  by_cases hc : (N - pre) % d = 0
  · have v1 : divOk R d = true := div_big d0 (lt4000 (by omega) (by omega)) (lt4000 (by omega) (by omega))
    have v2 : divOk (N - pre) d = true := div_big d0 (lt4000 (by omega) (by omega)) (lt4000 (by omega) (by omega))
    have v3 : divOk total d = true := div_big d0 (lt4000 (by omega) (by omega)) (lt4000 (by omega) (by omega))
    have f1 : R.fdiv d = R / d := fdiv_pos d0
    have f2 : (N - pre).fdiv d = (N - pre) / d := fdiv_pos d0
    have f3 : total.fdiv d = total / d := fdiv_pos d0
    have w1 : -(2 ^ 112) ≤ (N - pre) / d := by
      have := Int.ediv_le_ediv d0 N0
      have h2 : -(2 ^ 112) ≤ -(2 ^ 112 : Int) / d := by
        rw [Int.le_ediv_iff_mul_le d0]
        have : (2 : Int) ^ 112 * 1 ≤ 2 ^ 112 * d := Int.mul_le_mul_of_nonneg_left (by omega) (by decide)
        omega
      omega
    have w2 : (N - pre) / d ≤ 2 ^ 112 := by
      have h2 : (2 ^ 112 : Int) / d ≤ 2 ^ 112 := Int.ediv_le_self _ (by decide)
      have := Int.ediv_le_ediv d0 N1
      omega
    have v4 : mulOk ((N - pre) / d) r = true := mul_big (lt4000 (by omega) (by omega)) (lt4000 (by omega) (by omega))
    have v5 : ∀ t : Int, mulOk t ps.length = true := fun t => by simp [mulOk]; omega
    by_cases hS : 1 < R / d
    · have e := hr hS
      have Sn : R / d ≠ 0 := by omega
      have g : ((N - pre) / d * r).fmod (R / d) = (N - pre) / d * r % (R / d) := fmod_pos (by omega)
      unfold C i_ tupI at *
      refine ⟨some (.p (.int (R / d))), some (.p (.int ((N - pre) / d * r % (R / d)))), ?_⟩
      unfold bodyF cand tfn
      simp [FN, evB, evS, evE, evU, evI, evO, finR, Ip.R.bind, Ip.R.st, Ip.R.of, Ip.RS.thn, rd, rdAll, truP, callD, asPs, itsOf, atP, binP, addP, subP, mulP, modP, fdvP, isiU, putU, put, Ip.put.puts, setA, cmpP, eqC, neC, eqOk, scl2, eqP, eqPs, intC, mk, bltP, lenP, minP, maxP, intP, absP, F_first_place, m0, hc, dn, v1, v2, v3, f1, f2, f3, v4, v5, hS, e, Sn, g, hacc]
    · unfold C i_ tupI at *
      refine ⟨some (.p (.int (R / d))), some (.p (.int 0)), ?_⟩
      unfold bodyF cand tfn
      simp [FN, evB, evS, evE, evU, evI, evO, finR, Ip.R.bind, Ip.R.st, Ip.R.of, Ip.RS.thn, rd, rdAll, truP, callD, asPs, itsOf, atP, binP, addP, subP, mulP, modP, fdvP, isiU, putU, put, Ip.put.puts, setA, cmpP, eqC, neC, eqOk, scl2, eqP, eqPs, intC, mk, bltP, lenP, minP, maxP, intP, absP, F_first_place, m0, hc, dn, v1, f1, v5, hS, hacc]
  · refine ⟨x8, x9, ?_⟩
    have hc2 : ((N - pre) % d == 0) = false := by simpa using hc
    unfold C i_ tupI at *
    unfold bodyF cand
    simp [FN, evB, evS, evE, evU, evI, evO, finR, Ip.R.bind, Ip.R.st, Ip.R.of, Ip.RS.thn, rd, rdAll, truP, callD, asPs, itsOf, atP, binP, addP, subP, mulP, modP, fdvP, isiU, putU, put, Ip.put.puts, setA, cmpP, eqC, neC, eqOk, scl2, eqP, eqPs, intC, mk, bltP, lenP, minP, maxP, intP, absP, F_first_place, m0, hc, hc2, dn]
end KG

set_option Elab.async false
set_option linter.all false
set_option maxRecDepth 100000
set_option maxHeartbeats 4000000
set_option exponentiation.threshold 5000
namespace KG
open Ip
def candI (N d S r len : Int) (at_ : Nat) (pre : Int) : Option Int := if (N - pre) % d = 0 then some (tfn N d S r pre * len + at_) else none
theorem cand_eq {N d S r len pre : Int} {at_ : Nat} : cand N d S r len at_ pre = (candI N d S r len at_ pre).map .int := by
  unfold cand candI
  split <;> rfl
def preS (ps : List Int) (k : Nat) : Int := (ps.take k).sum
/-- the places of first_place -/
def places (ps : List Int) (R N r : Int) (k : Nat) : List Int := (List.range k).filterMap fun at_ => candI N (Int.gcd ps.sum R) (R / Int.gcd ps.sum R) r ps.length at_ (preS ps at_)
theorem places_succ (ps : List Int) (R N r : Int) (k : Nat) : places ps R N r (k + 1) = places ps R N r k ++ (candI N (Int.gcd ps.sum R) (R / Int.gcd ps.sum R) r ps.length k (preS ps k)).toList := by
  unfold places
  rw [List.range_succ, List.filterMap_append]
  cases h : candI N (Int.gcd ps.sum R) (R / Int.gcd ps.sum R) r ps.length k (preS ps k) <;> simp [h]
theorem places_len (ps : List Int) (R N r : Int) (k : Nat) : (places ps R N r k).length ≤ k := by
  unfold places
  exact Nat.le_trans (List.length_filterMap_le _ _) (by simp)
def minO (l : List Int) : P := match minL l with
  | some m => .int m
  | none => .non
theorem shps_ints : ∀ (n : Nat) (l : List Int), shps n (l.map .int) = true
  | _, [] => rfl
  | n, i :: l => by
    rw [List.map_cons, shps, shps_ints n l, Bool.and_true]
    cases n <;> rfl
theorem enum_get (ps : List Int) (i : Nat) (q : P) (h : ((sumsL ps).zipIdx.map fun x => P.tup [.int x.2, x.1])[i]? = some q) : i < ps.length ∧ q = .tup [.int (i : Int), .int (preS ps i)] := by
  rw [List.getElem?_map, List.getElem?_zipIdx] at h
  obtain ⟨⟨p, k⟩, h0, rfl⟩ := Option.map_eq_some_iff.mp h
  obtain ⟨p2, h2, e⟩ := Option.map_eq_some_iff.mp h0
  cases e
  unfold sumsL at h2
  rw [List.getElem?_map] at h2
  obtain ⟨k, h3, rfl⟩ := Option.map_eq_some_iff.mp h2
  obtain ⟨h4, h5⟩ := List.getElem?_eq_some_iff.mp h3
  rw [List.getElem_range] at h5
  subst h5
  refine ⟨by simpa using h4, ?_⟩
  rw [Nat.zero_add]
  rfl
theorem c_first_place (n : Nat) (ps : List Int) (R N : Int) (hl : ps.length ≤ 1000) (R0 : 0 < R) (R1 : R < 2 ^ 109) (N0 : -(2 ^ 111) ≤ N) (N1 : N ≤ 2 ^ 111) (t0 : ∀ k, -(2 ^ 109) ≤ preS ps k ∧ preS ps k ≤ 2 ^ 109) :
    ∃ r, (1 < R / Int.gcd ps.sum R → 0 ≤ r ∧ r < R / Int.gcd ps.sum R ∧ (R / Int.gcd ps.sum R) ∣ r * (ps.sum / Int.gcd ps.sum R) - 1) ∧
      C (n + 2) 18 [.p (tupI ps), i_ R, i_ N] [] = .ok (.p (minO (places ps R N r ps.length))) [] := by
  have ht : preS ps ps.length = ps.sum := by unfold preS; rw [List.take_length]
  have tb := t0 ps.length
  rw [ht] at tb
  generalize hd : ((Int.gcd ps.sum R : Nat) : Int) = d at *
  have gp : 0 < Int.gcd ps.sum R := Int.gcd_pos_of_ne_zero_right _ (by omega)
  have d0 : 0 < d := by omega
  have dR : d ∣ R := by rw [← hd]; exact Int.gcd_dvd_right ..
  have dT : d ∣ ps.sum := by rw [← hd]; exact Int.gcd_dvd_left ..
  have d1 : d ≤ R := Int.le_of_dvd R0 dR
  have S1 : R / d ≤ R := Int.ediv_le_self _ (by omega)
  have cop : Int.gcd (ps.sum / d) (R / d) = 1 := by
    have := Int.gcd_ediv_gcd_ediv_gcd gp
    rw [hd] at this
    exact this
  obtain ⟨r, hr, r0, r1⟩ : ∃ r, (1 < R / d → 0 ≤ r ∧ r < R / d ∧ (R / d) ∣ r * (ps.sum / d) - 1 ∧ C (n + 1) 22 [i_ (ps.sum / d), i_ (R / d)] [] = .ok (i_ r) []) ∧ -(2 ^ 110) ≤ r ∧ r ≤ 2 ^ 110 := by
    by_cases hS : 1 < R / d
    · obtain ⟨r, e, q0, q1, q2⟩ := c_inverse n (ps.sum / d) (R / d) hS (by omega) cop
      exact ⟨r, fun _ => ⟨q0, q1, q2, e⟩, by omega, by omega⟩
    · exact ⟨0, fun h => absurd h hS, by omega, by omega⟩
  refine ⟨r, fun h => ⟨(hr h).1, (hr h).2.1, (hr h).2.2.1⟩, ?_⟩
  have ec := c_common n ps.sum R R0 (by omega)
  rw [hd] at ec
  have es := c_sums n ps hl
  have eS : sumP [tupI ps] = some (.int ps.sum) := by
    show (match intsP (ps.map P.int) with
      | some is => some (P.int is.sum)
      | none => none) = _
    rw [intsP_map]
  generalize hb : F_first_place.body = bd
  have hbd : bd = [CS.par 4 5 (.blt false .sum [(.var 0)]) (.lst true []), .set (.nm 3) (.call false 15 [(.var 4), (.var 1)]), .for_ (.tp [(.nm 6), (.nm 7)]) (.enum (.call false 16 [(.var 0)])) bodyF, .ret (.ife (.cmp .ne (.var 5) (.lst false [])) (.blt false .min [(.var 5)]) (.cst .non))] := by rw [← hb]; rfl
  have s1 : evS (C (n + 1)) CN 100000 (CS.par 4 5 (.blt false .sum [(.var 0)]) (.lst true [])) [some (.p (tupI ps)), some (i_ R), some (i_ N), none, none, none, none, none, none, none] [] = .next [some (.p (tupI ps)), some (i_ R), some (i_ N), none, some (i_ ps.sum), some (.ref 0), none, none, none, none] [.lst []] := by
    unfold i_ tupI at *
    simp [FN, evB, evS, evE, evU, evI, evO, finR, Ip.R.bind, Ip.R.st, Ip.R.of, Ip.RS.thn, rd, rdAll, truP, callD, asPs, itsOf, atP, binP, addP, subP, mulP, modP, fdvP, isiU, putU, put, Ip.put.puts, setA, cmpP, eqC, neC, eqOk, scl2, eqP, eqPs, intC, mk, bltP, lenP, minP, maxP, intP, absP, eS]
  have s2 : evS (C (n + 1)) CN 100000 (CS.set (.nm 3) (.call false 15 [(.var 4), (.var 1)])) [some (.p (tupI ps)), some (i_ R), some (i_ N), none, some (i_ ps.sum), some (.ref 0), none, none, none, none] [.lst []] = .next [some (.p (tupI ps)), some (i_ R), some (i_ N), some (i_ d), some (i_ ps.sum), some (.ref 0), none, none, none, none] [.lst []] := by
    unfold C i_ at *
    simp [FN, evB, evS, evE, evU, evI, evO, finR, Ip.R.bind, Ip.R.st, Ip.R.of, Ip.RS.thn, rd, rdAll, truP, callD, asPs, itsOf, atP, binP, addP, subP, mulP, modP, fdvP, isiU, putU, put, Ip.put.puts, setA, cmpP, eqC, neC, eqOk, scl2, eqP, eqPs, intC, mk, bltP, lenP, minP, maxP, intP, absP, ec]
  have hI : evI (C (n + 1)) CN (.enum (.call false 16 [(.var 0)])) [some (.p (tupI ps)), some (i_ R), some (i_ N), some (i_ d), some (i_ ps.sum), some (.ref 0), none, none, none, none] [.lst []] = .ok ((sumsL ps).zipIdx.map fun x => P.tup [.int x.2, x.1]) [.lst []] := by
    unfold C i_ at *
    simp [FN, evB, evS, evE, evU, evI, evO, finR, Ip.R.bind, Ip.R.st, Ip.R.of, Ip.RS.thn, rd, rdAll, truP, callD, asPs, itsOf, atP, binP, addP, subP, mulP, modP, fdvP, isiU, putU, put, Ip.put.puts, setA, cmpP, eqC, neC, eqOk, scl2, eqP, eqPs, intC, mk, bltP, lenP, minP, maxP, intP, absP, es]
  obtain ⟨ρ', M', eF, ⟨y6, y7, y8, y9, rfl, rfl⟩⟩ := forL_inv (pt := put (.tp [(.nm 6), (.nm 7)])) (body := evB (C (n + 1)) CN 100000 bodyF)
    (fun i ρ M => ∃ x6 x7 x8 x9, ρ = [some (.p (tupI ps)), some (i_ R), some (i_ N), some (i_ d), some (i_ ps.sum), some (.ref 0), x6, x7, x8, x9] ∧ M = [.lst ((places ps R N r i).map .int)])
    ((sumsL ps).zipIdx.map fun x => P.tup [.int x.2, x.1]) 0 [some (.p (tupI ps)), some (i_ R), some (i_ N), some (i_ d), some (i_ ps.sum), some (.ref 0), none, none, none, none] [.lst []] (by
      rintro i q ρ M hq ⟨x6, x7, x8, x9, rfl, rfl⟩
      rw [Nat.zero_add]
      obtain ⟨hi, rfl⟩ := enum_get ps i q hq
      have tp := t0 i
      have hp := places_len ps R N r i
      obtain ⟨y8, y9, e⟩ := turnF (n + 1) ps R N d ps.sum r (preS ps i) i x8 x9 ((places ps R N r i).map .int) (by unfold LIM; simp; omega) d0 (by omega) R0 (by omega) (by omega) (by omega) (by omega) (by omega) hl r0 r1 (fun h => (hr h).2.2.2)
      refine ⟨_, _, _, rfl, .inl e, some (i_ (i : Int)), some (i_ (preS ps i)), y8, y9, rfl, ?_⟩
      rw [places_succ, List.map_append, hd, cand_eq]
      cases candI N d (R / d) r ps.length i (preS ps i) <;> rfl) ⟨none, none, none, none, rfl, rfl⟩
  have hlen : ((sumsL ps).zipIdx.map fun x => P.tup [.int x.2, x.1]).length = ps.length := by simp [sumsL]
  simp only [hlen, Nat.zero_add] at eF
  have key : evB (C (n + 1)) CN 100000 bd [some (.p (tupI ps)), some (i_ R), some (i_ N), none, none, none, none, none, none, none] [] = .ret (.p (minO (places ps R N r ps.length))) [.lst ((places ps R N r ps.length).map .int)] := by
    rw [hbd, evB, s1]
    simp only [RS.thn]
    rw [evB, s2]
    simp only [RS.thn]
    rw [evB, evS, hI]
    simp only [Ip.R.st]
    rw [eF]
    simp only [RS.thn]
    generalize places ps R N r ps.length = L
    have q1 := shps_ints 59 L
    have q2 := intsP_map L
    cases L with
    | nil =>
      unfold i_ minO minL
      simp [FN, evB, evS, evE, evU, evI, evO, finR, Ip.R.bind, Ip.R.st, Ip.R.of, Ip.RS.thn, rd, rdAll, truP, callD, asPs, itsOf, atP, binP, addP, subP, mulP, modP, fdvP, isiU, putU, put, Ip.put.puts, setA, cmpP, eqC, neC, eqOk, scl2, eqP, eqPs, intC, mk, bltP, lenP, minP, maxP, intP, absP, shp, shps]
    | cons a L =>
      have q3 : ∃ m, minL (a :: L) = some m := by
        have aux : ∀ (L : List Int) (a : Int), ∃ m, minL (a :: L) = some m := by
          intro L
          induction L with
          | nil => intro a; exact ⟨a, rfl⟩
          | cons b L ih =>
            intro a
            obtain ⟨m, hm⟩ := ih b
            exact ⟨if a ≤ m then a else m, by simp [minL, hm]⟩
        exact aux L a
      obtain ⟨m, hm⟩ := q3
      simp only [List.map_cons] at q1 q2 ⊢
      unfold i_ minO
      rw [hm]
      have q4 := shps_ints 59 L
      simp [FN, evB, evS, evE, evU, evI, evO, finR, Ip.R.bind, Ip.R.st, Ip.R.of, Ip.RS.thn, rd, rdAll, truP, callD, asPs, itsOf, atP, binP, addP, subP, mulP, modP, fdvP, isiU, putU, put, Ip.put.puts, setA, cmpP, eqC, neC, eqOk, scl2, eqP, eqPs, intC, mk, bltP, lenP, minP, maxP, intP, absP, shp, shps, q4, q2, lstI, hm]
  have efin : callN FN CN 100000 (n + 2) 18 [.p (tupI ps), i_ R, i_ N] [] = finR false 0 (evB (C (n + 1)) CN 100000 bd [some (.p (tupI ps)), some (i_ R), some (i_ N), none, none, none, none, none, none, none] []) := by
    rw [callN, ← hb]
    rfl
  show callN FN CN 100000 (n + 2) 18 _ _ = _
  rw [efin, key]
  rfl
end KG

set_option Elab.async false
set_option linter.all false
set_option maxRecDepth 100000
set_option maxHeartbeats 4000000
set_option exponentiation.threshold 5000
namespace KG
open Ip
theorem str_ne {x y : String} (h : (PySem.Str.ofString x == PySem.Str.ofString y) = false) : (PySem.Str.ofString x = PySem.Str.ofString y) = False := by
  simpa using h
theorem ub : (PySem.Str.ofString "up" = PySem.Str.ofString "bounce") = False := str_ne (by decide +kernel)
theorem ud : (PySem.Str.ofString "up" = PySem.Str.ofString "down") = False := str_ne (by decide +kernel)
theorem ut : (PySem.Str.ofString "up" = PySem.Str.ofString "twice") = False := str_ne (by decide +kernel)
theorem up_ : (PySem.Str.ofString "up" = PySem.Str.ofString "pressed") = False := str_ne (by decide +kernel)
theorem pb : (PySem.Str.ofString "pressed" = PySem.Str.ofString "bounce") = False := str_ne (by decide +kernel)
theorem pd_ : (PySem.Str.ofString "pressed" = PySem.Str.ofString "down") = False := str_ne (by decide +kernel)
theorem pt_ : (PySem.Str.ofString "pressed" = PySem.Str.ofString "twice") = False := str_ne (by decide +kernel)
theorem bd_ : (PySem.Str.ofString "bounce" = PySem.Str.ofString "down") = False := str_ne (by decide +kernel)
theorem bu_ : (PySem.Str.ofString "up" = PySem.Str.ofString "bounce") = False := str_ne (by decide +kernel)
theorem td_ : (PySem.Str.ofString "twice" = PySem.Str.ofString "down") = False := str_ne (by decide +kernel)
theorem tb_ : (PySem.Str.ofString "twice" = PySem.Str.ofString "bounce") = False := str_ne (by decide +kernel)
theorem rung_up (n : Nat) (r p : Int) (h : 0 < r) : C (n + 1) 14 [.p (s_ "up"), i_ r, i_ p] [] = .ok (i_ (p % r)) [] := by
  rw [← fmod_pos h]
  have h0 : r ≠ 0 := by omega
  unfold C i_ s_
  rw [callN]
  simp [FN, evB, evS, evE, evU, evI, evO, finR, Ip.R.bind, Ip.R.st, Ip.R.of, Ip.RS.thn, rd, rdAll, truP, callD, asPs, itsOf, atP, binP, addP, subP, mulP, modP, fdvP, isiU, putU, put, Ip.put.puts, setA, cmpP, eqC, neC, eqOk, scl2, eqP, eqPs, intC, mk, bltP, lenP, minP, maxP, intP, absP, F_rung_at, ub, ud, ut, h0]
theorem rung_pressed (n : Nat) (r p : Int) (h : 0 < r) : C (n + 1) 14 [.p (s_ "pressed"), i_ r, i_ p] [] = .ok (i_ (p % r)) [] := by
  rw [← fmod_pos h]
  have h0 : r ≠ 0 := by omega
  unfold C i_ s_
  rw [callN]
  simp [FN, evB, evS, evE, evU, evI, evO, finR, Ip.R.bind, Ip.R.st, Ip.R.of, Ip.RS.thn, rd, rdAll, truP, callD, asPs, itsOf, atP, binP, addP, subP, mulP, modP, fdvP, isiU, putU, put, Ip.put.puts, setA, cmpP, eqC, neC, eqOk, scl2, eqP, eqPs, intC, mk, bltP, lenP, minP, maxP, intP, absP, F_rung_at, pb, pd_, pt_, h0]
theorem rung_down (n : Nat) (r p : Int) (h : 0 < r) : C (n + 1) 14 [.p (s_ "down"), i_ r, i_ p] [] = .ok (i_ (r - 1 - p % r)) [] := by
  rw [← fmod_pos h]
  have h0 : r ≠ 0 := by omega
  unfold C i_ s_
  rw [callN]
  simp [FN, evB, evS, evE, evU, evI, evO, finR, Ip.R.bind, Ip.R.st, Ip.R.of, Ip.RS.thn, rd, rdAll, truP, callD, asPs, itsOf, atP, binP, addP, subP, mulP, modP, fdvP, isiU, putU, put, Ip.put.puts, setA, cmpP, eqC, neC, eqOk, scl2, eqP, eqPs, intC, mk, bltP, lenP, minP, maxP, intP, absP, F_rung_at, h0]
theorem rung_bounce (n : Nat) (r p : Int) (h : 1 < r) : C (n + 1) 14 [.p (s_ "bounce"), i_ r, i_ p] [] = .ok (i_ (if p % (2 * r - 2) < r then p % (2 * r - 2) else 2 * r - 2 - p % (2 * r - 2))) [] := by
  rw [← fmod_pos (show 0 < 2 * r - 2 by omega)]
  have h0 : 2 * r - 2 ≠ 0 := by omega
  have h1 : (if 1 < 2 * r - 2 then 2 * r - 2 else 1) = 2 * r - 2 := if_pos (by omega)
  have hm : mulOk 2 r = true := by simp [mulOk]
  unfold C i_ s_
  rw [callN]
  by_cases hc : p.fmod (2 * r - 2) < r <;> simp [FN, evB, evS, evE, evU, evI, evO, finR, Ip.R.bind, Ip.R.st, Ip.R.of, Ip.RS.thn, rd, rdAll, truP, callD, asPs, itsOf, atP, binP, addP, subP, mulP, modP, fdvP, isiU, putU, put, Ip.put.puts, setA, cmpP, eqC, neC, eqOk, scl2, eqP, eqPs, intC, mk, bltP, lenP, minP, maxP, intP, absP, F_rung_at, bd_, h0, h1, hm, hc]
theorem rung_twice (n : Nat) (r p : Int) (h : 0 < r) : C (n + 1) 14 [.p (s_ "twice"), i_ r, i_ p] [] = .ok (i_ (if p % (2 * r) < r then p % (2 * r) else 2 * r - 1 - p % (2 * r))) [] := by
  rw [← fmod_pos (show 0 < 2 * r by omega)]
  have h0 : 2 * r ≠ 0 := by omega
  have hr : r ≠ 0 := by omega
  have hm : mulOk 2 r = true := by simp [mulOk]
  unfold C i_ s_
  rw [callN]
  by_cases hc : p.fmod (2 * r) < r <;> simp [FN, evB, evS, evE, evU, evI, evO, finR, Ip.R.bind, Ip.R.st, Ip.R.of, Ip.RS.thn, rd, rdAll, truP, callD, asPs, itsOf, atP, binP, addP, subP, mulP, modP, fdvP, isiU, putU, put, Ip.put.puts, setA, cmpP, eqC, neC, eqOk, scl2, eqP, eqPs, intC, mk, bltP, lenP, minP, maxP, intP, absP, F_rung_at, td_, tb_, h0, hr, hm, hc]
end KG

set_option Elab.async false
set_option linter.all false
set_option maxRecDepth 100000
set_option maxHeartbeats 4000000
set_option exponentiation.threshold 5000
namespace KG
open Ip
/-- the rung of a pattern that is a tuple -/
def rungT (ps : List Int) (r p : Int) : Int := (p / ps.length * ps.sum + (ps.take (p % ps.length).toNat).sum) % r
theorem sum_tup (ps : List Int) : sumP [.tup (ps.map P.int)] = some (.int ps.sum) := by
  show (match intsP (ps.map P.int) with
    | some is => some (P.int is.sum)
    | none => none) = _
  rw [intsP_map]
theorem cut_int (ps : List Int) (x : Int) (h0 : 0 ≤ x) (h1 : x < ps.length) : sumP [.tup (cutP (ps.map P.int) none (some x))] = some (.int (ps.take x.toNat).sum) := by
  have := sum_cut ps x.toNat (by omega)
  rw [Int.toNat_of_nonneg h0] at this
  exact this
theorem shp_ints (n : Nat) (ps : List Int) : shp (n + 1) (.tup (ps.map .int)) = true := by
  rw [shp]
  exact shps_ints n ps
theorem shp_str {n : Nat} {x : String} (h : (PySem.Str.ofString x).cps.all (fun c => decide (c < 1114112)) = true) : shp n (.str (PySem.Str.ofString x)) = true := by
  unfold shp
  exact h
theorem shd : shp 60 (.str (PySem.Str.ofString "down")) = true := by decide +kernel
theorem shb : shp 60 (.str (PySem.Str.ofString "bounce")) = true := by decide +kernel
theorem sht : shp 60 (.str (PySem.Str.ofString "twice")) = true := by decide +kernel
theorem rung_tup (n : Nat) (ps : List Int) (r p : Int) (hp : ps ≠ []) (hl : ps.length ≤ 1000) (hr : 0 < r) (hs : ps.sum.natAbs < 2 ^ 63) : C (n + 1) 14 [.p (tupI ps), i_ r, i_ p] [] = .ok (i_ (rungT ps r p)) [] := by
  have l0 : 0 < ps.length := List.length_pos_iff.mpr hp
  have lz : ps.length ≠ 0 := by omega
  have r0 : r ≠ 0 := by omega
  have a1 : p.fdiv ps.length = p / ps.length := fdiv_pos (by omega)
  have a2 : p.fmod ps.length = p % ps.length := fmod_pos (by omega)
  have a3 : ∀ x : Int, x.fmod r = x % r := fun x => fmod_pos hr
  have d1 : divOk p ps.length = true := by
    have h1 : (ps.length : Int) ≠ 0 := by omega
    have h2 : (ps.length : Int).natAbs < 2 ^ 30 := by omega
    simp only [divOk, h1, h2]
    simp [hp]
  have m1 : ∀ x : Int, mulOk x ps.sum = true := fun x => by simp [mulOk, hs]
  have c1 := cut_int ps (p % ps.length) (Int.emod_nonneg _ (by omega)) (Int.emod_lt_of_pos _ (by omega))
  have c2 := sum_tup ps
  have q := shp_ints 59 ps
  unfold C i_ tupI rungT
  rw [callN]
  simp [FN, evB, evS, evE, evU, evI, evO, finR, Ip.R.bind, Ip.R.st, Ip.R.of, Ip.RS.thn, rd, rdAll, truP, callD, asPs, itsOf, atP, binP, addP, subP, mulP, modP, fdvP, isiU, putU, put, Ip.put.puts, setA, cmpP, eqC, neC, eqOk, scl2, eqP, eqPs, intC, mk, bltP, lenP, minP, maxP, intP, absP, F_rung_at, q, shd, shb, sht, a1, a2, a3, d1, m1, c1, c2, r0, lz, hp]
theorem lrung_tup (n : Nat) (ps : List Int) (r p : Int) (hp : ps ≠ []) (hl : ps.length ≤ 1000) (hr : 0 < r) (hs : ps.sum.natAbs < 2 ^ 63) : C (n + 1) 4 [.p (tupI ps), i_ r, i_ p] [] = .ok (i_ (rungT ps r p)) [] := by
  have l0 : 0 < ps.length := List.length_pos_iff.mpr hp
  have lz : ps.length ≠ 0 := by omega
  have r0 : r ≠ 0 := by omega
  have a1 : p.fdiv ps.length = p / ps.length := fdiv_pos (by omega)
  have a2 : p.fmod ps.length = p % ps.length := fmod_pos (by omega)
  have a3 : ∀ x : Int, x.fmod r = x % r := fun x => fmod_pos hr
  have d1 : divOk p ps.length = true := by
    have h1 : (ps.length : Int) ≠ 0 := by omega
    have h2 : (ps.length : Int).natAbs < 2 ^ 30 := by omega
    simp only [divOk, h1, h2]
    simp [hp]
  have m1 : ∀ x : Int, mulOk x ps.sum = true := fun x => by simp [mulOk, hs]
  have c1 := cut_int ps (p % ps.length) (Int.emod_nonneg _ (by omega)) (Int.emod_lt_of_pos _ (by omega))
  have c2 := sum_tup ps
  unfold C i_ tupI rungT
  rw [callN]
  simp [FN, evB, evS, evE, evU, evI, evO, finR, Ip.R.bind, Ip.R.st, Ip.R.of, Ip.RS.thn, rd, rdAll, truP, callD, asPs, itsOf, atP, binP, addP, subP, mulP, modP, fdvP, isiU, putU, put, Ip.put.puts, setA, cmpP, eqC, neC, eqOk, scl2, eqP, eqPs, intC, mk, bltP, lenP, minP, maxP, intP, absP, F__law_rung, a1, a2, a3, d1, m1, c1, c2, r0, lz, hp]
end KG

set_option Elab.async false
set_option linter.all false
set_option maxRecDepth 100000
set_option maxHeartbeats 4000000
set_option exponentiation.threshold 5000
namespace KG
open Ip
theorem dp_ : (PySem.Str.ofString "down" = PySem.Str.ofString "pressed") = False := str_ne (by decide +kernel)
theorem bp_ : (PySem.Str.ofString "bounce" = PySem.Str.ofString "pressed") = False := str_ne (by decide +kernel)
theorem tp_ : (PySem.Str.ofString "twice" = PySem.Str.ofString "pressed") = False := str_ne (by decide +kernel)
theorem tu_ : (PySem.Str.ofString "twice" = PySem.Str.ofString "up") = False := str_ne (by decide +kernel)
theorem bu2 : (PySem.Str.ofString "bounce" = PySem.Str.ofString "up") = False := str_ne (by decide +kernel)
theorem ptu : (PySem.Str.ofString "pressed" = PySem.Str.ofString "up") = False := str_ne (by decide +kernel)
theorem ub2 : (PySem.Str.ofString "up" = PySem.Str.ofString "twice") = False := str_ne (by decide +kernel)
theorem pu2 : (PySem.Str.ofString "up" = PySem.Str.ofString "pressed") = False := str_ne (by decide +kernel)
theorem lrung_up (n : Nat) (r p : Int) (h : 0 < r) : C (n + 1) 4 [.p (s_ "up"), i_ r, i_ p] [] = .ok (i_ (p % r)) [] := by
  rw [← fmod_pos h]
  have h0 : r ≠ 0 := by omega
  unfold C i_ s_
  rw [callN]
  simp [FN, evB, evS, evE, evU, evI, evO, finR, Ip.R.bind, Ip.R.st, Ip.R.of, Ip.RS.thn, rd, rdAll, truP, callD, asPs, itsOf, atP, binP, addP, subP, mulP, modP, fdvP, isiU, putU, put, Ip.put.puts, setA, cmpP, eqC, neC, eqOk, scl2, eqP, eqPs, intC, mk, bltP, lenP, minP, maxP, intP, absP, F__law_rung, ud, h0, inC, hasP, scl]
theorem lrung_pressed (n : Nat) (r p : Int) (h : 0 < r) : C (n + 1) 4 [.p (s_ "pressed"), i_ r, i_ p] [] = .ok (i_ (p % r)) [] := by
  rw [← fmod_pos h]
  have h0 : r ≠ 0 := by omega
  unfold C i_ s_
  rw [callN]
  simp [FN, evB, evS, evE, evU, evI, evO, finR, Ip.R.bind, Ip.R.st, Ip.R.of, Ip.RS.thn, rd, rdAll, truP, callD, asPs, itsOf, atP, binP, addP, subP, mulP, modP, fdvP, isiU, putU, put, Ip.put.puts, setA, cmpP, eqC, neC, eqOk, scl2, eqP, eqPs, intC, mk, bltP, lenP, minP, maxP, intP, absP, F__law_rung, pd_, h0, inC, hasP, scl]
theorem lrung_down (n : Nat) (r p : Int) (h : 0 < r) : C (n + 1) 4 [.p (s_ "down"), i_ r, i_ p] [] = .ok (i_ (r - 1 - p % r)) [] := by
  have e : (0 - 1 - p).fmod r = r - 1 - p % r := by
    rw [fmod_pos h]
    have h1 := Int.emod_nonneg p (show r ≠ 0 by omega)
    have h2 := Int.emod_lt_of_pos p h
    have h3 : 0 - 1 - p = (r - 1 - p % r) + r * (-(p / r) - 1) := by
      have := Int.mul_ediv_add_emod p r
      rw [Int.mul_sub, Int.mul_neg]
      omega
    rw [h3, Int.add_mul_emod_self_left]
    exact Int.emod_eq_of_lt (by omega) (by omega)
  have e2 : (-1 - p).fmod r = r - 1 - p % r := by rw [← e]; congr 1
  have h0 : r ≠ 0 := by omega
  unfold C i_ s_
  rw [callN]
  simp [FN, evB, evS, evE, evU, evI, evO, finR, Ip.R.bind, Ip.R.st, Ip.R.of, Ip.RS.thn, rd, rdAll, truP, callD, asPs, itsOf, atP, binP, addP, subP, mulP, modP, fdvP, isiU, putU, put, Ip.put.puts, setA, cmpP, eqC, neC, eqOk, scl2, eqP, eqPs, intC, mk, bltP, lenP, minP, maxP, intP, absP, F__law_rung, h0, e, e2]
theorem lrung_bounce (n : Nat) (r p : Int) (h : 1 < r) : C (n + 1) 4 [.p (s_ "bounce"), i_ r, i_ p] [] = .ok (i_ (if p % (2 * r - 2) < r then p % (2 * r - 2) else 2 * r - 2 - p % (2 * r - 2))) [] := by
  have e : (if 2 * r - 2 - p.fmod (2 * r - 2) < p.fmod (2 * r - 2) then 2 * r - 2 - p.fmod (2 * r - 2) else p.fmod (2 * r - 2)) = (if p % (2 * r - 2) < r then p % (2 * r - 2) else 2 * r - 2 - p % (2 * r - 2)) := by
    rw [fmod_pos (show 0 < 2 * r - 2 by omega)]
    generalize p % (2 * r - 2) = x
    split <;> split <;> omega
  have h0 : 2 * r - 2 ≠ 0 := by omega
  have hm : mulOk 2 r = true := by simp [mulOk]
  rw [← e]
  unfold C i_ s_
  rw [callN]
  simp [FN, evB, evS, evE, evU, evI, evO, finR, Ip.R.bind, Ip.R.st, Ip.R.of, Ip.RS.thn, rd, rdAll, truP, callD, asPs, itsOf, atP, binP, addP, subP, mulP, modP, fdvP, isiU, putU, put, Ip.put.puts, setA, cmpP, eqC, neC, eqOk, scl2, eqP, eqPs, intC, mk, bltP, lenP, minP, maxP, intP, absP, F__law_rung, bd_, ub, pb, h0, hm, inC, hasP, scl]
theorem lrung_twice (n : Nat) (r p : Int) (h : 0 < r) : C (n + 1) 4 [.p (s_ "twice"), i_ r, i_ p] [] = .ok (i_ (if p % (2 * r) < r then p % (2 * r) else 2 * r - 1 - p % (2 * r))) [] := by
  have e : (if 2 * r - 1 - p.fmod (2 * r) < p.fmod (2 * r) then 2 * r - 1 - p.fmod (2 * r) else p.fmod (2 * r)) = (if p % (2 * r) < r then p % (2 * r) else 2 * r - 1 - p % (2 * r)) := by
    rw [fmod_pos (show 0 < 2 * r by omega)]
    generalize p % (2 * r) = x
    split <;> split <;> omega
  have h0 : r ≠ 0 := by omega
  have hm : mulOk 2 r = true := by simp [mulOk]
  rw [← e]
  unfold C i_ s_
  rw [callN]
  simp [FN, evB, evS, evE, evU, evI, evO, finR, Ip.R.bind, Ip.R.st, Ip.R.of, Ip.RS.thn, rd, rdAll, truP, callD, asPs, itsOf, atP, binP, addP, subP, mulP, modP, fdvP, isiU, putU, put, Ip.put.puts, setA, cmpP, eqC, neC, eqOk, scl2, eqP, eqPs, intC, mk, bltP, lenP, minP, maxP, intP, absP, F__law_rung, td_, tb_, ut, pt_, h0, hm, inC, hasP, scl]
end KG

set_option Elab.async false
set_option linter.all false
set_option maxRecDepth 100000
set_option maxHeartbeats 4000000
set_option exponentiation.threshold 5000
namespace KG
open Ip
theorem c_is_whole (n : Nat) (v lo hi : Int) : C (n + 1) 20 [i_ v, i_ lo, i_ hi] [] = .ok (.p (.bl (decide (lo ≤ v) && decide (v ≤ hi)))) [] := by
  unfold C i_
  rw [callN]
  by_cases h : lo ≤ v <;> simp [FN, evB, evS, evE, evU, evI, evO, finR, Ip.R.bind, Ip.R.st, Ip.R.of, Ip.RS.thn, rd, rdAll, truP, callD, asPs, itsOf, atP, binP, addP, subP, mulP, modP, fdvP, isiU, putU, put, Ip.put.puts, setA, cmpP, eqC, neC, eqOk, scl2, eqP, eqPs, intC, mk, bltP, lenP, minP, maxP, intP, absP, F_is_whole, h]
theorem c_need_number (n : Nat) (v lo hi : Int) (h1 : lo ≤ v) (h2 : v ≤ hi) : C (n + 2) 13 [i_ v, i_ lo, i_ hi] [] = .ok (.p .non) [] := by
  have e := c_is_whole n v lo hi
  simp only [h1, h2, decide_true, Bool.and_self] at e
  unfold C i_ at e ⊢
  rw [callN]
  simp [FN, evB, evS, evE, evU, evI, evO, finR, Ip.R.bind, Ip.R.st, Ip.R.of, Ip.RS.thn, rd, rdAll, truP, callD, asPs, itsOf, atP, binP, addP, subP, mulP, modP, fdvP, isiU, putU, put, Ip.put.puts, setA, cmpP, eqC, neC, eqOk, scl2, eqP, eqPs, intC, mk, bltP, lenP, minP, maxP, intP, absP, F_need_number, e]
theorem k0 : CN 0 = some (.int (10 ^ 30)) := rfl
theorem k1 : CN 1 = some (.int 2) := rfl
theorem k2 : CN 2 = some (.tup [s_ "restart", s_ "stay", s_ "wait"]) := rfl
theorem k4 : CN 4 = some (.int 4) := rfl
theorem k5 : CN 5 = some (.int 3) := rfl
theorem pat_word (n : Nat) (w : P) (h : w = s_ "bounce" ∨ w = s_ "down" ∨ w = s_ "pressed" ∨ w = s_ "twice" ∨ w = s_ "up") : C (n + 1) 25 [.p w] [] = .ok (.p (.bl true)) [] := by
  rcases h with rfl | rfl | rfl | rfl | rfl <;> rfl
theorem bools_true : ∀ k : Nat, boolsP (List.replicate k (.bl true)) = some (List.replicate k true)
  | 0 => rfl
  | k + 1 => by rw [List.replicate_succ, boolsP, bools_true k]; rfl
theorem pat_tup (n : Nat) (ps : List Int) (h1 : ps ≠ []) (h2 : ps.length ≤ 4) (h3 : ∀ x ∈ ps, -3 ≤ x ∧ x ≤ 3) : C (n + 2) 25 [.p (tupI ps)] [] = .ok (.p (.bl true)) [] := by
  have l0 : 0 < ps.length := List.length_pos_iff.mpr h1
  have e3 : evE (C (n + 1)) CN (.comp false (.call false 20 [(.var 1), (.neg (.con 5)), (.con 5)]) (.nm 1) (.seq (.var 0)) none [1]) [some (.p (tupI ps)), none] [] = .ok (.p (.lst (List.replicate ps.length (.bl true)))) [] := by
    rw [comp_eq]
    have hi : evI (C (n + 1)) CN (.seq (.var 0)) [some (.p (tupI ps)), none] [] = .ok (ps.map .int) [] := by
      unfold tupI
      simp [FN, evB, evS, evE, evU, evI, evO, finR, Ip.R.bind, Ip.R.st, Ip.R.of, Ip.RS.thn, rd, rdAll, truP, callD, asPs, itsOf, atP, binP, addP, subP, mulP, modP, fdvP, isiU, putU, put, Ip.put.puts, setA, cmpP, eqC, neC, eqOk, scl2, eqP, eqPs, intC, mk, bltP, lenP, minP, maxP, intP, absP, seqOf]
    rw [hi]
    simp only [R.bind]
    rw [if_pos (by simp [LIM]; omega)]
    have hc : cmpL (stepC (C (n + 1)) CN (.call false 20 [(.var 1), (.neg (.con 5)), (.con 5)]) (.nm 1) none [1] [some (.p (tupI ps)), none]) (ps.map .int) [] [] = .ok ((ps.map P.int).map fun _ => P.bl true) [] := by
      refine cmpL_all fun q hq => ?_
      obtain ⟨x, hx, rfl⟩ := List.mem_map.mp hq
      obtain ⟨x0, x1⟩ := h3 x hx
      have e := c_is_whole n x (-3) 3
      simp only [x0, x1, decide_true, Bool.and_self] at e
      have kk := k5
      unfold C i_ tupI at *
      simp [FN, evB, evS, evE, evU, evI, evO, finR, Ip.R.bind, Ip.R.st, Ip.R.of, Ip.RS.thn, rd, rdAll, truP, callD, asPs, itsOf, atP, binP, addP, subP, mulP, modP, fdvP, isiU, putU, put, Ip.put.puts, setA, cmpP, eqC, neC, eqOk, scl2, eqP, eqPs, intC, mk, bltP, lenP, minP, maxP, intP, absP, stepC, testC, valC, wip, kk, e]
    rw [hc, List.map_map]
    have : List.map ((fun _ => P.bl true) ∘ P.int) ps = List.replicate ps.length (.bl true) := by
      rw [List.eq_replicate_iff]
      simp
    rw [this]
    rfl
  have hb := bools_true ps.length
  have ht : (List.replicate ps.length true).all id = true := by simp
  have kk := k4
  have l1 : (1 : Int) ≤ (ps.length : Int) := by omega
  have l2 : (ps.length : Int) ≤ 4 := by omega
  have e4 : evB (C (n + 1)) CN 100000 F_is_pattern.body [some (.p (tupI ps)), none] [] = .ret (.p (.bl true)) [] := by
    rw [show F_is_pattern.body = [CS.ife (.isi (.var 0) .str) [.ret (.cmp .isin (.var 0) (.con 3))] [], CS.ife (.or (.not (.isi (.var 0) .tup)) (.not (.cmp2 .le .le (.cst (.int (1))) (.blt false .len [(.var 0)]) (.con 4)))) [.ret (.cst (.bl false))] [], CS.ret (.blt false .all [(.comp false (.call false 20 [(.var 1), (.neg (.con 5)), (.con 5)]) (.nm 1) (.seq (.var 0)) none [1])])] from rfl, evB]
    have s1 : evS (C (n + 1)) CN 100000 (CS.ife (.isi (.var 0) .str) [.ret (.cmp .isin (.var 0) (.con 3))] []) [some (.p (tupI ps)), none] [] = .next [some (.p (tupI ps)), none] [] := by
      unfold tupI
      simp [FN, evB, evS, evE, evU, evI, evO, finR, Ip.R.bind, Ip.R.st, Ip.R.of, Ip.RS.thn, rd, rdAll, truP, callD, asPs, itsOf, atP, binP, addP, subP, mulP, modP, fdvP, isiU, putU, put, Ip.put.puts, setA, cmpP, eqC, neC, eqOk, scl2, eqP, eqPs, intC, mk, bltP, lenP, minP, maxP, intP, absP]
    have s2 : evS (C (n + 1)) CN 100000 (CS.ife (.or (.not (.isi (.var 0) .tup)) (.not (.cmp2 .le .le (.cst (.int (1))) (.blt false .len [(.var 0)]) (.con 4)))) [.ret (.cst (.bl false))] []) [some (.p (tupI ps)), none] [] = .next [some (.p (tupI ps)), none] [] := by
      unfold tupI
      simp [FN, evB, evS, evE, evU, evI, evO, finR, Ip.R.bind, Ip.R.st, Ip.R.of, Ip.RS.thn, rd, rdAll, truP, callD, asPs, itsOf, atP, binP, addP, subP, mulP, modP, fdvP, isiU, putU, put, Ip.put.puts, setA, cmpP, eqC, neC, eqOk, scl2, eqP, eqPs, intC, mk, bltP, lenP, minP, maxP, intP, absP, kk, l1, l2, h2, h1]
    rw [s1]
    simp only [RS.thn]
    rw [evB, s2]
    simp only [RS.thn]
    rw [evB, evS, evE, evU, e3]
    simp [R.bind, R.st, R.of, RS.thn, evU, rdAll, rd, bltP, allP, hb, mk]
  show callN FN CN 100000 (n + 2) 25 _ _ = _
  have ec : callN FN CN 100000 (n + 2) 25 [.p (tupI ps)] [] = finR false 0 (evB (C (n + 1)) CN 100000 F_is_pattern.body [some (.p (tupI ps)), none] []) := by
    rw [callN]
    rfl
  rw [ec, e4]
  rfl
end KG

set_option Elab.async false
set_option linter.all false
set_option maxRecDepth 100000
set_option maxHeartbeats 4000000
set_option exponentiation.threshold 5000
namespace KG
open Ip
abbrev mach (w : P) (o : Int) (c : String) (l : Bool) : P := .tup [w, .int o, s_ c, .bl l]
theorem rs1 : (PySem.Str.ofString "restart" = PySem.Str.ofString "stay") = False := str_ne (by decide +kernel)
theorem c_good (n : Nat) (w : P) (o : Int) (c : String) (l : Bool) (hw : C (n + 2) 25 [.p w] [] = .ok (.p (.bl true)) []) (o1 : 1 ≤ o) (o2 : o ≤ 2) (hc : c = "restart" ∨ c = "stay" ∨ c = "wait") : C (n + 3) 23 [.p (mach w o c l)] [] = .ok (.p (.bl true)) [] := by
  have e := c_is_whole (n + 1) o 1 2
  simp only [o1, o2, decide_true, Bool.and_self] at e
  have kk1 := k1
  have kk2 := k2
  have hin : inC (s_ c) (.tup [s_ "restart", s_ "stay", s_ "wait"]) = some true := by
    rcases hc with rfl | rfl | rfl <;> rfl
  unfold C i_ s_ mach at *
  rw [callN]
  simp [FN, evB, evS, evE, evU, evI, evO, finR, Ip.R.bind, Ip.R.st, Ip.R.of, Ip.RS.thn, rd, rdAll, truP, callD, asPs, itsOf, atP, binP, addP, subP, mulP, modP, fdvP, isiU, putU, put, Ip.put.puts, setA, cmpP, eqC, neC, eqOk, scl2, eqP, eqPs, intC, mk, bltP, lenP, minP, maxP, intP, absP, F_is_good, hw, e, kk1, kk2, hin]
theorem c_need_machine (n : Nat) (w : P) (o : Int) (c : String) (l : Bool) (hw : C (n + 2) 25 [.p w] [] = .ok (.p (.bl true)) []) (o1 : 1 ≤ o) (o2 : o ≤ 2) (hc : c = "restart" ∨ c = "stay" ∨ c = "wait") : C (n + 4) 19 [.p (mach w o c l)] [] = .ok (.p .non) [] := by
  have e := c_good n w o c l hw o1 o2 hc
  unfold C at *
  rw [callN]
  simp [FN, evB, evS, evE, evU, evI, evO, finR, Ip.R.bind, Ip.R.st, Ip.R.of, Ip.RS.thn, rd, rdAll, truP, callD, asPs, itsOf, atP, binP, addP, subP, mulP, modP, fdvP, isiU, putU, put, Ip.put.puts, setA, cmpP, eqC, neC, eqOk, scl2, eqP, eqPs, intC, mk, bltP, lenP, minP, maxP, intP, absP, F_need_machine, e]
theorem c_need_both (n : Nat) (m : P) (v : Int) (hm : C (n + 2) 19 [.p m] [] = .ok (.p .non) []) (h1 : 1 ≤ v) (h2 : v ≤ 10 ^ 30) : C (n + 3) 12 [.p m, i_ v] [] = .ok (.p .non) [] := by
  have e := c_need_number n v 1 (10 ^ 30) h1 h2
  have f := k0
  unfold C i_ at *
  rw [callN]
  simp at e
  simp [FN, evB, evS, evE, evU, evI, evO, finR, Ip.R.bind, Ip.R.st, Ip.R.of, Ip.RS.thn, rd, rdAll, truP, callD, asPs, itsOf, atP, binP, addP, subP, mulP, modP, fdvP, isiU, putU, put, Ip.put.puts, setA, cmpP, eqC, neC, eqOk, scl2, eqP, eqPs, intC, mk, bltP, lenP, minP, maxP, intP, absP, F_need_both, hm, f, e]
end KG

set_option Elab.async false
set_option linter.all false
set_option maxRecDepth 100000
set_option maxHeartbeats 4000000
set_option exponentiation.threshold 5000
namespace KG
open Ip
theorem c_note_at (n : Nat) (w : P) (o : Int) (c : String) (l : Bool) (v t num : Int) (hm : C (n + 5) 19 [.p (mach w o c l)] [] = .ok (.p .non) []) (h1 : 1 ≤ v) (h2 : v ≤ 10 ^ 30) (h3 : 0 ≤ t) (h4 : t ≤ 10 ^ 30) (ho : o.natAbs < 2 ^ 63) (hn : num.natAbs < 2 ^ 4000) (hr : C (n + 6) 14 [.p w, i_ (v * o), i_ t] [] = .ok (i_ num) []) :
    C (n + 7) 5 [.p (mach w o c l), i_ v, i_ t] [] = .ok (.p (.tup [.int (num.fmod v), .int (num.fdiv v)])) [] := by
  have e := c_need_both (n + 3) (mach w o c l) v hm h1 h2
  have e2 := c_need_number (n + 4) t 0 (10 ^ 30) h3 h4
  have f := k0
  have hm : mulOk v o = true := by simp [mulOk, ho]
  have hv : v ≠ 0 := by omega
  have hd : divOk num v = true := by
    have : v.natAbs < 2 ^ 4000 := Nat.lt_of_le_of_lt (show v.natAbs ≤ 10 ^ 30 by omega) (by decide)
    simp only [divOk, hv, hn, this]
    simp
    omega
  unfold C i_ mach s_ at *
  rw [callN]
  simp at e2
  simp [FN, evB, evS, evE, evU, evI, evO, finR, Ip.R.bind, Ip.R.st, Ip.R.of, Ip.RS.thn, rd, rdAll, truP, callD, asPs, itsOf, atP, binP, addP, subP, mulP, modP, fdvP, isiU, putU, put, Ip.put.puts, setA, cmpP, eqC, neC, eqOk, scl2, eqP, eqPs, intC, mk, bltP, lenP, minP, maxP, intP, absP, F_note_at, e, e2, f, hm, hr, hv, hd]
end KG

set_option Elab.async false
set_option linter.all false
set_option maxRecDepth 100000
set_option maxHeartbeats 4000000
set_option exponentiation.threshold 5000
namespace KG
open Ip
/-- first_heard of a word -/
theorem first_word (n : Nat) (x : String) (o : Int) (c : String) (l : Bool) (v r : Int) (hx : (PySem.Str.ofString x = PySem.Str.ofString "down") = False) (hm : C (n + 5) 19 [.p (mach (s_ x) o c l)] [] = .ok (.p .non) []) (h1 : 1 ≤ v) (h2 : v ≤ 10 ^ 30) (h3 : 0 ≤ r) (h4 : r ≤ v - 1) : C (n + 7) 10 [.p (mach (s_ x) o c l), i_ v, i_ r] [] = .ok (i_ r) [] := by
  have e := c_need_both (n + 3) (mach (s_ x) o c l) v hm h1 h2
  have e2 := c_need_number (n + 4) r 0 (v - 1) h3 h4
  unfold C i_ mach s_ at *
  rw [callN]
  simp [FN, evB, evS, evE, evU, evI, evO, finR, Ip.R.bind, Ip.R.st, Ip.R.of, Ip.RS.thn, rd, rdAll, truP, callD, asPs, itsOf, atP, binP, addP, subP, mulP, modP, fdvP, isiU, putU, put, Ip.put.puts, setA, cmpP, eqC, neC, eqOk, scl2, eqP, eqPs, intC, mk, bltP, lenP, minP, maxP, intP, absP, F_first_heard, e, e2, hx]
theorem first_down (n : Nat) (o : Int) (c : String) (l : Bool) (v r : Int) (hm : C (n + 5) 19 [.p (mach (s_ "down") o c l)] [] = .ok (.p .non) []) (h1 : 1 ≤ v) (h2 : v ≤ 10 ^ 30) (h3 : 0 ≤ r) (h4 : r ≤ v - 1) : C (n + 7) 10 [.p (mach (s_ "down") o c l), i_ v, i_ r] [] = .ok (i_ (v - 1 - r)) [] := by
  have e := c_need_both (n + 3) (mach (s_ "down") o c l) v hm h1 h2
  have e2 := c_need_number (n + 4) r 0 (v - 1) h3 h4
  unfold C i_ mach s_ at *
  rw [callN]
  simp [FN, evB, evS, evE, evU, evI, evO, finR, Ip.R.bind, Ip.R.st, Ip.R.of, Ip.RS.thn, rd, rdAll, truP, callD, asPs, itsOf, atP, binP, addP, subP, mulP, modP, fdvP, isiU, putU, put, Ip.put.puts, setA, cmpP, eqC, neC, eqOk, scl2, eqP, eqPs, intC, mk, bltP, lenP, minP, maxP, intP, absP, F_first_heard, e, e2]
/-- heard of a word, both ways -/
theorem heard_word (n : Nat) (x : String) (o : Int) (c : String) (l : Bool) (v : Int) (hm : C (n + 5) 19 [.p (mach (s_ x) o c l)] [] = .ok (.p .non) []) (ho : o.natAbs < 2 ^ 63) (h1 : 1 ≤ v) (h2 : v ≤ 10 ^ 30) : C (n + 7) 6 [.p (mach (s_ x) o c l), i_ v] [] = .ok (i_ v) [] := by
  have e := c_need_both (n + 3) (mach (s_ x) o c l) v hm h1 h2
  have hmo : mulOk v o = true := by simp [mulOk, ho]
  unfold C i_ mach s_ at *
  rw [callN]
  simp [FN, evB, evS, evE, evU, evI, evO, finR, Ip.R.bind, Ip.R.st, Ip.R.of, Ip.RS.thn, rd, rdAll, truP, callD, asPs, itsOf, atP, binP, addP, subP, mulP, modP, fdvP, isiU, putU, put, Ip.put.puts, setA, cmpP, eqC, neC, eqOk, scl2, eqP, eqPs, intC, mk, bltP, lenP, minP, maxP, intP, absP, F_heard, e, hmo]
theorem lheard_word (n : Nat) (x : String) (o : Int) (c : String) (l : Bool) (v : Int) : C (n + 1) 7 [.p (mach (s_ x) o c l), i_ v] [] = .ok (i_ v) [] := by
  unfold C i_ mach s_
  rw [callN]
  simp [FN, evB, evS, evE, evU, evI, evO, finR, Ip.R.bind, Ip.R.st, Ip.R.of, Ip.RS.thn, rd, rdAll, truP, callD, asPs, itsOf, atP, binP, addP, subP, mulP, modP, fdvP, isiU, putU, put, Ip.put.puts, setA, cmpP, eqC, neC, eqOk, scl2, eqP, eqPs, intC, mk, bltP, lenP, minP, maxP, intP, absP, F__law_heard]
end KG

set_option Elab.async false
set_option linter.all false
set_option maxRecDepth 100000
set_option maxHeartbeats 4000000
set_option exponentiation.threshold 5000
namespace KG
open Ip
def oP : Option Int → P
  | some m => .int m
  | none => .non
theorem minO_eq (l : List Int) : minO l = oP (minL l) := by
  unfold minO
  cases minL l <;> rfl
theorem rng1 : rngP 0 1 = [.int 0] := rfl
theorem rng2 : rngP 0 2 = [.int 0, .int 1] := rfl
theorem first_tup1 (n : Nat) (ps : List Int) (c : String) (l : Bool) (v r : Int) (a : Option Int) (hm : C (n + 5) 19 [.p (mach (tupI ps) 1 c l)] [] = .ok (.p .non) []) (h1 : 1 ≤ v) (h2 : v ≤ 10 ^ 30) (h3 : 0 ≤ r) (h4 : r ≤ v - 1)
    (ha : C (n + 6) 18 [.p (tupI ps), i_ v, i_ r] [] = .ok (.p (oP a)) []) : C (n + 7) 10 [.p (mach (tupI ps) 1 c l), i_ v, i_ r] [] = .ok (.p (oP a)) [] := by
  have e := c_need_both (n + 3) (mach (tupI ps) 1 c l) v hm h1 h2
  have e2 := c_need_number (n + 4) r 0 (v - 1) h3 h4
  have q := shp_ints 59 ps
  have m1 : mulOk v 1 = true := by simp [mulOk]
  have m2 : mulOk 0 v = true := by simp [mulOk]
  have w0 : shp 60 (.lst []) = true := rfl
  have w1 : ∀ a, shp 60 (.lst [.int a]) = true := fun _ => rfl
  unfold C i_ mach s_ tupI at *
  rw [callN]
  cases a with
  | none => simp [FN, evB, evS, evE, evU, evI, evO, finR, Ip.R.bind, Ip.R.st, Ip.R.of, Ip.RS.thn, rd, rdAll, truP, callD, asPs, itsOf, atP, binP, addP, subP, mulP, modP, fdvP, isiU, putU, put, Ip.put.puts, setA, cmpP, eqC, neC, eqOk, scl2, eqP, eqPs, intC, mk, bltP, lenP, minP, maxP, intP, absP, F_first_heard, e, e2, shd, q, rng1, cmpL, wip, LIM, m1, m2, ha, oP, seqOf, isC, isNon, w0, w1]
  | some a => simp [FN, evB, evS, evE, evU, evI, evO, finR, Ip.R.bind, Ip.R.st, Ip.R.of, Ip.RS.thn, rd, rdAll, truP, callD, asPs, itsOf, atP, binP, addP, subP, mulP, modP, fdvP, isiU, putU, put, Ip.put.puts, setA, cmpP, eqC, neC, eqOk, scl2, eqP, eqPs, intC, mk, bltP, lenP, minP, maxP, intP, absP, F_first_heard, e, e2, shd, q, rng1, cmpL, wip, LIM, m1, m2, ha, oP, seqOf, isC, isNon, w0, w1, lstI, intsP, minL]
end KG

set_option Elab.async false
set_option linter.all false
set_option maxRecDepth 100000
set_option maxHeartbeats 4000000
set_option exponentiation.threshold 5000
namespace KG
open Ip
def min2 : Option Int → Option Int → Option Int
  | none, b => b
  | a, none => a
  | some a, some b => some (if a ≤ b then a else b)
theorem first_tup2 (n : Nat) (ps : List Int) (c : String) (l : Bool) (v r : Int) (a b : Option Int) (hm : C (n + 5) 19 [.p (mach (tupI ps) 2 c l)] [] = .ok (.p .non) []) (h1 : 1 ≤ v) (h2 : v ≤ 10 ^ 30) (h3 : 0 ≤ r) (h4 : r ≤ v - 1)
    (ha : C (n + 6) 18 [.p (tupI ps), i_ (v * 2), i_ r] [] = .ok (.p (oP a)) []) (hb : C (n + 6) 18 [.p (tupI ps), i_ (v * 2), i_ (r + v)] [] = .ok (.p (oP b)) []) : C (n + 7) 10 [.p (mach (tupI ps) 2 c l), i_ v, i_ r] [] = .ok (.p (oP (min2 a b))) [] := by
  have e := c_need_both (n + 3) (mach (tupI ps) 2 c l) v hm h1 h2
  have e2 := c_need_number (n + 4) r 0 (v - 1) h3 h4
  have q := shp_ints 59 ps
  have m1 : mulOk v 2 = true := by simp [mulOk]
  have m2 : mulOk 0 v = true := by simp [mulOk]
  have m3 : mulOk 1 v = true := by simp [mulOk]
  have w0 : shp 60 (.lst []) = true := rfl
  have w1 : ∀ a, shp 60 (.lst [.int a]) = true := fun _ => rfl
  have w2 : ∀ a b, shp 60 (.lst [.int a, .int b]) = true := fun _ _ => rfl
  unfold C i_ mach s_ tupI at *
  rw [callN]
  cases a <;> cases b <;> simp [FN, evB, evS, evE, evU, evI, evO, finR, Ip.R.bind, Ip.R.st, Ip.R.of, Ip.RS.thn, rd, rdAll, truP, callD, asPs, itsOf, atP, binP, addP, subP, mulP, modP, fdvP, isiU, putU, put, Ip.put.puts, setA, cmpP, eqC, neC, eqOk, scl2, eqP, eqPs, intC, mk, bltP, lenP, minP, maxP, intP, absP, F_first_heard, e, e2, shd, q, rng2, cmpL, wip, LIM, m1, m2, m3, ha, hb, oP, min2, seqOf, isC, isNon, w0, w1, w2, lstI, intsP, minL]
end KG

set_option Elab.async false
set_option linter.all false
set_option maxRecDepth 100000
set_option maxHeartbeats 4000000
set_option exponentiation.threshold 5000
namespace KG
open Ip
/-- the rests, ahead of the remainder -/
def rawL (ps : List Int) (o : Nat) (v : Int) : List Int := ((List.range ps.length).map fun k => (List.range o).map fun (j : Nat) => preS ps k - (j : Int) * v).flatten
theorem mapflat {α β γ : Type} (f : β → γ) (g : α → List β) (l : List α) : (l.map fun x => (g x).map f).flatten = (l.map g).flatten.map f := by
  induction l with
  | nil => rfl
  | cons a l ih => simp [ih]
theorem dedI_nil : dedI [] = [] := rfl
/-- one turn's worth of heard -/
def worth (v d x : Int) : Int := if x < v then (v - 1 - x) / d + 1 else 0
theorem sum_worth (v d : Int) (hd : 0 < d) : ∀ (L : List Int) (a : Int), L.foldl (fun s x => s + worth v d x) a = a + (L.filterMap fun x => if x < v then some ((v - x + d - 1) / d) else none).sum
  | [], a => by simp
  | x :: L, a => by
    rw [List.foldl_cons, sum_worth v d hd L]
    unfold worth
    by_cases h : x < v
    · rw [if_pos h, List.filterMap_cons_some (b := (v - x + d - 1) / d) (by rw [if_pos h]), List.sum_cons]
      have e : (v - x + d - 1) / d = (v - 1 - x) / d + 1 := by
        rw [show v - x + d - 1 = (v - 1 - x) + d * 1 by omega, Int.add_mul_ediv_left _ _ (by omega)]
      rw [e]
      omega
    · rw [if_neg h, List.filterMap_cons_none (by rw [if_neg h])]
      omega
end KG

set_option Elab.async false
set_option linter.all false
set_option maxRecDepth 100000
set_option maxHeartbeats 4000000
set_option exponentiation.threshold 5000
namespace KG
open Ip
theorem mul_small (i j : Int) (h : j.natAbs < 2 ^ 63) : mulOk i j = true := by simp [mulOk, h]
theorem mul_small' (i j : Int) (h : i.natAbs < 2 ^ 63) : mulOk i j = true := by simp [mulOk, h]
theorem div_small (i j : Int) (h0 : j ≠ 0) (h : j.natAbs < 2 ^ 30) : divOk i j = true := by simp [divOk, h0, h]
/-- the second half of _law_vat -/
def vatB (k c : Int) : Int := (c * 131071 + 8191 * k + 5).fmod 2147483629 + 1
theorem c_vat (n k : Nat) (ns : List Int) (M : Hm) : ∃ a b, C (n + 1) 0 [.p (.scr (ns.map .int)), i_ (k : Int)] M = .ok (.ref M.length) (M ++ [.lst [.int a, .int b]]) ∧ 0 ≤ a ∧ 0 ≤ b ∧ b < 2 ^ 31 := by
  have key : ∀ c : Int, 0 ≤ c → 0 ≤ vatB k c ∧ vatB k c < 2 ^ 31 := fun c _ => by
    have a := Int.fmod_nonneg_of_pos (c * 131071 + 8191 * k + 5) (show (0 : Int) < 2147483629 by decide)
    have b := Int.fmod_lt_of_pos (c * 131071 + 8191 * k + 5) (show (0 : Int) < 2147483629 by decide)
    unfold vatB
    omega
  have m1 : ∀ c : Int, mulOk c 131071 = true := fun c => mul_small _ _ (by decide)
  have m2 : ∀ c : Int, mulOk 8191 c = true := fun c => mul_small' _ _ (by decide)
  have m3 : ∀ c : Int, mulOk 7919 c = true := fun c => mul_small' _ _ (by decide)
  by_cases hk : k < ns.length
  · have hg : (ns.map P.int)[k]? = some (.int ns[k]) := by simp [hk]
    generalize hc : (if ns[k] < 0 then -ns[k] else ns[k]) = c
    have hc0 : 0 ≤ c := by rw [← hc]; split <;> omega
    have hi : ((k : Int) < (ns.length : Int)) = True := by simpa using hk
    by_cases h18 : (10 : Int) ^ 18 ≤ c
    · refine ⟨c, vatB k c, ?_, hc0, key c hc0⟩
      simp at h18
      unfold C i_
      rw [callN]
      simp [FN, evB, evS, evE, evU, evI, evO, finR, Ip.R.bind, Ip.R.st, Ip.R.of, Ip.RS.thn, rd, rdAll, truP, callD, asPs, itsOf, atP, binP, addP, subP, mulP, modP, fdvP, isiU, putU, put, Ip.put.puts, setA, cmpP, eqC, neC, eqOk, scl2, eqP, eqPs, intC, mk, bltP, lenP, minP, maxP, intP, absP, F__law_vat, powP, m1, m2, m3, hk, hi, hc, h18, vatB]
    · refine ⟨0, vatB k c, ?_, by decide, key c hc0⟩
      simp at h18
      have h18' : ¬ (1000000000000000000 : Int) ≤ c := by omega
      unfold C i_
      rw [callN]
      simp [FN, evB, evS, evE, evU, evI, evO, finR, Ip.R.bind, Ip.R.st, Ip.R.of, Ip.RS.thn, rd, rdAll, truP, callD, asPs, itsOf, atP, binP, addP, subP, mulP, modP, fdvP, isiU, putU, put, Ip.put.puts, setA, cmpP, eqC, neC, eqOk, scl2, eqP, eqPs, intC, mk, bltP, lenP, minP, maxP, intP, absP, F__law_vat, powP, m1, m2, m3, hk, hi, hc, h18', vatB]
  · have hi : ¬ ((k : Int) < (ns.length : Int)) := by simpa using hk
    generalize hc : (7919 * (k : Int) + 43) = c
    have hc0 : 0 ≤ c := by omega
    by_cases h18 : (10 : Int) ^ 18 ≤ c
    · refine ⟨c, vatB k c, ?_, hc0, key c hc0⟩
      simp at h18
      unfold C i_
      rw [callN]
      simp [FN, evB, evS, evE, evU, evI, evO, finR, Ip.R.bind, Ip.R.st, Ip.R.of, Ip.RS.thn, rd, rdAll, truP, callD, asPs, itsOf, atP, binP, addP, subP, mulP, modP, fdvP, isiU, putU, put, Ip.put.puts, setA, cmpP, eqC, neC, eqOk, scl2, eqP, eqPs, intC, mk, bltP, lenP, minP, maxP, intP, absP, F__law_vat, powP, m1, m2, m3, hk, hi, hc, h18, vatB]
    · refine ⟨0, vatB k c, ?_, by decide, key c hc0⟩
      simp at h18
      have h18' : ¬ (1000000000000000000 : Int) ≤ c := by omega
      unfold C i_
      rw [callN]
      simp [FN, evB, evS, evE, evU, evI, evO, finR, Ip.R.bind, Ip.R.st, Ip.R.of, Ip.RS.thn, rd, rdAll, truP, callD, asPs, itsOf, atP, binP, addP, subP, mulP, modP, fdvP, isiU, putU, put, Ip.put.puts, setA, cmpP, eqC, neC, eqOk, scl2, eqP, eqPs, intC, mk, bltP, lenP, minP, maxP, intP, absP, F__law_vat, powP, m1, m2, m3, hk, hi, hc, h18', vatB]
theorem c_under (n i : Nat) (m a b : Int) (M : Hm) (hM : M[i]? = some (.lst [.int a, .int b])) (hm : 0 < m) (hm2 : m < 2 ^ 30) (ha : 0 ≤ a) (hb : 0 ≤ b) (hb2 : b < 2 ^ 31) :
    ∃ r a' b', C (n + 1) 3 [.ref i, i_ m] M = .ok (i_ r) (M.set i (.lst [.int a', .int b'])) ∧ 0 ≤ r ∧ r < m ∧ 0 ≤ a' ∧ 0 ≤ b' ∧ b' < 2 ^ 31 := by
  have hi : i < M.length := (List.getElem?_eq_some_iff.mp hM).1
  have ht : ∀ x, (M.set i x).take M.length = M.set i x := fun x => List.take_of_length_le (by simp)
  have hm0 : m ≠ 0 := by omega
  have d1 : ∀ x, divOk x m = true := fun x => div_small _ _ hm0 (by omega)
  by_cases h : 0 < a
  · refine ⟨a.fmod m, a.fdiv m, b, ?_, Int.fmod_nonneg_of_pos _ hm, Int.fmod_lt_of_pos _ hm, Int.fdiv_nonneg ha (by omega), hb, hb2⟩
    unfold C i_
    rw [callN]
    simp [FN, evB, evS, evE, evU, evI, evO, finR, Ip.R.bind, Ip.R.st, Ip.R.of, Ip.RS.thn, rd, rdAll, truP, callD, asPs, itsOf, atP, binP, addP, subP, mulP, modP, fdvP, isiU, putU, put, Ip.put.puts, setA, cmpP, eqC, neC, eqOk, scl2, eqP, eqPs, intC, mk, bltP, lenP, minP, maxP, intP, absP, F__law_under, hM, h, hm0, d1, ht]
  · have e1 : ∀ x : Int, divOk x 5 = true := fun x => div_small _ _ (by decide) (by decide)
    have e2 : ∀ x : Int, divOk x 32 = true := fun x => div_small _ _ (by decide) (by decide)
    have e3 : ∀ x : Int, mulOk x 39373 = true := fun x => mul_small _ _ (by decide)
    generalize hb' : (b * 39373 + 101).fmod 2147483629 = b'
    have p1 : 0 ≤ b' := by rw [← hb']; exact Int.fmod_nonneg_of_pos _ (by decide)
    have p2 : b' < 2147483629 := by rw [← hb']; exact Int.fmod_lt_of_pos _ (by decide)
    have e4 : ∀ x : Int, mulOk b' x = true := fun x => mul_small' _ _ (by omega)
    refine ⟨(((b' * (b'.fdiv 5 + 9)).fmod 2147483587).fdiv 32).fmod m, a, b', ?_, Int.fmod_nonneg_of_pos _ hm, Int.fmod_lt_of_pos _ hm, ha, p1, by omega⟩
    unfold C i_
    rw [callN]
    simp [FN, evB, evS, evE, evU, evI, evO, finR, Ip.R.bind, Ip.R.st, Ip.R.of, Ip.RS.thn, rd, rdAll, truP, callD, asPs, itsOf, atP, binP, addP, subP, mulP, modP, fdvP, isiU, putU, put, Ip.put.puts, setA, cmpP, eqC, neC, eqOk, scl2, eqP, eqPs, intC, mk, bltP, lenP, minP, maxP, intP, absP, F__law_under, hM, h, hm0, e1, e2, e3, e4, ht, hb', List.getElem?_set_self hi]
end KG

set_option Elab.async false
set_option linter.all false
set_option maxRecDepth 100000
set_option maxHeartbeats 4000000
set_option exponentiation.threshold 5000
namespace KG
open Ip
def restsL (ps : List Int) (o : Nat) (v : Int) : List Int := srtP (dedI ((rawL ps o v).map (· % (Int.gcd ps.sum (v * o) : Int))))
def heardV (ps : List Int) (o : Nat) (v : Int) : Int := (restsL ps o v).foldl (fun s x => s + worth v (Int.gcd ps.sum (v * o)) x) 0
theorem rawL_len (ps : List Int) (o : Nat) (v : Int) : (rawL ps o v).length = ps.length * o := by
  unfold rawL
  generalize preS ps = f
  induction ps.length with
  | zero => simp
  | succ k ih => rw [List.range_succ, List.map_append, List.flatten_append, List.length_append, ih]; simp [Nat.succ_mul]
theorem heard_tup (n : Nat) (ps : List Int) (o : Nat) (c : String) (l : Bool) (v : Int) (hm : C (n + 5) 19 [.p (mach (tupI ps) o c l)] [] = .ok (.p .non) []) (hps : ps.length ≤ 4) (ho : o ≤ 2) (ho1 : 1 ≤ o) (hs0 : -12 ≤ ps.sum) (hs1 : ps.sum ≤ 12) (h1 : 1 ≤ v) (h2 : v ≤ 10 ^ 30) (hpre : ∀ k, -12 ≤ preS ps k ∧ preS ps k ≤ 12) :
    C (n + 7) 6 [.p (mach (tupI ps) o c l), i_ v] [] = .ok (i_ (heardV ps o v)) [] := by
  have e := c_need_both (n + 3) (mach (tupI ps) o c l) v hm h1 h2
  have hR : 0 < v * o := Int.mul_pos (by omega) (by omega)
  have hR2 : v * o < 2 ^ 110 := by
    have : v * o ≤ 10 ^ 30 * 2 := Int.mul_le_mul h2 (by omega) (by omega) (by decide)
    omega
  have ec := c_common (n + 5) ps.sum (v * o) hR hR2
  have es := c_sums (n + 5) ps (by omega)
  have hmo : mulOk v o = true := by
    rcases (show o = 1 ∨ o = 2 by omega) with rfl | rfl <;> simp [mulOk]
  have eS : sumP [tupI ps] = some (.int ps.sum) := sum_tup ps
  have gp : 0 < Int.gcd ps.sum (v * o) := Int.gcd_pos_of_ne_zero_right _ (by omega)
  generalize hd : ((Int.gcd ps.sum (v * o) : Nat) : Int) = d at *
  have d0 : 0 < d := by omega
  have dz : d ≠ 0 := by omega
  have d1 : d ≤ v * o := by
    rw [← hd]
    exact Int.le_of_dvd hR (Int.gcd_dvd_right ..)
  refine callN_data (F := F_heard) rfl rfl rfl (M' := []) ?_
  unfold F_heard
  refine (evB_cons (ρ' := [some (.p (mach (tupI ps) o c l)), some (i_ v), none, none, none, none, none, none, none, none, none]) (M' := []) ?_).trans ?_
  · unfold C i_ mach tupI at *
    simp [FN, evB, evS, evE, evU, evI, evO, finR, Ip.R.bind, Ip.R.st, Ip.R.of, Ip.RS.thn, rd, rdAll, truP, callD, asPs, itsOf, atP, binP, addP, subP, mulP, modP, fdvP, isiU, putU, put, Ip.put.puts, setA, cmpP, eqC, neC, eqOk, scl2, eqP, eqPs, intC, mk, bltP, lenP, minP, maxP, intP, absP, e]
  refine (evB_cons (ρ' := [some (.p (mach (tupI ps) o c l)), some (i_ v), none, none, some (.p (tupI ps)), some (i_ (v * o)), none, none, none, none, none]) (M' := []) ?_).trans ?_
  · unfold C i_ mach tupI at *
    simp [FN, evB, evS, evE, evU, evI, evO, finR, Ip.R.bind, Ip.R.st, Ip.R.of, Ip.RS.thn, rd, rdAll, truP, callD, asPs, itsOf, atP, binP, addP, subP, mulP, modP, fdvP, isiU, putU, put, Ip.put.puts, setA, cmpP, eqC, neC, eqOk, scl2, eqP, eqPs, intC, mk, bltP, lenP, minP, maxP, intP, absP, hmo]
  refine (evB_cons (ρ' := [some (.p (mach (tupI ps) o c l)), some (i_ v), none, none, some (.p (tupI ps)), some (i_ (v * o)), none, none, none, none, none]) (M' := []) ?_).trans ?_
  · unfold C i_ mach tupI at *
    simp [FN, evB, evS, evE, evU, evI, evO, finR, Ip.R.bind, Ip.R.st, Ip.R.of, Ip.RS.thn, rd, rdAll, truP, callD, asPs, itsOf, atP, binP, addP, subP, mulP, modP, fdvP, isiU, putU, put, Ip.put.puts, setA, cmpP, eqC, neC, eqOk, scl2, eqP, eqPs, intC, mk, bltP, lenP, minP, maxP, intP, absP]
  refine (evB_cons (ρ' := [some (.p (mach (tupI ps) o c l)), some (i_ v), none, none, some (.p (tupI ps)), some (i_ (v * o)), some (i_ d), some (i_ 0), none, none, none]) (M' := []) ?_).trans ?_
  · unfold C i_ mach tupI at *
    simp [FN, evB, evS, evE, evU, evI, evO, finR, Ip.R.bind, Ip.R.st, Ip.R.of, Ip.RS.thn, rd, rdAll, truP, callD, asPs, itsOf, atP, binP, addP, subP, mulP, modP, fdvP, isiU, putU, put, Ip.put.puts, setA, cmpP, eqC, neC, eqOk, scl2, eqP, eqPs, intC, mk, bltP, lenP, minP, maxP, intP, absP, eS, ec]
  refine (evB_set (u := .p (.lst ((rawL ps o v).map .int))) (M' := []) ?_ (by simp)).trans ?_
  · refine (comp2_map (qs := sumsL ps) (its := fun _ => rngP 0 o) (f := fun q p => match q, p with
      | .int a, .int j => P.int (a - j * v)
      | _, _ => .non) 2 ?_ ?_ ?_ ?_ (by simp) (by simp) ?_ ?_).trans ?_
    · unfold C i_ mach tupI at *
      simp [FN, evB, evS, evE, evU, evI, evO, finR, Ip.R.bind, Ip.R.st, Ip.R.of, Ip.RS.thn, rd, rdAll, truP, callD, asPs, itsOf, atP, binP, addP, subP, mulP, modP, fdvP, isiU, putU, put, Ip.put.puts, setA, cmpP, eqC, neC, eqOk, scl2, eqP, eqPs, intC, mk, bltP, lenP, minP, maxP, intP, absP, es, seqOf]
    · unfold sumsL
      simp [LIM]
      omega
    · intro q hq
      rw [rngP_nat]
      simpa using ho
    · unfold sumsL
      simp [LIM]
      omega
    · intro q hq
      unfold C i_ mach tupI at *
      have hb : ((o : Nat) : Int) ≤ 1000000000 := by omega
      simp [FN, evB, evS, evE, evU, evI, evO, finR, Ip.R.bind, Ip.R.st, Ip.R.of, Ip.RS.thn, rd, rdAll, truP, callD, asPs, itsOf, atP, binP, addP, subP, mulP, modP, fdvP, isiU, putU, put, Ip.put.puts, setA, cmpP, eqC, neC, eqOk, scl2, eqP, eqPs, intC, mk, bltP, lenP, minP, maxP, intP, absP, wip, hb]
    · intro q hq p hp
      unfold sumsL at hq
      obtain ⟨k, hk, rfl⟩ := List.mem_map.mp hq
      rw [rngP_nat] at hp
      obtain ⟨j, hj, rfl⟩ := List.mem_map.mp hp
      have hj := List.mem_range.mp hj
      have hmj : mulOk (j : Int) v = true := mul_small' _ _ (by omega)
      unfold C i_ mach tupI at *
      simp [FN, evB, evS, evE, evU, evI, evO, finR, Ip.R.bind, Ip.R.st, Ip.R.of, Ip.RS.thn, rd, rdAll, truP, callD, asPs, itsOf, atP, binP, addP, subP, mulP, modP, fdvP, isiU, putU, put, Ip.put.puts, setA, cmpP, eqC, neC, eqOk, scl2, eqP, eqPs, intC, mk, bltP, lenP, minP, maxP, intP, absP, wip, hmj]
    · unfold mk
      simp only
      congr 3
      unfold sumsL rawL
      rw [List.map_map, rngP_nat, ← mapflat]
      congr 1
      refine List.map_congr_left fun k _ => ?_
      simp [preS]
  dsimp only [List.set]
  have hraw := rawL_len ps o v
  have hrl : (rawL ps o v).length ≤ 8 := by
    rw [hraw]
    exact Nat.le_trans (Nat.mul_le_mul hps ho) (by decide)
  have hlen : (dedI ((rawL ps o v).map (· % d))).length ≤ 8 := Nat.le_trans (dedI_len _) (by rw [List.length_map]; exact hrl)
  have hcm : evE (C (n + 6)) CN (.comp false (.bin false .mod (.var 10) (.var 6)) (.nm 10) (.seq (.var 2)) none [10]) [some (.p (mach (tupI ps) o c l)), some (i_ v), some (.p (.lst ((rawL ps o v).map .int))), none, some (.p (tupI ps)), some (i_ (v * o)), some (i_ d), some (i_ 0), none, none, none] [] = .ok (.p (.lst (((rawL ps o v).map (· % d)).map .int))) [] := by
    refine (comp_map (qs := (rawL ps o v).map .int) (f := fun q => match q with
      | .int a => .int (a % d)
      | q => q) ?_ ?_ (by simp) ?_).trans ?_
    · simp [FN, evB, evS, evE, evU, evI, evO, finR, Ip.R.bind, Ip.R.st, Ip.R.of, Ip.RS.thn, rd, rdAll, truP, callD, asPs, itsOf, atP, binP, addP, subP, mulP, modP, fdvP, isiU, putU, put, Ip.put.puts, setA, cmpP, eqC, neC, eqOk, scl2, eqP, eqPs, intC, mk, bltP, lenP, minP, maxP, intP, absP, seqOf]
    · simp [LIM]
      omega
    · intro q hq
      obtain ⟨a, _, rfl⟩ := List.mem_map.mp hq
      unfold i_
      simp [FN, evB, evS, evE, evU, evI, evO, finR, Ip.R.bind, Ip.R.st, Ip.R.of, Ip.RS.thn, rd, rdAll, truP, callD, asPs, itsOf, atP, binP, addP, subP, mulP, modP, fdvP, isiU, putU, put, Ip.put.puts, setA, cmpP, eqC, neC, eqOk, scl2, eqP, eqPs, intC, mk, bltP, lenP, minP, maxP, intP, absP, wip, dz, fmod_pos d0]
    · unfold mk
      simp
  refine (evB_for (qs := (restsL ps o v).map .int) (fun i ρ M => M = [] ∧ ∃ x, ρ = [some (.p (mach (tupI ps) o c l)), some (i_ v), some (.p (.lst ((rawL ps o v).map .int))), x, some (.p (tupI ps)), some (i_ (v * o)), some (i_ d), some (i_ (((restsL ps o v).take i).foldl (fun s x => s + worth v d x) 0)), none, none, none]) ?_ ?_ ?_ ?_)
  · have e1 : bltP .set [.lst (((rawL ps o v).map (· % d)).map .int)] = some (.set ((dedI ((rawL ps o v).map (· % d))).map .int)) := by
      show (intsP (((rawL ps o v).map (· % d)).map P.int)).bind _ = _
      rw [intsP_map]
      show (if _ then _ else _) = _
      rw [if_pos (by simp; omega)]
    have e2 : bltP .sorted [.set ((dedI ((rawL ps o v).map (· % d))).map .int)] = some (.lst ((restsL ps o v).map .int)) := by
      show ((intsP ((dedI ((rawL ps o v).map (· % d))).map P.int)).bind _).map _ = _
      rw [intsP_map]
      show ((if _ then _ else _) : Option _).map _ = _
      rw [if_pos (by omega)]
      unfold restsL
      rw [hd]
      rfl
    exact ev_seq ((ev_blt1 ((ev_blt1 hcm rfl e1).trans rfl) rfl e2).trans rfl) rfl
  · exact ⟨rfl, none, rfl⟩
  · rintro i q ρ M hq ⟨rfl, x, rfl⟩
    rw [List.getElem?_map] at hq
    obtain ⟨a, ha, rfl⟩ := Option.map_eq_some_iff.mp hq
    have hd1 : divOk (v - 1 - a) d = true := by
      have hmem : a ∈ restsL ps o v := List.mem_of_getElem? ha
      have : 0 ≤ a ∧ a < d := by
        unfold restsL at hmem
        rw [srtP_mem, dedI_mem, hd] at hmem
        obtain ⟨b, _, rfl⟩ := List.mem_map.mp hmem
        exact ⟨Int.emod_nonneg _ dz, Int.emod_lt_of_pos _ d0⟩
      exact div_big d0 (lt4000 (by omega) (by omega)) (lt4000 (by omega) (by omega))
    have ht : (restsL ps o v).take (i + 1) = (restsL ps o v).take i ++ [a] := by
      rw [List.take_add_one, ha]
      rfl
    refine ⟨_, _, [], rfl, .inl ?_, rfl, some (i_ a), rfl⟩
    rw [ht, List.foldl_append]
    generalize (List.take i (restsL ps o v)).foldl (fun s x => s + worth v d x) 0 = acc
    unfold worth i_
    by_cases hc : a < v
    · simp [FN, evB, evS, evE, evU, evI, evO, finR, Ip.R.bind, Ip.R.st, Ip.R.of, Ip.RS.thn, rd, rdAll, truP, callD, asPs, itsOf, atP, binP, addP, subP, mulP, modP, fdvP, isiU, putU, put, Ip.put.puts, setA, cmpP, eqC, neC, eqOk, scl2, eqP, eqPs, intC, mk, bltP, lenP, minP, maxP, intP, absP, hc, hd1, fdiv_pos d0, dz]
    · simp [FN, evB, evS, evE, evU, evI, evO, finR, Ip.R.bind, Ip.R.st, Ip.R.of, Ip.RS.thn, rd, rdAll, truP, callD, asPs, itsOf, atP, binP, addP, subP, mulP, modP, fdvP, isiU, putU, put, Ip.put.puts, setA, cmpP, eqC, neC, eqOk, scl2, eqP, eqPs, intC, mk, bltP, lenP, minP, maxP, intP, absP, hc, hd1, fdiv_pos d0]
  · rintro ρ M ⟨rfl, x, rfl⟩
    refine evB_one ?_
    unfold heardV
    rw [List.length_map, List.take_length, hd]
    simp [FN, evB, evS, evE, evU, evI, evO, finR, Ip.R.bind, Ip.R.st, Ip.R.of, Ip.RS.thn, rd, rdAll, truP, callD, asPs, itsOf, atP, binP, addP, subP, mulP, modP, fdvP, isiU, putU, put, Ip.put.puts, setA, cmpP, eqC, neC, eqOk, scl2, eqP, eqPs, intC, mk, bltP, lenP, minP, maxP, intP, absP]
end KG

set_option Elab.async false
set_option linter.all false
set_option maxRecDepth 100000
set_option maxHeartbeats 4000000
set_option exponentiation.threshold 5000
namespace KG
open Ip
theorem int_beq (i j : Int) : (i == j) = decide (i = j) := by
  by_cases h : i = j <;> simp [h]
/-- the rests so far -/
def accL (ps : List Int) (o : Nat) (v d : Int) (k j : Nat) : List P := ((((List.range k).map fun k => (List.range o).map fun (j : Nat) => preS ps k - (j : Int) * v).flatten ++ (List.range j).map fun (j : Nat) => preS ps k - (j : Int) * v).map fun x => P.int (x % d))
theorem accL_succ (ps : List Int) (o : Nat) (v d : Int) (k j : Nat) : accL ps o v d k (j + 1) = accL ps o v d k j ++ [.int ((preS ps k - (j : Int) * v) % d)] := by
  unfold accL
  rw [List.range_succ]
  simp
theorem accL_row (ps : List Int) (o : Nat) (v d : Int) (k : Nat) : accL ps o v d (k + 1) 0 = accL ps o v d k o := by
  unfold accL
  rw [List.range_succ]
  simp
theorem accL_len (ps : List Int) (o : Nat) (v d : Int) (k j : Nat) : (accL ps o v d k j).length = k * o + j := by
  induction k generalizing j with
  | zero => simp [accL]
  | succ k ih =>
    induction j with
    | zero => rw [accL_row, ih, Nat.succ_mul]; rfl
    | succ j jh => rw [accL_succ, List.length_append, jh]; rfl
theorem accL_all (ps : List Int) (o : Nat) (v d : Int) : accL ps o v d ps.length 0 = ((rawL ps o v).map (· % d)).map .int := by
  unfold accL rawL
  rw [List.map_map]
  simp only [List.range_zero, List.map_nil, List.append_nil]
  rfl
theorem lheard_tup (n : Nat) (ps : List Int) (o : Nat) (c : String) (l : Bool) (v : Int) (hps : ps.length ≤ 4) (ho : o ≤ 2) (ho1 : 1 ≤ o) (h1 : 1 ≤ v) (h2 : v ≤ 10 ^ 30) (hs0 : -12 ≤ ps.sum) (hs1 : ps.sum ≤ 12) (hpre : ∀ k, -12 ≤ preS ps k ∧ preS ps k ≤ 12) :
    C (n + 7) 7 [.p (mach (tupI ps) o c l), i_ v] [] = .ok (i_ (heardV ps o v)) [] := by
  have hR : 0 < v * o := Int.mul_pos (by omega) (by omega)
  have hR2 : v * o < 2 ^ 110 := by
    have : v * o ≤ 10 ^ 30 * 2 := Int.mul_le_mul h2 (by omega) (by omega) (by decide)
    omega
  have ec := c_common2 (n + 5) ps.sum (v * o) hR hR2
  have hmo : mulOk v o = true := by
    rcases (show o = 1 ∨ o = 2 by omega) with rfl | rfl <;> simp [mulOk]
  have eS : sumP [tupI ps] = some (.int ps.sum) := sum_tup ps
  have gp : 0 < Int.gcd ps.sum (v * o) := Int.gcd_pos_of_ne_zero_right _ (by omega)
  generalize hd : ((Int.gcd ps.sum (v * o) : Nat) : Int) = d at *
  have d0 : 0 < d := by omega
  have dz : d ≠ 0 := by omega
  have dle : d ≤ v * o := by
    rw [← hd]
    exact Int.le_of_dvd hR (Int.gcd_dvd_right ..)
  refine callN_sat (F := F__law_heard) rfl rfl rfl ?_
  unfold F__law_heard
  unfold C i_ mach tupI at *
  (rw [sat_cons]; simp [int_beq, evU, evO, Ip.R.of, rd, rdAll, truP, callD, asPs, itsOf, atP, binP, addP, subP, mulP, modP, fdvP, isiU, putU, put, Ip.put.puts, setA, cmpP, eqC, neC, eqOk, scl2, eqP, eqPs, intC, mk, bltP, lenP, minP, maxP, intP, absP, sat_nil, qE_var, qE_cst, qE_con, qE_glb, qE_tup, qE_lst, qE_bin, qE_neg, qE_cmp, qE_cmp2, qE_and, qE_or, qE_not, qE_ife, qE_call, qE_blt, qE_isi, qE_idx, qE_slc, qE_rev, qE_ofr, qE_frz, qS_set, qS_par, qS_par3, qS_parT, qS_sub, qS_expr, qS_app, qS_ife, qS_ret, qS_rais, qS_brk, qS_cont])
  (rw [sat_cons]; simp [int_beq, evU, evO, Ip.R.of, rd, rdAll, truP, callD, asPs, itsOf, atP, binP, addP, subP, mulP, modP, fdvP, isiU, putU, put, Ip.put.puts, setA, cmpP, eqC, neC, eqOk, scl2, eqP, eqPs, intC, mk, bltP, lenP, minP, maxP, intP, absP, sat_nil, qE_var, qE_cst, qE_con, qE_glb, qE_tup, qE_lst, qE_bin, qE_neg, qE_cmp, qE_cmp2, qE_and, qE_or, qE_not, qE_ife, qE_call, qE_blt, qE_isi, qE_idx, qE_slc, qE_rev, qE_ofr, qE_frz, qS_set, qS_par, qS_par3, qS_parT, qS_sub, qS_expr, qS_app, qS_ife, qS_ret, qS_rais, qS_brk, qS_cont, eS, ec, hmo])
  rw [sat_cons]
  refine sat_forR (m := ps.length) (fun k ρ M => ∃ x2 x5, M = [.lst (accL ps o v d k 0)] ∧ ρ = [some (.p (.tup [.tup (ps.map .int), .int o, s_ c, .bl l])), some (i_ v), x2, some (i_ d), some (.ref 0), x5, none]) (ev_rng (M' := _) (by simp [int_beq, evU, evO, Ip.R.of, rd, rdAll, truP, callD, asPs, itsOf, atP, binP, addP, subP, mulP, modP, fdvP, isiU, putU, put, Ip.put.puts, setA, cmpP, eqC, neC, eqOk, scl2, eqP, eqPs, intC, mk, bltP, lenP, minP, maxP, intP, absP, sat_nil, qE_var, qE_cst, qE_con, qE_glb, qE_tup, qE_lst, qE_bin, qE_neg, qE_cmp, qE_cmp2, qE_and, qE_or, qE_not, qE_ife, qE_call, qE_blt, qE_isi, qE_idx, qE_slc, qE_rev, qE_ofr, qE_frz, qS_set, qS_par, qS_par3, qS_parT, qS_sub, qS_expr, qS_app, qS_ife, qS_ret, qS_rais, qS_brk, qS_cont]; rfl) (by omega) (by omega)) ⟨none, none, rfl, rfl⟩ ?_ ?_
  · rintro k ρ M hk ⟨x2, x5, rfl, rfl⟩
    refine ⟨by simp, ?_⟩
    rw [sat_one]
    refine sat_forR (m := o) (fun j ρ M => ∃ x5, M = [.lst (accL ps o v d k j)] ∧ ρ = [some (.p (.tup [.tup (ps.map .int), .int o, s_ c, .bl l])), some (i_ v), some (i_ (k : Int)), some (i_ d), some (.ref 0), x5, none]) (ev_rng (M' := _) (by simp [int_beq, evU, evO, Ip.R.of, rd, rdAll, truP, callD, asPs, itsOf, atP, binP, addP, subP, mulP, modP, fdvP, isiU, putU, put, Ip.put.puts, setA, cmpP, eqC, neC, eqOk, scl2, eqP, eqPs, intC, mk, bltP, lenP, minP, maxP, intP, absP, sat_nil, qE_var, qE_cst, qE_con, qE_glb, qE_tup, qE_lst, qE_bin, qE_neg, qE_cmp, qE_cmp2, qE_and, qE_or, qE_not, qE_ife, qE_call, qE_blt, qE_isi, qE_idx, qE_slc, qE_rev, qE_ofr, qE_frz, qS_set, qS_par, qS_par3, qS_parT, qS_sub, qS_expr, qS_app, qS_ife, qS_ret, qS_rais, qS_brk, qS_cont]) (by omega) (by omega)) ⟨x5, rfl, rfl⟩ ?_ ?_
    · rintro j ρ M hj ⟨x5, rfl, rfl⟩
      refine ⟨by simp, ?_⟩
      have hc := sum_cut ps k (by omega)
      have hmj : mulOk (j : Int) v = true := mul_small' _ _ (by omega)
      have hl : (accL ps o v d k j).length < LIM := by
        rw [accL_len]
        have : k * o ≤ 4 * 2 := Nat.mul_le_mul (by omega) ho
        unfold LIM
        omega
      rw [sat_one]
      simp [int_beq, evU, evO, Ip.R.of, rd, rdAll, truP, callD, asPs, itsOf, atP, binP, addP, subP, mulP, modP, fdvP, isiU, putU, put, Ip.put.puts, setA, cmpP, eqC, neC, eqOk, scl2, eqP, eqPs, intC, mk, bltP, lenP, minP, maxP, intP, absP, sat_nil, qE_var, qE_cst, qE_con, qE_glb, qE_tup, qE_lst, qE_bin, qE_neg, qE_cmp, qE_cmp2, qE_and, qE_or, qE_not, qE_ife, qE_call, qE_blt, qE_isi, qE_idx, qE_slc, qE_rev, qE_ofr, qE_frz, qS_set, qS_par, qS_par3, qS_parT, qS_sub, qS_expr, qS_app, qS_ife, qS_ret, qS_rais, qS_brk, qS_cont, hc, hmj, dz, fmod_pos d0, hl]
      rw [accL_succ]
      rfl
    · rintro ρ M ⟨x5, rfl, rfl⟩
      exact ⟨some (i_ k), x5, by rw [accL_row], rfl⟩
  · rintro ρ M ⟨x2, x5, rfl, rfl⟩
    rw [wn_nx, accL_all, sat_one, qS_ret]
    have hrl : (rawL ps o v).length ≤ 8 := by
      rw [rawL_len]
      exact Nat.le_trans (Nat.mul_le_mul hps ho) (by decide)
    have hlen : (dedI ((rawL ps o v).map (· % d))).length ≤ 8 := Nat.le_trans (dedI_len _) (by rw [List.length_map]; exact hrl)
    have e1 : bltP .set [.lst (((rawL ps o v).map (· % d)).map .int)] = some (.set ((dedI ((rawL ps o v).map (· % d))).map .int)) := by
      show (intsP (((rawL ps o v).map (· % d)).map P.int)).bind _ = _
      rw [intsP_map]
      show (if _ then _ else _) = _
      rw [if_pos (by simp; omega)]
    have e2 : bltP .sorted [.set ((dedI ((rawL ps o v).map (· % d))).map .int)] = some (.lst ((restsL ps o v).map .int)) := by
      show ((intsP ((dedI ((rawL ps o v).map (· % d))).map P.int)).bind _).map _ = _
      rw [intsP_map]
      show ((if _ then _ else _) : Option _).map _ = _
      rw [if_pos (by omega)]
      unfold restsL
      rw [hd]
      rfl
    have hres : ∀ a ∈ restsL ps o v, 0 ≤ a ∧ a < d := fun a ha => by
      unfold restsL at ha
      rw [srtP_mem, dedI_mem, hd] at ha
      obtain ⟨b, _, rfl⟩ := List.mem_map.mp ha
      exact ⟨Int.emod_nonneg _ dz, Int.emod_lt_of_pos _ d0⟩
    rw [ev_blt1 ((comp_filterM (restsL ps o v) .int (fun a => .int ((v - a + d - 1) / d)) (fun a => decide (a < v)) (ev_seq ((ev_blt1 ((ev_blt1 ((qE_var ..).trans rfl) rfl e1).trans rfl) rfl e2).trans rfl) rfl) ?_ (by simp) ?_ ?_).trans rfl) rfl (q := .int (heardV ps o v)) ?_]
    · simp [mk]
    · have : (restsL ps o v).length ≤ 8 := by
        unfold restsL
        rw [srtP_length, hd]
        exact hlen
      simp [LIM]
      omega
    · intro a ha
      unfold evT
      simp [int_beq, evU, evO, Ip.R.of, rd, rdAll, truP, callD, asPs, itsOf, atP, binP, addP, subP, mulP, modP, fdvP, isiU, putU, put, Ip.put.puts, setA, cmpP, eqC, neC, eqOk, scl2, eqP, eqPs, intC, mk, bltP, lenP, minP, maxP, intP, absP, sat_nil, qE_var, qE_cst, qE_con, qE_glb, qE_tup, qE_lst, qE_bin, qE_neg, qE_cmp, qE_cmp2, qE_and, qE_or, qE_not, qE_ife, qE_call, qE_blt, qE_isi, qE_idx, qE_slc, qE_rev, qE_ofr, qE_frz, qS_set, qS_par, qS_par3, qS_parT, qS_sub, qS_expr, qS_app, qS_ife, qS_ret, qS_rais, qS_brk, qS_cont, wip]
    · intro a ha _
      have ha2 := hres a ha
      have hdv : divOk (v - a + d - 1) d = true := div_big d0 (lt4000 (by omega) (by omega)) (lt4000 (by omega) (by omega))
      simp [int_beq, evU, evO, Ip.R.of, rd, rdAll, truP, callD, asPs, itsOf, atP, binP, addP, subP, mulP, modP, fdvP, isiU, putU, put, Ip.put.puts, setA, cmpP, eqC, neC, eqOk, scl2, eqP, eqPs, intC, mk, bltP, lenP, minP, maxP, intP, absP, sat_nil, qE_var, qE_cst, qE_con, qE_glb, qE_tup, qE_lst, qE_bin, qE_neg, qE_cmp, qE_cmp2, qE_and, qE_or, qE_not, qE_ife, qE_call, qE_blt, qE_isi, qE_idx, qE_slc, qE_rev, qE_ofr, qE_frz, qS_set, qS_par, qS_par3, qS_parT, qS_sub, qS_expr, qS_app, qS_ife, qS_ret, qS_rais, qS_brk, qS_cont, wip, hdv, fdiv_pos d0]
    · have e3 : ((restsL ps o v).filter fun a => decide (a < v)).map (fun a => P.int ((v - a + d - 1) / d)) = (((restsL ps o v).filter fun a => decide (a < v)).map fun a => (v - a + d - 1) / d).map P.int := by
        rw [List.map_map]
        rfl
      rw [e3]
      show (match intsP _ with
        | some is => some (P.int is.sum)
        | none => none) = _
      rw [intsP_map]
      unfold heardV
      rw [hd, sum_worth v d d0, Int.zero_add]
      simp only
      congr 3
      generalize restsL ps o v = L
      induction L with
      | nil => rfl
      | cons a L ih => by_cases h : a < v <;> simp [h, ih]
end KG

set_option Elab.async false
set_option linter.all false
set_option maxRecDepth 100000
set_option maxHeartbeats 4000000
set_option exponentiation.threshold 5000
namespace KG
open Ip
theorem minL_spec : ∀ (l : List Int), (minL l = none ∧ l = []) ∨ ∃ m, minL l = some m ∧ m ∈ l ∧ ∀ x ∈ l, m ≤ x
  | [] => .inl ⟨rfl, rfl⟩
  | [i] => .inr ⟨i, rfl, by simp, by simp⟩
  | i :: j :: l => by
    rcases minL_spec (j :: l) with ⟨_, h⟩ | ⟨m, e, h1, h2⟩
    · cases h
    · refine .inr ⟨if i ≤ m then i else m, by show (minL (j :: l)).map _ = _; rw [e]; rfl, ?_, ?_⟩
      · split
        · exact List.mem_cons_self
        · exact List.mem_cons_of_mem _ h1
      · intro x hx
        rcases List.mem_cons.mp hx with rfl | hx
        · split <;> omega
        · have := h2 x hx
          split <;> omega
/-- what is asked of a first place: over the ways W (turn's at, way), S turns a round -/
structure FirstOk (len d S t' : Int) (ways : List (Int × Int)) (best : Option Int) : Prop where
  no : best = none → ways = []
  yes : ∀ t, best = some t → (∃ w ∈ ways, ∃ T, 0 ≤ T ∧ T < S ∧ S ∣ T * t' - w.2 / d ∧ t = T * len + w.1) ∧ ∀ w ∈ ways, ∃ T, 0 ≤ T ∧ T < S ∧ S ∣ T * t' - w.2 / d ∧ t ≤ T * len + w.1
theorem tfn_ok {N d S r pre t' : Int} (hS : 0 < S) (hr : 1 < S → 0 ≤ r ∧ r < S ∧ S ∣ r * t' - 1) : 0 ≤ tfn N d S r pre ∧ tfn N d S r pre < S ∧ S ∣ tfn N d S r pre * t' - (N - pre) / d := by
  unfold tfn
  by_cases h : 1 < S
  · rw [if_pos h]
    obtain ⟨_, _, hd⟩ := hr h
    refine ⟨Int.emod_nonneg _ (by omega), Int.emod_lt_of_pos _ hS, ?_⟩
    generalize (N - pre) / d = q
    have h1 : S ∣ q * r - (q * r) % S := Int.dvd_self_sub_emod
    have h2 : S ∣ (q * r - (q * r) % S) * t' := Int.dvd_mul_of_dvd_left h1
    have h3 : S ∣ q * (r * t' - 1) := Int.dvd_mul_of_dvd_right hd
    have h4 := Int.dvd_sub h3 h2
    rw [show (q * r % S) * t' - q = q * (r * t' - 1) - (q * r - q * r % S) * t' by rw [Int.mul_sub, Int.sub_mul, Int.mul_one, Int.mul_assoc]; omega]
    exact h4
  · rw [if_neg h]
    have : S = 1 := by omega
    subst this
    exact ⟨by decide, by decide, Int.one_dvd _⟩
/-- the ways of one octave -/
def waysO (ps : List Int) (d N : Int) (k : Nat) : List (Int × Int) := (List.range k).filterMap fun a => if (N - preS ps a) % d = 0 then some ((a : Int), N - preS ps a) else none
theorem first_one {ps : List Int} {R N r : Int} (R0 : 0 < R) (hr : 1 < R / Int.gcd ps.sum R → 0 ≤ r ∧ r < R / Int.gcd ps.sum R ∧ (R / Int.gcd ps.sum R) ∣ r * (ps.sum / Int.gcd ps.sum R) - 1) :
    FirstOk ps.length (Int.gcd ps.sum R) (R / Int.gcd ps.sum R) (ps.sum / Int.gcd ps.sum R) (waysO ps (Int.gcd ps.sum R) N ps.length) (minL (places ps R N r ps.length)) := by
  have gp : 0 < Int.gcd ps.sum R := Int.gcd_pos_of_ne_zero_right _ (by omega)
  unfold places waysO
  generalize hd : ((Int.gcd ps.sum R : Nat) : Int) = d at *
  have d0 : 0 < d := by omega
  have dR : d ∣ R := by rw [← hd]; exact Int.gcd_dvd_right ..
  have S0 : 0 < R / d := Int.ediv_pos_of_pos_of_dvd R0 (by omega) dR
  have ok := fun a : Nat => tfn_ok (N := N) (d := d) (pre := preS ps a) S0 hr
  have mem : ∀ x, x ∈ (List.range ps.length).filterMap (fun at_ => candI N d (R / d) r ps.length at_ (preS ps at_)) ↔ ∃ a, a < ps.length ∧ (N - preS ps a) % d = 0 ∧ x = tfn N d (R / d) r (preS ps a) * ps.length + a := fun x => by
    simp only [List.mem_filterMap, List.mem_range, candI]
    constructor
    · rintro ⟨a, h1, h2⟩
      split at h2
      · exact ⟨a, h1, by assumption, (Option.some.inj h2).symm⟩
      · cases h2
    · rintro ⟨a, h1, h2, rfl⟩
      exact ⟨a, h1, by rw [if_pos h2]⟩
  have memW : ∀ w, w ∈ (List.range ps.length).filterMap (fun a => if (N - preS ps a) % d = 0 then some ((a : Int), N - preS ps a) else none) ↔ ∃ a : Nat, a < ps.length ∧ (N - preS ps a) % d = 0 ∧ w = ((a : Int), N - preS ps a) := fun w => by
    simp only [List.mem_filterMap, List.mem_range]
    constructor
    · rintro ⟨a, h1, h2⟩
      split at h2
      · exact ⟨a, h1, by assumption, (Option.some.inj h2).symm⟩
      · cases h2
    · rintro ⟨a, h1, h2, rfl⟩
      exact ⟨a, h1, by rw [if_pos h2]⟩
  rcases minL_spec ((List.range ps.length).filterMap (fun at_ => candI N d (R / d) r ps.length at_ (preS ps at_))) with ⟨e, h⟩ | ⟨m, e, h1, h2⟩
  · rw [e]
    refine ⟨fun _ => List.eq_nil_iff_forall_not_mem.mpr fun w hw => ?_, fun t ht => nomatch ht⟩
    obtain ⟨a, a1, a2, _⟩ := (memW w).mp hw
    have := (mem _).mpr ⟨a, a1, a2, rfl⟩
    rw [h] at this
    cases this
  · rw [e]
    refine ⟨fun h => (nomatch h), fun t ht => ?_⟩
    cases ht
    obtain ⟨a, a1, a2, e3⟩ := (mem m).mp h1
    refine ⟨⟨_, (memW _).mpr ⟨a, a1, a2, rfl⟩, _, (ok a).1, (ok a).2.1, (ok a).2.2, e3⟩, fun w hw => ?_⟩
    obtain ⟨b, b1, b2, rfl⟩ := (memW w).mp hw
    exact ⟨_, (ok b).1, (ok b).2.1, (ok b).2.2, h2 _ ((mem _).mpr ⟨b, b1, b2, rfl⟩)⟩
theorem first_two {len d S t' : Int} {w1 w2 : List (Int × Int)} {a b : Option Int} (h1 : FirstOk len d S t' w1 a) (h2 : FirstOk len d S t' w2 b) (ws : List (Int × Int)) (hw : ∀ w, w ∈ ws ↔ w ∈ w1 ∨ w ∈ w2) : FirstOk len d S t' ws (min2 a b) := by
  have le : ∀ {W : List (Int × Int)} {t s : Int}, (∀ w ∈ W, ∃ T, 0 ≤ T ∧ T < S ∧ S ∣ T * t' - w.2 / d ∧ t ≤ T * len + w.1) → s ≤ t → ∀ w ∈ W, ∃ T, 0 ≤ T ∧ T < S ∧ S ∣ T * t' - w.2 / d ∧ s ≤ T * len + w.1 := fun h hs w hw => by
    obtain ⟨T, a, b, c, e⟩ := h w hw
    exact ⟨T, a, b, c, Int.le_trans hs e⟩
  cases a with
  | none =>
    have z1 := h1.no rfl
    subst z1
    have hw : ∀ w, w ∈ ws ↔ w ∈ w2 := fun w => by rw [hw]; simp
    refine ⟨fun e => ?_, fun t e => ?_⟩
    · have := h2.no e
      subst this
      exact List.eq_nil_iff_forall_not_mem.mpr fun w h => by simpa using (hw w).mp h
    · obtain ⟨⟨w, q1, q2⟩, q3⟩ := h2.yes t e
      exact ⟨⟨w, (hw w).mpr q1, q2⟩, fun w h => q3 w ((hw w).mp h)⟩
  | some x =>
    cases b with
    | none =>
      have z1 := h2.no rfl
      subst z1
      have hw : ∀ w, w ∈ ws ↔ w ∈ w1 := fun w => by rw [hw]; simp
      refine ⟨fun e => (nomatch e), fun t e => ?_⟩
      obtain ⟨⟨w, q1, q2⟩, q3⟩ := h1.yes t e
      exact ⟨⟨w, (hw w).mpr q1, q2⟩, fun w h => q3 w ((hw w).mp h)⟩
    | some y =>
      refine ⟨fun e => (nomatch e), fun t e => ?_⟩
      have e : (if x ≤ y then x else y) = t := by cases e; rfl
      obtain ⟨⟨u, p1, p2⟩, p3⟩ := h1.yes x rfl
      obtain ⟨⟨w, q1, q2⟩, q3⟩ := h2.yes y rfl
      by_cases hxy : x ≤ y
      · rw [if_pos hxy] at e
        subst e
        exact ⟨⟨u, (hw u).mpr (.inl p1), p2⟩, fun w h => ((hw w).mp h).elim (p3 w) (le q3 hxy w)⟩
      · rw [if_neg hxy] at e
        subst e
        exact ⟨⟨w, (hw w).mpr (.inr q1), q2⟩, fun w h => ((hw w).mp h).elim (le p3 (by omega) w) (q3 w)⟩
end KG

set_option Elab.async false
set_option linter.all false
set_option maxRecDepth 100000
set_option maxHeartbeats 4000000
set_option exponentiation.threshold 5000
namespace KG
open Ip
def wayAt (ps : List Int) (d v rank : Int) (k j : Nat) : Option (Int × Int) := if (rank + (j : Int) * v - preS ps k) % d = 0 then some ((k : Int), rank + (j : Int) * v - preS ps k) else none
def waysL (ps : List Int) (d v rank : Int) (o k j : Nat) : List (Int × Int) := ((List.range k).map fun k => (List.range o).filterMap (wayAt ps d v rank k)).flatten ++ (List.range j).filterMap (wayAt ps d v rank k)
theorem waysL_succ (ps : List Int) (d v rank : Int) (o k j : Nat) : waysL ps d v rank o k (j + 1) = waysL ps d v rank o k j ++ (wayAt ps d v rank k j).toList := by
  unfold waysL
  rw [List.range_succ, List.filterMap_append]
  cases h : wayAt ps d v rank k j <;> simp [h]
theorem waysL_row (ps : List Int) (d v rank : Int) (o k : Nat) : waysL ps d v rank o (k + 1) 0 = waysL ps d v rank o k o := by
  unfold waysL
  rw [List.range_succ]
  simp
theorem waysL_len (ps : List Int) (d v rank : Int) (o k j : Nat) : (waysL ps d v rank o k j).length ≤ k * o + j := by
  induction k generalizing j with
  | zero =>
    simp only [waysL, List.range_zero, List.map_nil, List.flatten_nil, List.nil_append]
    exact Nat.le_trans (List.length_filterMap_le _ _) (by simp)
  | succ k ih =>
    induction j with
    | zero => rw [waysL_row, Nat.succ_mul]; exact ih o
    | succ j jh =>
      rw [waysL_succ, List.length_append]
      have : (wayAt ps d v rank (k + 1) j).toList.length ≤ 1 := by cases wayAt ps d v rank (k + 1) j <;> simp
      omega
theorem waysL_mem (ps : List Int) (d v rank : Int) (o k : Nat) (w : Int × Int) : w ∈ waysL ps d v rank o k 0 ↔ ∃ a j : Nat, a < k ∧ j < o ∧ (rank + (j : Int) * v - preS ps a) % d = 0 ∧ w = ((a : Int), rank + (j : Int) * v - preS ps a) := by
  unfold waysL
  simp only [List.range_zero, List.filterMap_nil, List.append_nil, List.mem_flatten, List.mem_map, List.mem_range]
  constructor
  · rintro ⟨l, ⟨a, ha, rfl⟩, hw⟩
    obtain ⟨j, hj, e⟩ := List.mem_filterMap.mp hw
    unfold wayAt at e
    split at e
    · exact ⟨a, j, ha, List.mem_range.mp hj, by assumption, (Option.some.inj e).symm⟩
    · cases e
  · rintro ⟨a, j, ha, hj, hc, rfl⟩
    refine ⟨_, ⟨a, ha, rfl⟩, List.mem_filterMap.mpr ⟨j, List.mem_range.mpr hj, ?_⟩⟩
    unfold wayAt
    rw [if_pos hc]
theorem waysO_mem (ps : List Int) (d N : Int) (k : Nat) (w : Int × Int) : w ∈ waysO ps d N k ↔ ∃ a : Nat, a < k ∧ (N - preS ps a) % d = 0 ∧ w = ((a : Int), N - preS ps a) := by
  unfold waysO
  simp only [List.mem_filterMap, List.mem_range]
  constructor
  · rintro ⟨a, h1, h2⟩
    split at h2
    · exact ⟨a, h1, by assumption, (Option.some.inj h2).symm⟩
    · cases h2
  · rintro ⟨a, h1, h2, rfl⟩
    exact ⟨a, h1, by rw [if_pos h2]⟩
/-- drawn steps -/
structure Steps (ps : List Int) : Prop where
  ne : ps ≠ []
  l4 : ps.length ≤ 4
  it : ∀ x ∈ ps, -3 ≤ x ∧ x ≤ 3
theorem sum_bd : ∀ (ps : List Int), (∀ x ∈ ps, -3 ≤ x ∧ x ≤ 3) → -(3 * (ps.length : Int)) ≤ ps.sum ∧ ps.sum ≤ 3 * (ps.length : Int)
  | [], _ => by simp
  | a :: ps, h => by
    have h1 := h a List.mem_cons_self
    have h2 := sum_bd ps fun x hx => h x (List.mem_cons_of_mem _ hx)
    rw [List.sum_cons, List.length_cons]
    omega
theorem Steps.sum {ps : List Int} (h : Steps ps) : -12 ≤ ps.sum ∧ ps.sum ≤ 12 := by
  have h1 := sum_bd ps h.it
  have h2 := h.l4
  omega
theorem Steps.pre {ps : List Int} (h : Steps ps) (k : Nat) : -12 ≤ preS ps k ∧ preS ps k ≤ 12 := by
  have h1 := sum_bd (ps.take k) fun x hx => h.it x (List.mem_of_mem_take hx)
  have h2 := h.l4
  have h3 : (ps.take k).length ≤ ps.length := by rw [List.length_take]; omega
  unfold preS
  omega
theorem first_tup (n : Nat) (ps : List Int) (o : Nat) (c : String) (l : Bool) (v r : Int) (hs : Steps ps) (ho : 1 ≤ o) (ho2 : o ≤ 2) (hm : C (n + 5) 19 [.p (mach (tupI ps) o c l)] [] = .ok (.p .non) []) (h1 : 1 ≤ v) (h2 : v ≤ 10 ^ 30) (h3 : 0 ≤ r) (h4 : r ≤ v - 1) :
    ∃ best, C (n + 7) 10 [.p (mach (tupI ps) o c l), i_ v, i_ r] [] = .ok (.p (oP best)) [] ∧ FirstOk ps.length (Int.gcd ps.sum (v * o)) (v * o / Int.gcd ps.sum (v * o)) (ps.sum / Int.gcd ps.sum (v * o)) (waysL ps (Int.gcd ps.sum (v * o)) v r o ps.length 0) best := by
  have l4 := hs.l4
  have hp : ∀ k, -(2 ^ 109) ≤ preS ps k ∧ preS ps k ≤ 2 ^ 109 := fun k => by
    have := hs.pre k
    omega
  rcases (show o = 1 ∨ o = 2 by omega) with rfl | rfl
  · obtain ⟨q, hq, e⟩ := c_first_place (n + 4) ps v r (by omega) (by omega) (by omega) (by omega) (by omega) hp
    rw [minO_eq] at e
    refine ⟨_, first_tup1 n ps c l v r _ hm h1 h2 h3 h4 e, ?_⟩
    rw [show v * ((1 : Nat) : Int) = v by simp]
    have f := first_one (N := r) (show 0 < v by omega) hq
    refine ⟨fun z => ?_, fun t z => ?_⟩
    · refine List.eq_nil_iff_forall_not_mem.mpr fun w hw => ?_
      obtain ⟨a, j, ha, hj, hc, rfl⟩ := (waysL_mem ..).mp hw
      have hj : j = 0 := by omega
      subst hj
      have z2 := f.no z
      have : ((a : Int), r + ((0 : Nat) : Int) * v - preS ps a) ∈ waysO ps (Int.gcd ps.sum v) r ps.length := (waysO_mem ..).mpr ⟨a, ha, by simpa using hc, by simp⟩
      rw [z2] at this
      cases this
    · have mm : ∀ w, w ∈ waysL ps (Int.gcd ps.sum v) v r 1 ps.length 0 ↔ w ∈ waysO ps (Int.gcd ps.sum v) r ps.length := fun w => by
        rw [waysL_mem, waysO_mem]
        constructor
        · rintro ⟨a, j, ha, hj, hc, rfl⟩
          have hj : j = 0 := by omega
          subst hj
          exact ⟨a, ha, by simpa using hc, by simp⟩
        · rintro ⟨a, ha, hc, rfl⟩
          exact ⟨a, 0, ha, by omega, by simpa using hc, by simp⟩
      obtain ⟨⟨w, p1, p2⟩, p3⟩ := f.yes t z
      exact ⟨⟨w, (mm w).mpr p1, p2⟩, fun w hw => p3 w ((mm w).mp hw)⟩
  · obtain ⟨q, hq, e⟩ := c_first_place (n + 4) ps (v * 2) r (by omega) (by omega) (by omega) (by omega) (by omega) hp
    obtain ⟨q2, hq2, e2⟩ := c_first_place (n + 4) ps (v * 2) (r + v) (by omega) (by omega) (by omega) (by omega) (by omega) hp
    rw [minO_eq] at e e2
    refine ⟨_, first_tup2 n ps c l v r _ _ hm h1 h2 h3 h4 e e2, ?_⟩
    refine first_two (first_one (N := r) (show 0 < v * 2 by omega) hq) (first_one (N := r + v) (show 0 < v * 2 by omega) hq2) _ fun w => ?_
    rw [waysL_mem, waysO_mem, waysO_mem]
    constructor
    · rintro ⟨a, j, ha, hj, hc, rfl⟩
      rcases (show j = 0 ∨ j = 1 by omega) with rfl | rfl
      · exact .inl ⟨a, ha, by simpa using hc, by simp⟩
      · exact .inr ⟨a, ha, by simpa using hc, by simp⟩
    · rintro (⟨a, ha, hc, rfl⟩ | ⟨a, ha, hc, rfl⟩)
      · exact ⟨a, 0, ha, by omega, by simpa using hc, by simp⟩
      · exact ⟨a, 1, ha, by omega, by simpa using hc, by simp⟩
/-! ### what the law looks at -/
theorem first_bounds {len S d t' : Int} {ways : List (Int × Int)} {t : Int} (F : FirstOk len d S t' ways (some t)) (hw : ∀ w ∈ ways, 0 ≤ w.1 ∧ w.1 < len) : 0 ≤ t ∧ t < len * S := by
  obtain ⟨⟨w, hm, T, T0, T1, _, e⟩, _⟩ := F.yes t rfl
  obtain ⟨w0, w1⟩ := hw w hm
  have h1 : 0 ≤ T * len := Int.mul_nonneg T0 (by omega)
  have h2 : (T + 1) * len ≤ S * len := Int.mul_le_mul_of_nonneg_right (by omega) (by omega)
  rw [Int.add_mul, Int.one_mul, Int.mul_comm S] at h2
  omega
theorem dvd_cop {a b c : Int} (h : a ∣ b * c) (hg : Int.gcd a c = 1) : a ∣ b := by
  have h1 := Int.natAbs_dvd_natAbs.mpr h
  rw [Int.natAbs_mul, Nat.mul_comm] at h1
  exact Int.natAbs_dvd_natAbs.mp (Nat.Coprime.dvd_of_dvd_mul_left hg h1)
/-- a place that is meant is not ahead of the first -/
theorem first_least {len d S t' total R : Int} {ways : List (Int × Int)} {t : Int} (F : FirstOk len d S t' ways (some t)) (hl : 0 < len) (hd : 0 < d) (hS : 0 < S) (hT : total = d * t') (hR : R = d * S) (cop : Int.gcd t' S = 1) {w : Int × Int} (hw : w ∈ ways) (hwd : w.2 % d = 0) {T m : Int} (hT0 : 0 ≤ T) (e : T * total = w.2 + m * R) : t ≤ T * len + w.1 := by
  obtain ⟨T1, a0, a1, a2, a3⟩ := (F.yes t rfl).2 w hw
  have hq : w.2 = d * (w.2 / d) := by have := Int.mul_ediv_add_emod w.2 d; omega
  have e2 : T * t' = w.2 / d + m * S := by
    have : d * (T * t') = d * (w.2 / d + m * S) := by
      rw [Int.mul_add, ← hq, ← Int.mul_assoc, Int.mul_comm d T, Int.mul_assoc, ← hT, e, hR, ← Int.mul_assoc, ← Int.mul_assoc, Int.mul_comm m d]
    exact Int.eq_of_mul_eq_mul_left (by omega) this
  have h1 : S ∣ (T - T1) * t' := by
    rw [Int.sub_mul, e2]
    have : S ∣ m * S := Int.dvd_mul_left _ _
    have h3 := Int.dvd_sub this a2
    rw [show w.2 / d + m * S - T1 * t' = m * S - (T1 * t' - w.2 / d) by omega]
    exact h3
  have h2 : S ∣ T - T1 := by
    refine dvd_cop h1 ?_
    rw [Int.gcd_comm]
    exact cop
  obtain ⟨k, hk⟩ := h2
  have h3 : T1 ≤ T := by
    by_cases hk0 : 0 ≤ k
    · have := Int.mul_nonneg (Int.le_of_lt hS) hk0
      omega
    · have : S * k ≤ S * (-1) := Int.mul_le_mul_of_nonneg_left (by omega) (by omega)
      omega
  have := Int.mul_le_mul_of_nonneg_right h3 (Int.le_of_lt hl)
  omega
end KG

set_option Elab.async false
set_option linter.all false
set_option maxRecDepth 100000
set_option maxHeartbeats 4000000
set_option exponentiation.threshold 5000
namespace KG
open Ip
def wayP (w : Int × Int) : P := .tup [.int w.1, .int w.2]
theorem shp_ways (l : List (Int × Int)) : ∀ n, shps (n + 2) (l.map wayP) = true := fun n => by
  induction l with
  | nil => rfl
  | cons a l ih =>
    rw [List.map_cons, shps, ih, Bool.and_true]
    rfl
theorem eqP_ways (l : List (Int × Int)) : eqPs (l.map wayP) [] = l.isEmpty := by
  cases l with
  | nil => rfl
  | cons a l => rfl
theorem law_first_tup (n : Nat) (ps : List Int) (o : Nat) (c : String) (l : Bool) (v r : Int) (hs : Steps ps) (ho : 1 ≤ o) (ho2 : o ≤ 2) (hm : C (n + 5) 19 [.p (mach (tupI ps) o c l)] [] = .ok (.p .non) []) (h1 : 1 ≤ v) (h2 : v ≤ 10 ^ 30) (h3 : 0 ≤ r) (h4 : r ≤ v - 1) :
    C (n + 8) 8 [.p (mach (tupI ps) o c l), i_ v, i_ r] [] = .ok (.p (.bl true)) [] := by
  obtain ⟨best, eb, F⟩ := first_tup n ps o c l v r hs ho ho2 hm h1 h2 h3 h4
  have l4 := hs.l4
  have l0 : 0 < ps.length := List.length_pos_iff.mpr hs.ne
  have hsum := hs.sum
  have hR : 0 < v * o := Int.mul_pos (by omega) (by omega)
  have hR2 : v * o < 2 ^ 110 := by
    have : v * o ≤ 10 ^ 30 * 2 := Int.mul_le_mul h2 (by omega) (by omega) (by decide)
    omega
  have hvR : v ≤ v * o := by
    have := Int.mul_le_mul_of_nonneg_left (show (1 : Int) ≤ o by omega) (show 0 ≤ v by omega)
    omega
  have ec := c_common2 (n + 6) ps.sum (v * o) hR hR2
  have hmo : mulOk v o = true := mul_small _ _ (by omega)
  have eS : sumP [tupI ps] = some (.int ps.sum) := sum_tup ps
  have gp : 0 < Int.gcd ps.sum (v * o) := Int.gcd_pos_of_ne_zero_right _ (by omega)
  have cop : Int.gcd (ps.sum / Int.gcd ps.sum (v * o)) (v * o / Int.gcd ps.sum (v * o)) = 1 := Int.gcd_ediv_gcd_ediv_gcd gp
  have dT : (Int.gcd ps.sum (v * o) : Int) ∣ ps.sum := Int.gcd_dvd_left ..
  have dR : (Int.gcd ps.sum (v * o) : Int) ∣ v * o := Int.gcd_dvd_right ..
  generalize hd : ((Int.gcd ps.sum (v * o) : Nat) : Int) = d at *
  generalize hRR : v * (o : Int) = R at *
  have d0 : 0 < d := by omega
  have dz : d ≠ 0 := by omega
  have dle : d ≤ R := Int.le_of_dvd hR dR
  generalize hSS : R / d = S at *
  generalize htt : ps.sum / d = t' at *
  have eR : R = d * S := by rw [← hSS]; exact (Int.mul_ediv_cancel' dR).symm
  have eT : ps.sum = d * t' := by rw [← htt]; exact (Int.mul_ediv_cancel' dT).symm
  have S0 : 0 < S := by rw [← hSS]; exact Int.ediv_pos_of_pos_of_dvd hR (by omega) dR
  have S1 : S ≤ R := by rw [← hSS]; exact Int.ediv_le_self _ (by omega)
  refine callN_sat (F := F__law_first_right) rfl rfl rfl ?_
  unfold F__law_first_right
  unfold C i_ mach tupI at *
  (rw [sat_cons]; simp [int_beq, evU, evO, Ip.R.of, rd, rdAll, truP, callD, asPs, itsOf, atP, binP, addP, subP, mulP, modP, fdvP, isiU, putU, put, Ip.put.puts, setA, cmpP, eqC, neC, eqOk, scl2, eqP, eqPs, intC, mk, bltP, lenP, minP, maxP, intP, absP, sat_nil, qE_var, qE_cst, qE_con, qE_glb, qE_tup, qE_lst, qE_bin, qE_neg, qE_cmp, qE_cmp2, qE_and, qE_or, qE_not, qE_ife, qE_call, qE_blt, qE_isi, qE_idx, qE_slc, qE_rev, qE_ofr, qE_frz, qS_set, qS_par, qS_par3, qS_parT, qS_sub, qS_expr, qS_app, qS_ife, qS_ret, qS_rais, qS_brk, qS_cont, eb, hmo, hRR])
  (rw [sat_cons]; simp [int_beq, evU, evO, Ip.R.of, rd, rdAll, truP, callD, asPs, itsOf, atP, binP, addP, subP, mulP, modP, fdvP, isiU, putU, put, Ip.put.puts, setA, cmpP, eqC, neC, eqOk, scl2, eqP, eqPs, intC, mk, bltP, lenP, minP, maxP, intP, absP, sat_nil, qE_var, qE_cst, qE_con, qE_glb, qE_tup, qE_lst, qE_bin, qE_neg, qE_cmp, qE_cmp2, qE_and, qE_or, qE_not, qE_ife, qE_call, qE_blt, qE_isi, qE_idx, qE_slc, qE_rev, qE_ofr, qE_frz, qS_set, qS_par, qS_par3, qS_parT, qS_sub, qS_expr, qS_app, qS_ife, qS_ret, qS_rais, qS_brk, qS_cont])
  (rw [sat_cons]; simp [int_beq, evU, evO, Ip.R.of, rd, rdAll, truP, callD, asPs, itsOf, atP, binP, addP, subP, mulP, modP, fdvP, isiU, putU, put, Ip.put.puts, setA, cmpP, eqC, neC, eqOk, scl2, eqP, eqPs, intC, mk, bltP, lenP, minP, maxP, intP, absP, sat_nil, qE_var, qE_cst, qE_con, qE_glb, qE_tup, qE_lst, qE_bin, qE_neg, qE_cmp, qE_cmp2, qE_and, qE_or, qE_not, qE_ife, qE_call, qE_blt, qE_isi, qE_idx, qE_slc, qE_rev, qE_ofr, qE_frz, qS_set, qS_par, qS_par3, qS_parT, qS_sub, qS_expr, qS_app, qS_ife, qS_ret, qS_rais, qS_brk, qS_cont, eS])
  (rw [sat_cons]; simp [int_beq, evU, evO, Ip.R.of, rd, rdAll, truP, callD, asPs, itsOf, atP, binP, addP, subP, mulP, modP, fdvP, isiU, putU, put, Ip.put.puts, setA, cmpP, eqC, neC, eqOk, scl2, eqP, eqPs, intC, mk, bltP, lenP, minP, maxP, intP, absP, sat_nil, qE_var, qE_cst, qE_con, qE_glb, qE_tup, qE_lst, qE_bin, qE_neg, qE_cmp, qE_cmp2, qE_and, qE_or, qE_not, qE_ife, qE_call, qE_blt, qE_isi, qE_idx, qE_slc, qE_rev, qE_ofr, qE_frz, qS_set, qS_par, qS_par3, qS_parT, qS_sub, qS_expr, qS_app, qS_ife, qS_ret, qS_rais, qS_brk, qS_cont, ec])
  (rw [sat_cons]; simp [int_beq, evU, evO, Ip.R.of, rd, rdAll, truP, callD, asPs, itsOf, atP, binP, addP, subP, mulP, modP, fdvP, isiU, putU, put, Ip.put.puts, setA, cmpP, eqC, neC, eqOk, scl2, eqP, eqPs, intC, mk, bltP, lenP, minP, maxP, intP, absP, sat_nil, qE_var, qE_cst, qE_con, qE_glb, qE_tup, qE_lst, qE_bin, qE_neg, qE_cmp, qE_cmp2, qE_and, qE_or, qE_not, qE_ife, qE_call, qE_blt, qE_isi, qE_idx, qE_slc, qE_rev, qE_ofr, qE_frz, qS_set, qS_par, qS_par3, qS_parT, qS_sub, qS_expr, qS_app, qS_ife, qS_ret, qS_rais, qS_brk, qS_cont])
  rw [sat_cons]
  refine sat_forR (m := ps.length) (fun k ρ M => ∃ x5 x11, M = [.lst ((waysL ps d v r o k 0).map wayP)] ∧ ρ = [some (.p (.tup [.tup (ps.map .int), .int o, s_ c, .bl l])), some (.p (.int v)), some (.p (.int r)), some (.p (.int d)), some (.ref 0), x5, some (.p (oP best)), some (.p (.tup (ps.map .int))), some (.p (.int R)), some (.p (.int ps.sum)), some (.p (.int ps.length)), x11, none, none, none]) (ev_rng (M' := _) (by simp [int_beq, evU, evO, Ip.R.of, rd, rdAll, truP, callD, asPs, itsOf, atP, binP, addP, subP, mulP, modP, fdvP, isiU, putU, put, Ip.put.puts, setA, cmpP, eqC, neC, eqOk, scl2, eqP, eqPs, intC, mk, bltP, lenP, minP, maxP, intP, absP, sat_nil, qE_var, qE_cst, qE_con, qE_glb, qE_tup, qE_lst, qE_bin, qE_neg, qE_cmp, qE_cmp2, qE_and, qE_or, qE_not, qE_ife, qE_call, qE_blt, qE_isi, qE_idx, qE_slc, qE_rev, qE_ofr, qE_frz, qS_set, qS_par, qS_par3, qS_parT, qS_sub, qS_expr, qS_app, qS_ife, qS_ret, qS_rais, qS_brk, qS_cont]; rfl) (by omega) (by omega)) ⟨none, none, rfl, rfl⟩ ?_ ?_
  · rintro k ρ M hk ⟨x5, x11, rfl, rfl⟩
    refine ⟨by simp, ?_⟩
    rw [sat_one]
    refine sat_forR (m := o) (fun j ρ M => ∃ x11, M = [.lst ((waysL ps d v r o k j).map wayP)] ∧ ρ = [some (.p (.tup [.tup (ps.map .int), .int o, s_ c, .bl l])), some (.p (.int v)), some (.p (.int r)), some (.p (.int d)), some (.ref 0), some (.p (.int k)), some (.p (oP best)), some (.p (.tup (ps.map .int))), some (.p (.int R)), some (.p (.int ps.sum)), some (.p (.int ps.length)), x11, none, none, none]) (ev_rng (M' := _) (by simp [int_beq, evU, evO, Ip.R.of, rd, rdAll, truP, callD, asPs, itsOf, atP, binP, addP, subP, mulP, modP, fdvP, isiU, putU, put, Ip.put.puts, setA, cmpP, eqC, neC, eqOk, scl2, eqP, eqPs, intC, mk, bltP, lenP, minP, maxP, intP, absP, sat_nil, qE_var, qE_cst, qE_con, qE_glb, qE_tup, qE_lst, qE_bin, qE_neg, qE_cmp, qE_cmp2, qE_and, qE_or, qE_not, qE_ife, qE_call, qE_blt, qE_isi, qE_idx, qE_slc, qE_rev, qE_ofr, qE_frz, qS_set, qS_par, qS_par3, qS_parT, qS_sub, qS_expr, qS_app, qS_ife, qS_ret, qS_rais, qS_brk, qS_cont]) (by omega) (by omega)) ⟨x11, rfl, rfl⟩ ?_ ?_
    · rintro j ρ M hj ⟨x11, rfl, rfl⟩
      refine ⟨by simp, ?_⟩
      have hc := sum_cut ps k (by omega)
      have hmj : mulOk (j : Int) v = true := mul_small' _ _ (by omega)
      have hl : (waysL ps d v r o k j).length < LIM := by
        have a := waysL_len ps d v r o k j
        have : k * o ≤ 4 * 2 := Nat.mul_le_mul (by omega) ho2
        unfold LIM
        omega
      have hw := waysL_succ ps d v r o k j
      rw [sat_one]
      by_cases hcd : (r + (j : Int) * v - preS ps k) % d = 0
      · have hw2 : wayAt ps d v r k j = some ((k : Int), r + (j : Int) * v - preS ps k) := by unfold wayAt; rw [if_pos hcd]
        rw [hw2] at hw
        have hcd' := hcd
        unfold preS at hcd'
        simp [int_beq, evU, evO, Ip.R.of, rd, rdAll, truP, callD, asPs, itsOf, atP, binP, addP, subP, mulP, modP, fdvP, isiU, putU, put, Ip.put.puts, setA, cmpP, eqC, neC, eqOk, scl2, eqP, eqPs, intC, mk, bltP, lenP, minP, maxP, intP, absP, sat_nil, qE_var, qE_cst, qE_con, qE_glb, qE_tup, qE_lst, qE_bin, qE_neg, qE_cmp, qE_cmp2, qE_and, qE_or, qE_not, qE_ife, qE_call, qE_blt, qE_isi, qE_idx, qE_slc, qE_rev, qE_ofr, qE_frz, qS_set, qS_par, qS_par3, qS_parT, qS_sub, qS_expr, qS_app, qS_ife, qS_ret, qS_rais, qS_brk, qS_cont, hc, hmj, dz, fmod_pos d0, hl, hcd']
        rw [sat_one]
        simp [int_beq, evU, evO, Ip.R.of, rd, rdAll, truP, callD, asPs, itsOf, atP, binP, addP, subP, mulP, modP, fdvP, isiU, putU, put, Ip.put.puts, setA, cmpP, eqC, neC, eqOk, scl2, eqP, eqPs, intC, mk, bltP, lenP, minP, maxP, intP, absP, sat_nil, qE_var, qE_cst, qE_con, qE_glb, qE_tup, qE_lst, qE_bin, qE_neg, qE_cmp, qE_cmp2, qE_and, qE_or, qE_not, qE_ife, qE_call, qE_blt, qE_isi, qE_idx, qE_slc, qE_rev, qE_ofr, qE_frz, qS_set, qS_par, qS_par3, qS_parT, qS_sub, qS_expr, qS_app, qS_ife, qS_ret, qS_rais, qS_brk, qS_cont, hc, hmj, hl, hw, wayP, preS]
      · have hw2 : wayAt ps d v r k j = none := by unfold wayAt; rw [if_neg hcd]
        rw [hw2] at hw
        have hcd' : ((r + (j : Int) * v - (ps.take k).sum) % d == 0) = false := by simpa [preS] using hcd
        simp [int_beq, evU, evO, Ip.R.of, rd, rdAll, truP, callD, asPs, itsOf, atP, binP, addP, subP, mulP, modP, fdvP, isiU, putU, put, Ip.put.puts, setA, cmpP, eqC, neC, eqOk, scl2, eqP, eqPs, intC, mk, bltP, lenP, minP, maxP, intP, absP, sat_nil, qE_var, qE_cst, qE_con, qE_glb, qE_tup, qE_lst, qE_bin, qE_neg, qE_cmp, qE_cmp2, qE_and, qE_or, qE_not, qE_ife, qE_call, qE_blt, qE_isi, qE_idx, qE_slc, qE_rev, qE_ofr, qE_frz, qS_set, qS_par, qS_par3, qS_parT, qS_sub, qS_expr, qS_app, qS_ife, qS_ret, qS_rais, qS_brk, qS_cont, hc, hmj, dz, fmod_pos d0, hl, hcd', hw]
    · rintro ρ M ⟨x11, rfl, rfl⟩
      exact ⟨some (.p (.int k)), x11, by rw [waysL_row], rfl⟩
  · rintro ρ M ⟨x5, x11, rfl, rfl⟩
    rw [wn_nx]
    have hsh : shp 60 (.lst ((waysL ps d v r o ps.length 0).map wayP)) = true := by
      rw [shp]
      exact shp_ways _ 57
    have hsn : shp 60 (.lst []) = true := rfl
    have heq := eqP_ways (waysL ps d v r o ps.length 0)
    cases best with
    | none =>
      have z := F.no rfl
      rw [z] at heq hsh ⊢
      (rw [sat_cons]; simp [int_beq, evU, evO, Ip.R.of, rd, rdAll, truP, callD, asPs, itsOf, atP, binP, addP, subP, mulP, modP, fdvP, isiU, putU, put, Ip.put.puts, setA, cmpP, eqC, neC, eqOk, scl2, eqP, eqPs, intC, mk, bltP, lenP, minP, maxP, intP, absP, sat_nil, qE_var, qE_cst, qE_con, qE_glb, qE_tup, qE_lst, qE_bin, qE_neg, qE_cmp, qE_cmp2, qE_and, qE_or, qE_not, qE_ife, qE_call, qE_blt, qE_isi, qE_idx, qE_slc, qE_rev, qE_ofr, qE_frz, qS_set, qS_par, qS_par3, qS_parT, qS_sub, qS_expr, qS_app, qS_ife, qS_ret, qS_rais, qS_brk, qS_cont, hsh, hsn, heq, oP, isC, isNon])
      rw [sat_one]
      simp [int_beq, evU, evO, Ip.R.of, rd, rdAll, truP, callD, asPs, itsOf, atP, binP, addP, subP, mulP, modP, fdvP, isiU, putU, put, Ip.put.puts, setA, cmpP, eqC, neC, eqOk, scl2, eqP, eqPs, intC, mk, bltP, lenP, minP, maxP, intP, absP, sat_nil, qE_var, qE_cst, qE_con, qE_glb, qE_tup, qE_lst, qE_bin, qE_neg, qE_cmp, qE_cmp2, qE_and, qE_or, qE_not, qE_ife, qE_call, qE_blt, qE_isi, qE_idx, qE_slc, qE_rev, qE_ofr, qE_frz, qS_set, qS_par, qS_par3, qS_parT, qS_sub, qS_expr, qS_app, qS_ife, qS_ret, qS_rais, qS_brk, qS_cont, hsh, hsn, heq, oP, isC, isNon]
    | some t =>
      have hne : (waysL ps d v r o ps.length 0).isEmpty = false := by
        obtain ⟨⟨w, hw, _⟩, _⟩ := F.yes t rfl
        cases e : waysL ps d v r o ps.length 0 with
        | nil => rw [e] at hw; cases hw
        | cons _ _ => rfl
      rw [hne] at heq
      (rw [sat_cons]; simp [int_beq, evU, evO, Ip.R.of, rd, rdAll, truP, callD, asPs, itsOf, atP, binP, addP, subP, mulP, modP, fdvP, isiU, putU, put, Ip.put.puts, setA, cmpP, eqC, neC, eqOk, scl2, eqP, eqPs, intC, mk, bltP, lenP, minP, maxP, intP, absP, sat_nil, qE_var, qE_cst, qE_con, qE_glb, qE_tup, qE_lst, qE_bin, qE_neg, qE_cmp, qE_cmp2, qE_and, qE_or, qE_not, qE_ife, qE_call, qE_blt, qE_isi, qE_idx, qE_slc, qE_rev, qE_ofr, qE_frz, qS_set, qS_par, qS_par3, qS_parT, qS_sub, qS_expr, qS_app, qS_ife, qS_ret, qS_rais, qS_brk, qS_cont, hsh, hsn, heq, oP, isC, isNon])
      have hwm : ∀ w ∈ waysL ps d v r o ps.length 0, 0 ≤ w.1 ∧ w.1 < ps.length := fun w hw => by
        obtain ⟨a, j, ha, _, _, rfl⟩ := (waysL_mem ..).mp hw
        simp
        omega
      obtain ⟨t0, t1⟩ := first_bounds F hwm
      have hrung : rungT ps R t % v = r := by
        obtain ⟨⟨w, hw, T, T0, T1, hdv, e⟩, _⟩ := F.yes t rfl
        obtain ⟨a, j, ha, hj, hc, rfl⟩ := (waysL_mem ..).mp hw
        simp only at e hdv
        have hdl : (T * ps.length + (a : Int)) / (ps.length : Int) = T := by
          rw [Int.add_comm, Int.add_mul_ediv_right _ _ (by omega), Int.ediv_eq_zero_of_lt (by omega) (by omega), Int.zero_add]
        have hml : (T * ps.length + (a : Int)) % (ps.length : Int) = a := by
          rw [Int.add_comm, Int.add_mul_emod_self_right]
          exact Int.emod_eq_of_lt (by omega) (by omega)
        unfold rungT
        rw [e, hdl, hml, Int.toNat_natCast]
        obtain ⟨k, hk⟩ := hdv
        have hq : r + (j : Int) * v - preS ps a = d * ((r + (j : Int) * v - preS ps a) / d) := by have := Int.mul_ediv_add_emod (r + (j : Int) * v - preS ps a) d; omega
        have h5 : T * ps.sum - (r + (j : Int) * v - preS ps a) = R * k := by
          rw [hq, eT, eR, Int.mul_assoc, ← hk, Int.mul_sub, ← Int.mul_assoc, Int.mul_comm T d, Int.mul_assoc]
        have h6 : T * ps.sum + (ps.take a).sum = (r + (j : Int) * v) + R * k := by
          unfold preS at h5
          omega
        have h7 : 0 ≤ (j : Int) * v := Int.mul_nonneg (by omega) (by omega)
        have h8 : ((j : Int) + 1) * v ≤ o * v := Int.mul_le_mul_of_nonneg_right (by omega) (by omega)
        have h9 : (o : Int) * v = R := by rw [Int.mul_comm]; exact hRR
        rw [Int.add_mul, Int.one_mul, h9] at h8
        have h10 : (r + (j : Int) * v) % R = r + (j : Int) * v := Int.emod_eq_of_lt (by omega) (by omega)
        rw [h6, Int.add_mul_emod_self_left, h10, Int.add_mul_emod_self_right]
        exact Int.emod_eq_of_lt h3 (by omega)
      have elr := lrung_tup (n + 6) ps R t hs.ne (by omega) hR (by omega)
      have hSd : divOk R d = true := div_big d0 (lt4000 (by omega) (by omega)) (lt4000 (by omega) (by omega))
      have hvz : v ≠ 0 := by omega
      have hm3 : mulOk (ps.length : Int) S = true := mul_small' _ _ (by omega)
      have hnt : ¬ t < 0 := by omega
      have hnt1 : ¬ (ps.length : Int) * S ≤ t := by omega
      unfold C i_ tupI at elr
      (rw [sat_cons]; simp [int_beq, evU, evO, Ip.R.of, rd, rdAll, truP, callD, asPs, itsOf, atP, binP, addP, subP, mulP, modP, fdvP, isiU, putU, put, Ip.put.puts, setA, cmpP, eqC, neC, eqOk, scl2, eqP, eqPs, intC, mk, bltP, lenP, minP, maxP, intP, absP, sat_nil, qE_var, qE_cst, qE_con, qE_glb, qE_tup, qE_lst, qE_bin, qE_neg, qE_cmp, qE_cmp2, qE_and, qE_or, qE_not, qE_ife, qE_call, qE_blt, qE_isi, qE_idx, qE_slc, qE_rev, qE_ofr, qE_frz, qS_set, qS_par, qS_par3, qS_parT, qS_sub, qS_expr, qS_app, qS_ife, qS_ret, qS_rais, qS_brk, qS_cont, elr, hvz, fmod_pos (show 0 < v by omega), hrung, hSd, dz, fdiv_pos d0, hSS, hm3, hnt, hnt1])
      rw [sat_cons]
      refine sat_forG (f := wayP) (waysL ps d v r o ps.length 0) (fun pre ρ M => ∃ x5 x12 x13 x14, M = [.dead] ∧ ρ = [some (.p (.tup [.tup (ps.map .int), .int o, s_ c, .bl l])), some (.p (.int v)), some (.p (.int r)), some (.p (.int d)), some (.ref 0), x5, some (.p (.int t)), some (.p (.tup (ps.map .int))), some (.p (.int R)), some (.p (.int ps.sum)), some (.p (.int ps.length)), x11, x12, x13, x14]) (ev_seq (p := .lst ((waysL ps d v r o ps.length 0).map wayP)) (M' := [.dead]) (by simp [int_beq, evU, evO, Ip.R.of, rd, rdAll, truP, callD, asPs, itsOf, atP, binP, addP, subP, mulP, modP, fdvP, isiU, putU, put, Ip.put.puts, setA, cmpP, eqC, neC, eqOk, scl2, eqP, eqPs, intC, mk, bltP, lenP, minP, maxP, intP, absP, sat_nil, qE_var, qE_cst, qE_con, qE_glb, qE_tup, qE_lst, qE_bin, qE_neg, qE_cmp, qE_cmp2, qE_and, qE_or, qE_not, qE_ife, qE_call, qE_blt, qE_isi, qE_idx, qE_slc, qE_rev, qE_ofr, qE_frz, qS_set, qS_par, qS_par3, qS_parT, qS_sub, qS_expr, qS_app, qS_ife, qS_ret, qS_rais, qS_brk, qS_cont]) rfl) ⟨x5, none, none, none, rfl, rfl⟩ ?_ ?_
      · rintro pre w post ρ M hpre ⟨x5, x12, x13, x14, rfl, rfl⟩
        have hw : w ∈ waysL ps d v r o ps.length 0 := by rw [hpre]; simp
        have hwd : w.2 % d = 0 := by
          obtain ⟨a, j, ha, _, hc, rfl⟩ := (waysL_mem ..).mp hw
          exact hc
        have hwb : -(2 ^ 112) ≤ w.2 ∧ w.2 ≤ 2 ^ 112 := by
          obtain ⟨a, j, ha, hj, hc, rfl⟩ := (waysL_mem ..).mp hw
          have hp := hs.pre a
          have h5 : 0 ≤ (j : Int) * v := Int.mul_nonneg (by omega) (by omega)
          have h6 : (j : Int) * v ≤ 1 * v := Int.mul_le_mul_of_nonneg_right (by omega) (by omega)
          simp only
          omega
        have least := fun (T m : Int) (h0 : 0 ≤ T) (e : T * ps.sum = w.2 + m * R) => first_least F (show (0 : Int) < ps.length by omega) d0 S0 eT eR cop hw hwd h0 e
        refine ⟨_, rfl, ?_⟩
        rw [sat_one]
        refine sat_forR (m := ps.sum.natAbs) (fun m ρ M => ∃ x13 x14, M = [.dead] ∧ ρ = [some (.p (.tup [.tup (ps.map .int), .int o, s_ c, .bl l])), some (.p (.int v)), some (.p (.int r)), some (.p (.int d)), some (.ref 0), some (.p (.int w.1)), some (.p (.int t)), some (.p (.tup (ps.map .int))), some (.p (.int R)), some (.p (.int ps.sum)), some (.p (.int ps.length)), x11, some (.p (.int w.2)), x13, x14]) (ev_rng (m := (ps.sum.natAbs : Int)) (M' := [.dead]) ?_ (by omega) (by omega)) ⟨x13, x14, rfl, rfl⟩ ?_ ?_
        · have : (if ps.sum < 0 then -ps.sum else ps.sum) = (ps.sum.natAbs : Int) := by split <;> omega
          simp [int_beq, evU, evO, Ip.R.of, rd, rdAll, truP, callD, asPs, itsOf, atP, binP, addP, subP, mulP, modP, fdvP, isiU, putU, put, Ip.put.puts, setA, cmpP, eqC, neC, eqOk, scl2, eqP, eqPs, intC, mk, bltP, lenP, minP, maxP, intP, absP, sat_nil, qE_var, qE_cst, qE_con, qE_glb, qE_tup, qE_lst, qE_bin, qE_neg, qE_cmp, qE_cmp2, qE_and, qE_or, qE_not, qE_ife, qE_call, qE_blt, qE_isi, qE_idx, qE_slc, qE_rev, qE_ofr, qE_frz, qS_set, qS_par, qS_par3, qS_parT, qS_sub, qS_expr, qS_app, qS_ife, qS_ret, qS_rais, qS_brk, qS_cont, this]
        · rintro m ρ M hm ⟨x13, x14, rfl, rfl⟩
          refine ⟨by simp, ?_⟩
          rw [sat_one]
          have habs : (if ps.sum < 0 then -ps.sum else ps.sum) = (ps.sum.natAbs : Int) := by split <;> omega
          have tz : ps.sum ≠ 0 := by omega
          have az : (ps.sum.natAbs : Int) ≠ 0 := by omega
          have ap : (0 : Int) < (ps.sum.natAbs : Int) := by omega
          have Rz : R ≠ 0 := by omega
          have hmm : mulOk (m : Int) R = true := mul_small' _ _ (by omega)
          by_cases hy : w.2 % R = 0
          · have h := least 0 (-(w.2 / R)) (by omega) (by
              have := Int.mul_ediv_add_emod w.2 R
              rw [Int.neg_mul, Int.mul_comm (w.2 / R)]
              omega)
            rw [Int.zero_mul, Int.zero_add] at h
            have h' : ¬ w.1 < t := by omega
            have hdv : ∀ x, divOk x ps.sum = true := fun x => div_small _ _ tz (by omega)
            have hml : ∀ x, mulOk x (ps.length : Int) = true := fun x => mul_small _ _ (by omega)
            by_cases hA : (w.2 + (m : Int) * R) % (ps.sum.natAbs : Int) = 0
            · simp [int_beq, evU, evO, Ip.R.of, rd, rdAll, truP, callD, asPs, itsOf, atP, binP, addP, subP, mulP, modP, fdvP, isiU, putU, put, Ip.put.puts, setA, cmpP, eqC, neC, eqOk, scl2, eqP, eqPs, intC, mk, bltP, lenP, minP, maxP, intP, absP, sat_nil, qE_var, qE_cst, qE_con, qE_glb, qE_tup, qE_lst, qE_bin, qE_neg, qE_cmp, qE_cmp2, qE_and, qE_or, qE_not, qE_ife, qE_call, qE_blt, qE_isi, qE_idx, qE_slc, qE_rev, qE_ofr, qE_frz, qS_set, qS_par, qS_par3, qS_parT, qS_sub, qS_expr, qS_app, qS_ife, qS_ret, qS_rais, qS_brk, qS_cont, tz, habs, hmm, az, fmod_pos ap, fmod_pos hR, hA, hy, Rz]
              by_cases hp : 0 < ps.sum
              · (rw [sat_cons]; simp [int_beq, evU, evO, Ip.R.of, rd, rdAll, truP, callD, asPs, itsOf, atP, binP, addP, subP, mulP, modP, fdvP, isiU, putU, put, Ip.put.puts, setA, cmpP, eqC, neC, eqOk, scl2, eqP, eqPs, intC, mk, bltP, lenP, minP, maxP, intP, absP, sat_nil, qE_var, qE_cst, qE_con, qE_glb, qE_tup, qE_lst, qE_bin, qE_neg, qE_cmp, qE_cmp2, qE_and, qE_or, qE_not, qE_ife, qE_call, qE_blt, qE_isi, qE_idx, qE_slc, qE_rev, qE_ofr, qE_frz, qS_set, qS_par, qS_par3, qS_parT, qS_sub, qS_expr, qS_app, qS_ife, qS_ret, qS_rais, qS_brk, qS_cont, hp, tz, hmm, hdv, fdiv_pos hp])
                (rw [sat_cons]; simp [int_beq, evU, evO, Ip.R.of, rd, rdAll, truP, callD, asPs, itsOf, atP, binP, addP, subP, mulP, modP, fdvP, isiU, putU, put, Ip.put.puts, setA, cmpP, eqC, neC, eqOk, scl2, eqP, eqPs, intC, mk, bltP, lenP, minP, maxP, intP, absP, sat_nil, qE_var, qE_cst, qE_con, qE_glb, qE_tup, qE_lst, qE_bin, qE_neg, qE_cmp, qE_cmp2, qE_and, qE_or, qE_not, qE_ife, qE_call, qE_blt, qE_isi, qE_idx, qE_slc, qE_rev, qE_ofr, qE_frz, qS_set, qS_par, qS_par3, qS_parT, qS_sub, qS_expr, qS_app, qS_ife, qS_ret, qS_rais, qS_brk, qS_cont, fmod_pos hR, hy, Rz])
                rw [sat_one]
                simp [int_beq, evU, evO, Ip.R.of, rd, rdAll, truP, callD, asPs, itsOf, atP, binP, addP, subP, mulP, modP, fdvP, isiU, putU, put, Ip.put.puts, setA, cmpP, eqC, neC, eqOk, scl2, eqP, eqPs, intC, mk, bltP, lenP, minP, maxP, intP, absP, sat_nil, qE_var, qE_cst, qE_con, qE_glb, qE_tup, qE_lst, qE_bin, qE_neg, qE_cmp, qE_cmp2, qE_and, qE_or, qE_not, qE_ife, qE_call, qE_blt, qE_isi, qE_idx, qE_slc, qE_rev, qE_ofr, qE_frz, qS_set, qS_par, qS_par3, qS_parT, qS_sub, qS_expr, qS_app, qS_ife, qS_ret, qS_rais, qS_brk, qS_cont]
                rw [sat_one]
                simp [int_beq, evU, evO, Ip.R.of, rd, rdAll, truP, callD, asPs, itsOf, atP, binP, addP, subP, mulP, modP, fdvP, isiU, putU, put, Ip.put.puts, setA, cmpP, eqC, neC, eqOk, scl2, eqP, eqPs, intC, mk, bltP, lenP, minP, maxP, intP, absP, sat_nil, qE_var, qE_cst, qE_con, qE_glb, qE_tup, qE_lst, qE_bin, qE_neg, qE_cmp, qE_cmp2, qE_and, qE_or, qE_not, qE_ife, qE_call, qE_blt, qE_isi, qE_idx, qE_slc, qE_rev, qE_ofr, qE_frz, qS_set, qS_par, qS_par3, qS_parT, qS_sub, qS_expr, qS_app, qS_ife, qS_ret, qS_rais, qS_brk, qS_cont, h', hml, show 0 ≤ ps.sum by omega]
              · (rw [sat_cons]; simp [int_beq, evU, evO, Ip.R.of, rd, rdAll, truP, callD, asPs, itsOf, atP, binP, addP, subP, mulP, modP, fdvP, isiU, putU, put, Ip.put.puts, setA, cmpP, eqC, neC, eqOk, scl2, eqP, eqPs, intC, mk, bltP, lenP, minP, maxP, intP, absP, sat_nil, qE_var, qE_cst, qE_con, qE_glb, qE_tup, qE_lst, qE_bin, qE_neg, qE_cmp, qE_cmp2, qE_and, qE_or, qE_not, qE_ife, qE_call, qE_blt, qE_isi, qE_idx, qE_slc, qE_rev, qE_ofr, qE_frz, qS_set, qS_par, qS_par3, qS_parT, qS_sub, qS_expr, qS_app, qS_ife, qS_ret, qS_rais, qS_brk, qS_cont, hp])
                (rw [sat_cons]; simp [int_beq, evU, evO, Ip.R.of, rd, rdAll, truP, callD, asPs, itsOf, atP, binP, addP, subP, mulP, modP, fdvP, isiU, putU, put, Ip.put.puts, setA, cmpP, eqC, neC, eqOk, scl2, eqP, eqPs, intC, mk, bltP, lenP, minP, maxP, intP, absP, sat_nil, qE_var, qE_cst, qE_con, qE_glb, qE_tup, qE_lst, qE_bin, qE_neg, qE_cmp, qE_cmp2, qE_and, qE_or, qE_not, qE_ife, qE_call, qE_blt, qE_isi, qE_idx, qE_slc, qE_rev, qE_ofr, qE_frz, qS_set, qS_par, qS_par3, qS_parT, qS_sub, qS_expr, qS_app, qS_ife, qS_ret, qS_rais, qS_brk, qS_cont, fmod_pos hR, hy, Rz])
                rw [sat_one]
                simp [int_beq, evU, evO, Ip.R.of, rd, rdAll, truP, callD, asPs, itsOf, atP, binP, addP, subP, mulP, modP, fdvP, isiU, putU, put, Ip.put.puts, setA, cmpP, eqC, neC, eqOk, scl2, eqP, eqPs, intC, mk, bltP, lenP, minP, maxP, intP, absP, sat_nil, qE_var, qE_cst, qE_con, qE_glb, qE_tup, qE_lst, qE_bin, qE_neg, qE_cmp, qE_cmp2, qE_and, qE_or, qE_not, qE_ife, qE_call, qE_blt, qE_isi, qE_idx, qE_slc, qE_rev, qE_ofr, qE_frz, qS_set, qS_par, qS_par3, qS_parT, qS_sub, qS_expr, qS_app, qS_ife, qS_ret, qS_rais, qS_brk, qS_cont]
                rw [sat_one]
                by_cases h0 : 0 ≤ ps.sum <;> simp [int_beq, evU, evO, Ip.R.of, rd, rdAll, truP, callD, asPs, itsOf, atP, binP, addP, subP, mulP, modP, fdvP, isiU, putU, put, Ip.put.puts, setA, cmpP, eqC, neC, eqOk, scl2, eqP, eqPs, intC, mk, bltP, lenP, minP, maxP, intP, absP, sat_nil, qE_var, qE_cst, qE_con, qE_glb, qE_tup, qE_lst, qE_bin, qE_neg, qE_cmp, qE_cmp2, qE_and, qE_or, qE_not, qE_ife, qE_call, qE_blt, qE_isi, qE_idx, qE_slc, qE_rev, qE_ofr, qE_frz, qS_set, qS_par, qS_par3, qS_parT, qS_sub, qS_expr, qS_app, qS_ife, qS_ret, qS_rais, qS_brk, qS_cont, h', h0, hml]
            · simp [int_beq, evU, evO, Ip.R.of, rd, rdAll, truP, callD, asPs, itsOf, atP, binP, addP, subP, mulP, modP, fdvP, isiU, putU, put, Ip.put.puts, setA, cmpP, eqC, neC, eqOk, scl2, eqP, eqPs, intC, mk, bltP, lenP, minP, maxP, intP, absP, sat_nil, qE_var, qE_cst, qE_con, qE_glb, qE_tup, qE_lst, qE_bin, qE_neg, qE_cmp, qE_cmp2, qE_and, qE_or, qE_not, qE_ife, qE_call, qE_blt, qE_isi, qE_idx, qE_slc, qE_rev, qE_ofr, qE_frz, qS_set, qS_par, qS_par3, qS_parT, qS_sub, qS_expr, qS_app, qS_ife, qS_ret, qS_rais, qS_brk, qS_cont, tz, habs, hmm, az, fmod_pos ap, fmod_pos hR, hA, hy, Rz]
              by_cases hp : 0 < ps.sum
              · (rw [sat_cons]; simp [int_beq, evU, evO, Ip.R.of, rd, rdAll, truP, callD, asPs, itsOf, atP, binP, addP, subP, mulP, modP, fdvP, isiU, putU, put, Ip.put.puts, setA, cmpP, eqC, neC, eqOk, scl2, eqP, eqPs, intC, mk, bltP, lenP, minP, maxP, intP, absP, sat_nil, qE_var, qE_cst, qE_con, qE_glb, qE_tup, qE_lst, qE_bin, qE_neg, qE_cmp, qE_cmp2, qE_and, qE_or, qE_not, qE_ife, qE_call, qE_blt, qE_isi, qE_idx, qE_slc, qE_rev, qE_ofr, qE_frz, qS_set, qS_par, qS_par3, qS_parT, qS_sub, qS_expr, qS_app, qS_ife, qS_ret, qS_rais, qS_brk, qS_cont, hp, tz, hmm, hdv, fdiv_pos hp])
                (rw [sat_cons]; simp [int_beq, evU, evO, Ip.R.of, rd, rdAll, truP, callD, asPs, itsOf, atP, binP, addP, subP, mulP, modP, fdvP, isiU, putU, put, Ip.put.puts, setA, cmpP, eqC, neC, eqOk, scl2, eqP, eqPs, intC, mk, bltP, lenP, minP, maxP, intP, absP, sat_nil, qE_var, qE_cst, qE_con, qE_glb, qE_tup, qE_lst, qE_bin, qE_neg, qE_cmp, qE_cmp2, qE_and, qE_or, qE_not, qE_ife, qE_call, qE_blt, qE_isi, qE_idx, qE_slc, qE_rev, qE_ofr, qE_frz, qS_set, qS_par, qS_par3, qS_parT, qS_sub, qS_expr, qS_app, qS_ife, qS_ret, qS_rais, qS_brk, qS_cont, fmod_pos hR, hy, Rz])
                rw [sat_one]
                simp [int_beq, evU, evO, Ip.R.of, rd, rdAll, truP, callD, asPs, itsOf, atP, binP, addP, subP, mulP, modP, fdvP, isiU, putU, put, Ip.put.puts, setA, cmpP, eqC, neC, eqOk, scl2, eqP, eqPs, intC, mk, bltP, lenP, minP, maxP, intP, absP, sat_nil, qE_var, qE_cst, qE_con, qE_glb, qE_tup, qE_lst, qE_bin, qE_neg, qE_cmp, qE_cmp2, qE_and, qE_or, qE_not, qE_ife, qE_call, qE_blt, qE_isi, qE_idx, qE_slc, qE_rev, qE_ofr, qE_frz, qS_set, qS_par, qS_par3, qS_parT, qS_sub, qS_expr, qS_app, qS_ife, qS_ret, qS_rais, qS_brk, qS_cont]
                rw [sat_one]
                simp [int_beq, evU, evO, Ip.R.of, rd, rdAll, truP, callD, asPs, itsOf, atP, binP, addP, subP, mulP, modP, fdvP, isiU, putU, put, Ip.put.puts, setA, cmpP, eqC, neC, eqOk, scl2, eqP, eqPs, intC, mk, bltP, lenP, minP, maxP, intP, absP, sat_nil, qE_var, qE_cst, qE_con, qE_glb, qE_tup, qE_lst, qE_bin, qE_neg, qE_cmp, qE_cmp2, qE_and, qE_or, qE_not, qE_ife, qE_call, qE_blt, qE_isi, qE_idx, qE_slc, qE_rev, qE_ofr, qE_frz, qS_set, qS_par, qS_par3, qS_parT, qS_sub, qS_expr, qS_app, qS_ife, qS_ret, qS_rais, qS_brk, qS_cont, h', hml, show 0 ≤ ps.sum by omega]
              · (rw [sat_cons]; simp [int_beq, evU, evO, Ip.R.of, rd, rdAll, truP, callD, asPs, itsOf, atP, binP, addP, subP, mulP, modP, fdvP, isiU, putU, put, Ip.put.puts, setA, cmpP, eqC, neC, eqOk, scl2, eqP, eqPs, intC, mk, bltP, lenP, minP, maxP, intP, absP, sat_nil, qE_var, qE_cst, qE_con, qE_glb, qE_tup, qE_lst, qE_bin, qE_neg, qE_cmp, qE_cmp2, qE_and, qE_or, qE_not, qE_ife, qE_call, qE_blt, qE_isi, qE_idx, qE_slc, qE_rev, qE_ofr, qE_frz, qS_set, qS_par, qS_par3, qS_parT, qS_sub, qS_expr, qS_app, qS_ife, qS_ret, qS_rais, qS_brk, qS_cont, hp])
                (rw [sat_cons]; simp [int_beq, evU, evO, Ip.R.of, rd, rdAll, truP, callD, asPs, itsOf, atP, binP, addP, subP, mulP, modP, fdvP, isiU, putU, put, Ip.put.puts, setA, cmpP, eqC, neC, eqOk, scl2, eqP, eqPs, intC, mk, bltP, lenP, minP, maxP, intP, absP, sat_nil, qE_var, qE_cst, qE_con, qE_glb, qE_tup, qE_lst, qE_bin, qE_neg, qE_cmp, qE_cmp2, qE_and, qE_or, qE_not, qE_ife, qE_call, qE_blt, qE_isi, qE_idx, qE_slc, qE_rev, qE_ofr, qE_frz, qS_set, qS_par, qS_par3, qS_parT, qS_sub, qS_expr, qS_app, qS_ife, qS_ret, qS_rais, qS_brk, qS_cont, fmod_pos hR, hy, Rz])
                rw [sat_one]
                simp [int_beq, evU, evO, Ip.R.of, rd, rdAll, truP, callD, asPs, itsOf, atP, binP, addP, subP, mulP, modP, fdvP, isiU, putU, put, Ip.put.puts, setA, cmpP, eqC, neC, eqOk, scl2, eqP, eqPs, intC, mk, bltP, lenP, minP, maxP, intP, absP, sat_nil, qE_var, qE_cst, qE_con, qE_glb, qE_tup, qE_lst, qE_bin, qE_neg, qE_cmp, qE_cmp2, qE_and, qE_or, qE_not, qE_ife, qE_call, qE_blt, qE_isi, qE_idx, qE_slc, qE_rev, qE_ofr, qE_frz, qS_set, qS_par, qS_par3, qS_parT, qS_sub, qS_expr, qS_app, qS_ife, qS_ret, qS_rais, qS_brk, qS_cont]
                rw [sat_one]
                by_cases h0 : 0 ≤ ps.sum <;> simp [int_beq, evU, evO, Ip.R.of, rd, rdAll, truP, callD, asPs, itsOf, atP, binP, addP, subP, mulP, modP, fdvP, isiU, putU, put, Ip.put.puts, setA, cmpP, eqC, neC, eqOk, scl2, eqP, eqPs, intC, mk, bltP, lenP, minP, maxP, intP, absP, sat_nil, qE_var, qE_cst, qE_con, qE_glb, qE_tup, qE_lst, qE_bin, qE_neg, qE_cmp, qE_cmp2, qE_and, qE_or, qE_not, qE_ife, qE_call, qE_blt, qE_isi, qE_idx, qE_slc, qE_rev, qE_ofr, qE_frz, qS_set, qS_par, qS_par3, qS_parT, qS_sub, qS_expr, qS_app, qS_ife, qS_ret, qS_rais, qS_brk, qS_cont, h', h0, hml]
          · have hdv : ∀ x, divOk x ps.sum = true := fun x => div_small _ _ tz (by omega)
            have hml : ∀ x, mulOk x (ps.length : Int) = true := fun x => mul_small _ _ (by omega)
            by_cases hA : (w.2 + (m : Int) * R) % (ps.sum.natAbs : Int) = 0
            · simp [int_beq, evU, evO, Ip.R.of, rd, rdAll, truP, callD, asPs, itsOf, atP, binP, addP, subP, mulP, modP, fdvP, isiU, putU, put, Ip.put.puts, setA, cmpP, eqC, neC, eqOk, scl2, eqP, eqPs, intC, mk, bltP, lenP, minP, maxP, intP, absP, sat_nil, qE_var, qE_cst, qE_con, qE_glb, qE_tup, qE_lst, qE_bin, qE_neg, qE_cmp, qE_cmp2, qE_and, qE_or, qE_not, qE_ife, qE_call, qE_blt, qE_isi, qE_idx, qE_slc, qE_rev, qE_ofr, qE_frz, qS_set, qS_par, qS_par3, qS_parT, qS_sub, qS_expr, qS_app, qS_ife, qS_ret, qS_rais, qS_brk, qS_cont, tz, habs, hmm, az, fmod_pos ap, fmod_pos hR, hA, hy, Rz]
              by_cases hp : 0 < ps.sum
              · (rw [sat_cons]; simp [int_beq, evU, evO, Ip.R.of, rd, rdAll, truP, callD, asPs, itsOf, atP, binP, addP, subP, mulP, modP, fdvP, isiU, putU, put, Ip.put.puts, setA, cmpP, eqC, neC, eqOk, scl2, eqP, eqPs, intC, mk, bltP, lenP, minP, maxP, intP, absP, sat_nil, qE_var, qE_cst, qE_con, qE_glb, qE_tup, qE_lst, qE_bin, qE_neg, qE_cmp, qE_cmp2, qE_and, qE_or, qE_not, qE_ife, qE_call, qE_blt, qE_isi, qE_idx, qE_slc, qE_rev, qE_ofr, qE_frz, qS_set, qS_par, qS_par3, qS_parT, qS_sub, qS_expr, qS_app, qS_ife, qS_ret, qS_rais, qS_brk, qS_cont, hp, tz, hmm, hdv, fdiv_pos hp])
                (rw [sat_cons]; simp [int_beq, evU, evO, Ip.R.of, rd, rdAll, truP, callD, asPs, itsOf, atP, binP, addP, subP, mulP, modP, fdvP, isiU, putU, put, Ip.put.puts, setA, cmpP, eqC, neC, eqOk, scl2, eqP, eqPs, intC, mk, bltP, lenP, minP, maxP, intP, absP, sat_nil, qE_var, qE_cst, qE_con, qE_glb, qE_tup, qE_lst, qE_bin, qE_neg, qE_cmp, qE_cmp2, qE_and, qE_or, qE_not, qE_ife, qE_call, qE_blt, qE_isi, qE_idx, qE_slc, qE_rev, qE_ofr, qE_frz, qS_set, qS_par, qS_par3, qS_parT, qS_sub, qS_expr, qS_app, qS_ife, qS_ret, qS_rais, qS_brk, qS_cont, fmod_pos hR, hy, Rz])
                rw [sat_one]
                by_cases hT : 0 ≤ (w.2 + (m : Int) * R) / ps.sum
                · have h := least ((w.2 + (m : Int) * R) / ps.sum) m hT (by
                    have e : (ps.sum.natAbs : Int) = ps.sum := by omega
                    rw [e] at hA
                    exact Int.ediv_mul_cancel (Int.dvd_of_emod_eq_zero hA))
                  have h' : ¬ (w.2 + (m : Int) * R) / ps.sum * ps.length + w.1 < t := by omega
                  simp [int_beq, evU, evO, Ip.R.of, rd, rdAll, truP, callD, asPs, itsOf, atP, binP, addP, subP, mulP, modP, fdvP, isiU, putU, put, Ip.put.puts, setA, cmpP, eqC, neC, eqOk, scl2, eqP, eqPs, intC, mk, bltP, lenP, minP, maxP, intP, absP, sat_nil, qE_var, qE_cst, qE_con, qE_glb, qE_tup, qE_lst, qE_bin, qE_neg, qE_cmp, qE_cmp2, qE_and, qE_or, qE_not, qE_ife, qE_call, qE_blt, qE_isi, qE_idx, qE_slc, qE_rev, qE_ofr, qE_frz, qS_set, qS_par, qS_par3, qS_parT, qS_sub, qS_expr, qS_app, qS_ife, qS_ret, qS_rais, qS_brk, qS_cont, h', hml, hT, show 0 ≤ ps.sum by omega]
                · simp [int_beq, evU, evO, Ip.R.of, rd, rdAll, truP, callD, asPs, itsOf, atP, binP, addP, subP, mulP, modP, fdvP, isiU, putU, put, Ip.put.puts, setA, cmpP, eqC, neC, eqOk, scl2, eqP, eqPs, intC, mk, bltP, lenP, minP, maxP, intP, absP, sat_nil, qE_var, qE_cst, qE_con, qE_glb, qE_tup, qE_lst, qE_bin, qE_neg, qE_cmp, qE_cmp2, qE_and, qE_or, qE_not, qE_ife, qE_call, qE_blt, qE_isi, qE_idx, qE_slc, qE_rev, qE_ofr, qE_frz, qS_set, qS_par, qS_par3, qS_parT, qS_sub, qS_expr, qS_app, qS_ife, qS_ret, qS_rais, qS_brk, qS_cont, hT, show 0 ≤ ps.sum by omega]
              · (rw [sat_cons]; simp [int_beq, evU, evO, Ip.R.of, rd, rdAll, truP, callD, asPs, itsOf, atP, binP, addP, subP, mulP, modP, fdvP, isiU, putU, put, Ip.put.puts, setA, cmpP, eqC, neC, eqOk, scl2, eqP, eqPs, intC, mk, bltP, lenP, minP, maxP, intP, absP, sat_nil, qE_var, qE_cst, qE_con, qE_glb, qE_tup, qE_lst, qE_bin, qE_neg, qE_cmp, qE_cmp2, qE_and, qE_or, qE_not, qE_ife, qE_call, qE_blt, qE_isi, qE_idx, qE_slc, qE_rev, qE_ofr, qE_frz, qS_set, qS_par, qS_par3, qS_parT, qS_sub, qS_expr, qS_app, qS_ife, qS_ret, qS_rais, qS_brk, qS_cont, hp])
                (rw [sat_cons]; simp [int_beq, evU, evO, Ip.R.of, rd, rdAll, truP, callD, asPs, itsOf, atP, binP, addP, subP, mulP, modP, fdvP, isiU, putU, put, Ip.put.puts, setA, cmpP, eqC, neC, eqOk, scl2, eqP, eqPs, intC, mk, bltP, lenP, minP, maxP, intP, absP, sat_nil, qE_var, qE_cst, qE_con, qE_glb, qE_tup, qE_lst, qE_bin, qE_neg, qE_cmp, qE_cmp2, qE_and, qE_or, qE_not, qE_ife, qE_call, qE_blt, qE_isi, qE_idx, qE_slc, qE_rev, qE_ofr, qE_frz, qS_set, qS_par, qS_par3, qS_parT, qS_sub, qS_expr, qS_app, qS_ife, qS_ret, qS_rais, qS_brk, qS_cont, fmod_pos hR, hy, Rz])
                rw [sat_one]
                have h0 : ¬ 0 ≤ ps.sum := by omega
                simp [int_beq, evU, evO, Ip.R.of, rd, rdAll, truP, callD, asPs, itsOf, atP, binP, addP, subP, mulP, modP, fdvP, isiU, putU, put, Ip.put.puts, setA, cmpP, eqC, neC, eqOk, scl2, eqP, eqPs, intC, mk, bltP, lenP, minP, maxP, intP, absP, sat_nil, qE_var, qE_cst, qE_con, qE_glb, qE_tup, qE_lst, qE_bin, qE_neg, qE_cmp, qE_cmp2, qE_and, qE_or, qE_not, qE_ife, qE_call, qE_blt, qE_isi, qE_idx, qE_slc, qE_rev, qE_ofr, qE_frz, qS_set, qS_par, qS_par3, qS_parT, qS_sub, qS_expr, qS_app, qS_ife, qS_ret, qS_rais, qS_brk, qS_cont, h0, hml]
            · simp [int_beq, evU, evO, Ip.R.of, rd, rdAll, truP, callD, asPs, itsOf, atP, binP, addP, subP, mulP, modP, fdvP, isiU, putU, put, Ip.put.puts, setA, cmpP, eqC, neC, eqOk, scl2, eqP, eqPs, intC, mk, bltP, lenP, minP, maxP, intP, absP, sat_nil, qE_var, qE_cst, qE_con, qE_glb, qE_tup, qE_lst, qE_bin, qE_neg, qE_cmp, qE_cmp2, qE_and, qE_or, qE_not, qE_ife, qE_call, qE_blt, qE_isi, qE_idx, qE_slc, qE_rev, qE_ofr, qE_frz, qS_set, qS_par, qS_par3, qS_parT, qS_sub, qS_expr, qS_app, qS_ife, qS_ret, qS_rais, qS_brk, qS_cont, tz, habs, hmm, az, fmod_pos ap, fmod_pos hR, hA, hy, Rz]
        · rintro ρ M ⟨x13, x14, rfl, rfl⟩
          exact ⟨_, _, _, _, rfl, rfl⟩
      · rintro ρ M ⟨x5, x12, x13, x14, rfl, rfl⟩
        rw [wn_nx]
        (rw [sat_cons]; simp [int_beq, evU, evO, Ip.R.of, rd, rdAll, truP, callD, asPs, itsOf, atP, binP, addP, subP, mulP, modP, fdvP, isiU, putU, put, Ip.put.puts, setA, cmpP, eqC, neC, eqOk, scl2, eqP, eqPs, intC, mk, bltP, lenP, minP, maxP, intP, absP, sat_nil, qE_var, qE_cst, qE_con, qE_glb, qE_tup, qE_lst, qE_bin, qE_neg, qE_cmp, qE_cmp2, qE_and, qE_or, qE_not, qE_ife, qE_call, qE_blt, qE_isi, qE_idx, qE_slc, qE_rev, qE_ofr, qE_frz, qS_set, qS_par, qS_par3, qS_parT, qS_sub, qS_expr, qS_app, qS_ife, qS_ret, qS_rais, qS_brk, qS_cont])
end KG

set_option Elab.async false
set_option linter.all false
set_option maxRecDepth 100000
set_option maxHeartbeats 4000000
set_option exponentiation.threshold 5000
namespace KG
open Ip
/-! ### machines as plain things -/
inductive Pat where
  | up | down | pressed | bounce | twice
  | steps (ps : List Int)
def Pat.P : Pat → P
  | .up => s_ "up"
  | .down => s_ "down"
  | .pressed => s_ "pressed"
  | .bounce => s_ "bounce"
  | .twice => s_ "twice"
  | .steps ps => tupI ps
def Pat.Ok : Pat → Prop
  | .steps ps => Steps ps
  | _ => True
inductive Chg where | restart | stay | wait
  deriving DecidableEq
def Chg.s : Chg → String
  | .restart => "restart"
  | .stay => "stay"
  | .wait => "wait"
structure Mach where
  pat : Pat
  oct : Nat
  chg : Chg
  lat : Bool
def Mach.P (m : Mach) : P := mach m.pat.P m.oct m.chg.s m.lat
structure Mach.Ok (m : Mach) : Prop where
  pat : m.pat.Ok
  o1 : 1 ≤ m.oct
  o2 : m.oct ≤ 2
theorem c_pat (n : Nat) (p : Pat) (h : p.Ok) : C (n + 2) 25 [.p p.P] [] = .ok (.p (.bl true)) [] := by
  cases p with
  | steps ps => exact pat_tup n ps h.ne h.l4 h.it
  | up => exact pat_word (n + 1) _ (by simp [Pat.P])
  | down => exact pat_word (n + 1) _ (by simp [Pat.P])
  | pressed => exact pat_word (n + 1) _ (by simp [Pat.P])
  | bounce => exact pat_word (n + 1) _ (by simp [Pat.P])
  | twice => exact pat_word (n + 1) _ (by simp [Pat.P])
theorem Mach.Ok.good {m : Mach} (h : m.Ok) (n : Nat) : C (n + 3) 23 [.p m.P] [] = .ok (.p (.bl true)) [] :=
  c_good n _ _ _ _ (c_pat n _ h.pat) (by have := h.o1; omega) (by have := h.o2; omega) (by cases m.chg <;> simp [Chg.s])
theorem Mach.Ok.need {m : Mach} (h : m.Ok) (n : Nat) : C (n + 4) 19 [.p m.P] [] = .ok (.p .non) [] :=
  c_need_machine n _ _ _ _ (c_pat n _ h.pat) (by have := h.o1; omega) (by have := h.o2; omega) (by cases m.chg <;> simp [Chg.s])
/-! ### draws -/
def Vat (i : Nat) (M : Hm) : Prop := ∃ a b, M[i]? = some (.lst [.int a, .int b]) ∧ 0 ≤ a ∧ 0 ≤ b ∧ b < 2 ^ 31
structure Drew (i : Nat) (M M' : Hm) : Prop where
  len : M'.length = M.length
  oth : ∀ j, j ≠ i → M'[j]? = M[j]?
  vat : Vat i M'
theorem Drew.refl {i : Nat} {M : Hm} (v : Vat i M) : Drew i M M := ⟨rfl, fun _ _ => rfl, v⟩
theorem Drew.trans {i : Nat} {M M1 M2 : Hm} (a : Drew i M M1) (b : Drew i M1 M2) : Drew i M M2 := ⟨b.len.trans a.len, fun j hj => (b.oth j hj).trans (a.oth j hj), b.vat⟩
theorem Drew.at {i : Nat} {M M1 : Hm} (a : Drew i M M1) {j : Nat} {o : MO} (hj : j ≠ i) (h : M[j]? = some o) : M1[j]? = some o := (a.oth j hj).trans h
theorem under (n i : Nat) (m : Int) (M : Hm) (v : Vat i M) (hm : 0 < m) (hm2 : m < 2 ^ 30) : ∃ r M', C (n + 1) 3 [.ref i, i_ m] M = .ok (i_ r) M' ∧ 0 ≤ r ∧ r < m ∧ Drew i M M' := by
  obtain ⟨a, b, hM, ha, hb, hb2⟩ := v
  obtain ⟨r, a', b', e, h0, h1, h2, h3, h4⟩ := c_under n i m a b M hM hm hm2 ha hb hb2
  have hi : i < M.length := (List.getElem?_eq_some_iff.mp hM).1
  refine ⟨r, _, e, h0, h1, by simp, fun j hj => List.getElem?_set_ne (Ne.symm hj), a', b', ?_, h2, h3, h4⟩
  rw [List.getElem?_set_self hi]
theorem vat_new (n k : Nat) (ns : List Int) (M : Hm) : ∃ M', C (n + 1) 0 [.p (.scr (ns.map .int)), i_ (k : Int)] M = .ok (.ref M.length) M' ∧ Vat M.length M' ∧ M'.length = M.length + 1 ∧ ∀ j, j < M.length → M'[j]? = M[j]? := by
  obtain ⟨a, b, e, h0, h1, h2⟩ := c_vat n k ns M
  exact ⟨_, e, ⟨a, b, by simp, h0, h1, h2⟩, by simp, fun j hj => by rw [List.getElem?_append_left hj]⟩
theorem Drew.take {i : Nat} {M M1 : Hm} (d : Drew i M M1) : M1.take M.length = M1 := List.take_of_length_le (by rw [d.len]; exact Nat.le_refl _)
theorem some_ (n i : Nat) (ps : List P) (M : Hm) (v : Vat i M) (hp : ps ≠ []) (hl : ps.length < 2 ^ 30) : ∃ (q : P) (M' : Hm), C (n + 2) 2 [.ref i, .p (.lst ps)] M = .ok (.p q) M' ∧ q ∈ ps ∧ Drew i M M' := by
  have l0 : 0 < ps.length := List.length_pos_iff.mpr hp
  obtain ⟨r, M', e, h0, h1, d⟩ := under n i (ps.length : Int) M v (by omega) (by omega)
  have hk : r.toNat < ps.length := by omega
  have ha : ps[r.toNat]? = some ps[r.toNat] := by simp [hk]
  unfold C i_ at *
  refine callN_satM (F := F__law_some) (fun q M' => q ∈ ps ∧ Drew i M M') rfl rfl rfl ?_
  unfold F__law_some
  rw [sat_one]
  simp [int_beq, evU, evO, Ip.R.of, rd, rdAll, truP, callD, asPs, itsOf, atP, binP, addP, subP, mulP, modP, fdvP, isiU, putU, put, Ip.put.puts, setA, cmpP, eqC, neC, eqOk, scl2, eqP, eqPs, intC, mk, bltP, lenP, minP, maxP, intP, absP, sat_nil, qE_var, qE_cst, qE_con, qE_glb, qE_tup, qE_lst, qE_bin, qE_neg, qE_cmp, qE_cmp2, qE_and, qE_or, qE_not, qE_ife, qE_call, qE_blt, qE_isi, qE_idx, qE_slc, qE_rev, qE_ofr, qE_frz, qS_set, qS_par, qS_par3, qS_parT, qS_sub, qS_expr, qS_app, qS_ife, qS_ret, qS_rais, qS_brk, qS_cont, e, h0, ha, d.take]
  exact d
end KG

set_option Elab.async false
set_option linter.all false
set_option maxRecDepth 100000
set_option maxHeartbeats 4000000
set_option exponentiation.threshold 5000
namespace KG
open Ip
theorem rngP_len (m : Nat) : (rngP 0 (m : Int)).length = m := by rw [rngP_nat]; simp
/-- drawn steps -/
theorem draw_steps (n i : Nat) (M : Hm) (v : Vat i M) (ρ : Rho) (hρ : ρ = [some (.ref i), some (.p (s_ "")), none, none]) : ∃ ps M', evE (C (n + 2)) CN (.blt false .tuple [(.comp false (.bin false .sub (.call true 3 [(.var 0), (.cst (.int (7)))]) (.cst (.int (3)))) (.nm 3) (.rng none (.bin false .add (.cst (.int (1))) (.call true 3 [(.var 0), (.cst (.int (4)))]))) none [3])]) ρ M = .ok (.p (tupI ps)) M' ∧ Steps ps ∧ Drew i M M' := by
  subst hρ
  obtain ⟨r, M1, e, h0, h1, d⟩ := under (n + 1) i 4 M v (by decide) (by decide)
  have hr : 1 + r = ((1 + r).toNat : Int) := by omega
  have hi : evI (C (n + 2)) CN (.rng none (.bin false .add (.cst (.int (1))) (.call true 3 [(.var 0), (.cst (.int (4)))]))) [some (.ref i), some (.p (s_ "")), none, none] M = .ok (rngP 0 ((1 + r).toNat : Int)) M1 := by
    rw [← hr]
    refine ev_rng ?_ (by omega) (by omega)
    unfold C i_ at *
    simp [int_beq, evU, evO, Ip.R.of, rd, rdAll, truP, callD, asPs, itsOf, atP, binP, addP, subP, mulP, modP, fdvP, isiU, putU, put, Ip.put.puts, setA, cmpP, eqC, neC, eqOk, scl2, eqP, eqPs, intC, mk, bltP, lenP, minP, maxP, intP, absP, sat_nil, qE_var, qE_cst, qE_con, qE_glb, qE_tup, qE_lst, qE_bin, qE_neg, qE_cmp, qE_cmp2, qE_and, qE_or, qE_not, qE_ife, qE_call, qE_blt, qE_isi, qE_idx, qE_slc, qE_rev, qE_ofr, qE_frz, qS_set, qS_par, qS_par3, qS_parT, qS_sub, qS_expr, qS_app, qS_ife, qS_ret, qS_rais, qS_brk, qS_cont, e]
  obtain ⟨ps, M2, e2, hI⟩ := cmpL_inv (step := stepC (C (n + 2)) CN (.bin false .sub (.call true 3 [(.var 0), (.cst (.int (7)))]) (.cst (.int (3)))) (.nm 3) none [3] [some (.ref i), some (.p (s_ "")), none, none]) (f := P.int)
    (fun pre bs M' => bs.length = pre.length ∧ (∀ x ∈ bs, -3 ≤ x ∧ x ≤ 3) ∧ Drew i M M') [] (rngP 0 ((1 + r).toNat : Int)) [] M1 (fun pre q post bs M' hq ⟨a1, a2, a3⟩ => by
      obtain ⟨x, M3, e3, x0, x1, d3⟩ := under (n + 1) i 7 M' a3.vat (by decide) (by decide)
      refine ⟨some (x - 3), M3, ?_, by simp [a1], fun y hy => ?_, a3.trans d3⟩
      · unfold C i_ at *
        simp [int_beq, evU, evO, Ip.R.of, rd, rdAll, truP, callD, asPs, itsOf, atP, binP, addP, subP, mulP, modP, fdvP, isiU, putU, put, Ip.put.puts, setA, cmpP, eqC, neC, eqOk, scl2, eqP, eqPs, intC, mk, bltP, lenP, minP, maxP, intP, absP, sat_nil, qE_var, qE_cst, qE_con, qE_glb, qE_tup, qE_lst, qE_bin, qE_neg, qE_cmp, qE_cmp2, qE_and, qE_or, qE_not, qE_ife, qE_call, qE_blt, qE_isi, qE_idx, qE_slc, qE_rev, qE_ofr, qE_frz, qS_set, qS_par, qS_par3, qS_parT, qS_sub, qS_expr, qS_app, qS_ife, qS_ret, qS_rais, qS_brk, qS_cont, stepC, testC, valC, wip, e3]
      · rcases List.mem_append.mp hy with hy | hy
        · exact a2 y hy
        · simp at hy
          omega) ⟨rfl, by simp, d⟩
  have hl : (rngP 0 ((1 + r).toNat : Int)).length ≤ LIM := by
    rw [rngP_len]
    unfold LIM
    omega
  obtain ⟨b1, b2, b3⟩ := hI
  rw [List.nil_append, rngP_len] at b1
  refine ⟨ps, M2, ?_, ⟨?_, ?_, b2⟩, b3⟩
  · rw [qE_blt, evU, comp_eq, hi]
    simp only [R.ok_bind]
    rw [if_pos hl]
    simp only [List.map_nil] at e2
    rw [e2]
    simp [int_beq, evU, evO, Ip.R.of, rd, rdAll, truP, callD, asPs, itsOf, atP, binP, addP, subP, mulP, modP, fdvP, isiU, putU, put, Ip.put.puts, setA, cmpP, eqC, neC, eqOk, scl2, eqP, eqPs, intC, mk, bltP, lenP, minP, maxP, intP, absP, sat_nil, qE_var, qE_cst, qE_con, qE_glb, qE_tup, qE_lst, qE_bin, qE_neg, qE_cmp, qE_cmp2, qE_and, qE_or, qE_not, qE_ife, qE_call, qE_blt, qE_isi, qE_idx, qE_slc, qE_rev, qE_ofr, qE_frz, qS_set, qS_par, qS_par3, qS_parT, qS_sub, qS_expr, qS_app, qS_ife, qS_ret, qS_rais, qS_brk, qS_cont, tupleP, seqOf]
  · intro z
    rw [z] at b1
    simp at b1
    omega
  · omega
theorem law_machine (n i : Nat) (M : Hm) (v : Vat i M) : ∃ (m : Mach) (M' : Hm), C (n + 3) 1 [.ref i] M = .ok (.p m.P) M' ∧ m.Ok ∧ Drew i M M' := by
  suffices h : ∃ x M', C (n + 3) 1 [.ref i] M = .ok (.p x) M' ∧ ∃ m : Mach, x = m.P ∧ m.Ok ∧ Drew i M M' by
    obtain ⟨x, M', e, m, rfl, h1, h2⟩ := h
    exact ⟨m, M', e, h1, h2⟩
  refine callN_satM (F := F__law_machine) (fun x M' => ∃ m : Mach, x = m.P ∧ m.Ok ∧ Drew i M M') rfl rfl rfl ?_
  unfold F__law_machine
  obtain ⟨w, M1, e1, hw, d1⟩ := some_ n i [s_ "bounce", s_ "down", s_ "pressed", s_ "twice", s_ "up", s_ "", s_ ""] M v (by simp) (by simp)
  have key : ∀ (p : Pat) (M2 : Hm), p.Ok → Drew i M M2 → (evB (C (n + 2)) CN 100000 [CS.set (.nm 2) (.call true 2 [(.var 0), (.lst false [(.cst (s_ "restart")), (.cst (s_ "stay")), (.cst (s_ "wait"))])]),
      .ret (.tup [(.var 1), (.bin false .add (.cst (.int (1))) (.call true 3 [(.var 0), (.cst (.int (2)))])), (.var 2), (.cmp .eq (.call true 3 [(.var 0), (.cst (.int (2)))]) (.cst (.int (0))))])] [some (.ref i), some (.p p.P), none, none] M2).sat { nx := fun _ M' => ∃ m : Mach, P.non = m.P ∧ m.Ok ∧ Drew i M (M'.take M.length), rt := fun u M' => ∃ x, u = .p x ∧ ∃ m : Mach, x = m.P ∧ m.Ok ∧ Drew i M (M'.take M.length) } := by
    intro p M2 hp d2
    obtain ⟨c, M3, e3, hc, d3⟩ := some_ n i [s_ "restart", s_ "stay", s_ "wait"] M2 d2.vat (by simp) (by simp)
    obtain ⟨a, M4, e4, a0, a1, d4⟩ := under (n + 1) i 2 M3 d3.vat (by decide) (by decide)
    obtain ⟨b, M5, e5, b0, b1, d5⟩ := under (n + 1) i 2 M4 d4.vat (by decide) (by decide)
    have dd := ((d2.trans d3).trans d4).trans d5
    unfold C i_ at *
    (rw [sat_cons]; simp [int_beq, evU, evO, Ip.R.of, rd, rdAll, truP, callD, asPs, itsOf, atP, binP, addP, subP, mulP, modP, fdvP, isiU, putU, put, Ip.put.puts, setA, cmpP, eqC, neC, eqOk, scl2, eqP, eqPs, intC, mk, bltP, lenP, minP, maxP, intP, absP, sat_nil, qE_var, qE_cst, qE_con, qE_glb, qE_tup, qE_lst, qE_bin, qE_neg, qE_cmp, qE_cmp2, qE_and, qE_or, qE_not, qE_ife, qE_call, qE_blt, qE_isi, qE_idx, qE_slc, qE_rev, qE_ofr, qE_frz, qS_set, qS_par, qS_par3, qS_parT, qS_sub, qS_expr, qS_app, qS_ife, qS_ret, qS_rais, qS_brk, qS_cont, e3])
    rw [sat_one]
    simp [int_beq, evU, evO, Ip.R.of, rd, rdAll, truP, callD, asPs, itsOf, atP, binP, addP, subP, mulP, modP, fdvP, isiU, putU, put, Ip.put.puts, setA, cmpP, eqC, neC, eqOk, scl2, eqP, eqPs, intC, mk, bltP, lenP, minP, maxP, intP, absP, sat_nil, qE_var, qE_cst, qE_con, qE_glb, qE_tup, qE_lst, qE_bin, qE_neg, qE_cmp, qE_cmp2, qE_and, qE_or, qE_not, qE_ife, qE_call, qE_blt, qE_isi, qE_idx, qE_slc, qE_rev, qE_ofr, qE_frz, qS_set, qS_par, qS_par3, qS_parT, qS_sub, qS_expr, qS_app, qS_ife, qS_ret, qS_rais, qS_brk, qS_cont, e4, e5]
    rw [dd.take]
    have hcc : ∃ g : Chg, c = s_ g.s := by
      simp only [List.mem_cons, List.not_mem_nil, or_false] at hc
      rcases hc with rfl | rfl | rfl
      · exact ⟨.restart, rfl⟩
      · exact ⟨.stay, rfl⟩
      · exact ⟨.wait, rfl⟩
    obtain ⟨g, rfl⟩ := hcc
    refine ⟨⟨p, (1 + a).toNat, g, decide (b = 0)⟩, ?_, ⟨hp, by simp only; omega, by simp only; omega⟩, dd⟩
    unfold Mach.P mach
    simp only
    rw [Int.toNat_of_nonneg (by omega)]
  unfold C at e1 key
  simp only [s_] at e1 hw key
  (rw [sat_cons]; simp [int_beq, evU, evO, Ip.R.of, rd, rdAll, truP, callD, asPs, itsOf, atP, binP, addP, subP, mulP, modP, fdvP, isiU, putU, put, Ip.put.puts, setA, cmpP, eqC, neC, eqOk, scl2, eqP, eqPs, intC, mk, bltP, lenP, minP, maxP, intP, absP, sat_nil, qE_var, qE_cst, qE_con, qE_glb, qE_tup, qE_lst, qE_bin, qE_neg, qE_cmp, qE_cmp2, qE_and, qE_or, qE_not, qE_ife, qE_call, qE_blt, qE_isi, qE_idx, qE_slc, qE_rev, qE_ofr, qE_frz, qS_set, qS_par, qS_par3, qS_parT, qS_sub, qS_expr, qS_app, qS_ife, qS_ret, qS_rais, qS_brk, qS_cont, e1])
  simp only [List.mem_cons, List.not_mem_nil, or_false] at hw
  rcases hw with rfl | rfl | rfl | rfl | rfl | hw
  · (rw [sat_cons]; simp [int_beq, evU, evO, Ip.R.of, rd, rdAll, truP, callD, asPs, itsOf, atP, binP, addP, subP, mulP, modP, fdvP, isiU, putU, put, Ip.put.puts, setA, cmpP, eqC, neC, eqOk, scl2, eqP, eqPs, intC, mk, bltP, lenP, minP, maxP, intP, absP, sat_nil, qE_var, qE_cst, qE_con, qE_glb, qE_tup, qE_lst, qE_bin, qE_neg, qE_cmp, qE_cmp2, qE_and, qE_or, qE_not, qE_ife, qE_call, qE_blt, qE_isi, qE_idx, qE_slc, qE_rev, qE_ofr, qE_frz, qS_set, qS_par, qS_par3, qS_parT, qS_sub, qS_expr, qS_app, qS_ife, qS_ret, qS_rais, qS_brk, qS_cont, str_ne (x := "bounce") (y := "") (by decide +kernel)])
    exact key .bounce M1 trivial d1
  · (rw [sat_cons]; simp [int_beq, evU, evO, Ip.R.of, rd, rdAll, truP, callD, asPs, itsOf, atP, binP, addP, subP, mulP, modP, fdvP, isiU, putU, put, Ip.put.puts, setA, cmpP, eqC, neC, eqOk, scl2, eqP, eqPs, intC, mk, bltP, lenP, minP, maxP, intP, absP, sat_nil, qE_var, qE_cst, qE_con, qE_glb, qE_tup, qE_lst, qE_bin, qE_neg, qE_cmp, qE_cmp2, qE_and, qE_or, qE_not, qE_ife, qE_call, qE_blt, qE_isi, qE_idx, qE_slc, qE_rev, qE_ofr, qE_frz, qS_set, qS_par, qS_par3, qS_parT, qS_sub, qS_expr, qS_app, qS_ife, qS_ret, qS_rais, qS_brk, qS_cont, str_ne (x := "down") (y := "") (by decide +kernel)])
    exact key .down M1 trivial d1
  · (rw [sat_cons]; simp [int_beq, evU, evO, Ip.R.of, rd, rdAll, truP, callD, asPs, itsOf, atP, binP, addP, subP, mulP, modP, fdvP, isiU, putU, put, Ip.put.puts, setA, cmpP, eqC, neC, eqOk, scl2, eqP, eqPs, intC, mk, bltP, lenP, minP, maxP, intP, absP, sat_nil, qE_var, qE_cst, qE_con, qE_glb, qE_tup, qE_lst, qE_bin, qE_neg, qE_cmp, qE_cmp2, qE_and, qE_or, qE_not, qE_ife, qE_call, qE_blt, qE_isi, qE_idx, qE_slc, qE_rev, qE_ofr, qE_frz, qS_set, qS_par, qS_par3, qS_parT, qS_sub, qS_expr, qS_app, qS_ife, qS_ret, qS_rais, qS_brk, qS_cont, str_ne (x := "pressed") (y := "") (by decide +kernel)])
    exact key .pressed M1 trivial d1
  · (rw [sat_cons]; simp [int_beq, evU, evO, Ip.R.of, rd, rdAll, truP, callD, asPs, itsOf, atP, binP, addP, subP, mulP, modP, fdvP, isiU, putU, put, Ip.put.puts, setA, cmpP, eqC, neC, eqOk, scl2, eqP, eqPs, intC, mk, bltP, lenP, minP, maxP, intP, absP, sat_nil, qE_var, qE_cst, qE_con, qE_glb, qE_tup, qE_lst, qE_bin, qE_neg, qE_cmp, qE_cmp2, qE_and, qE_or, qE_not, qE_ife, qE_call, qE_blt, qE_isi, qE_idx, qE_slc, qE_rev, qE_ofr, qE_frz, qS_set, qS_par, qS_par3, qS_parT, qS_sub, qS_expr, qS_app, qS_ife, qS_ret, qS_rais, qS_brk, qS_cont, str_ne (x := "twice") (y := "") (by decide +kernel)])
    exact key .twice M1 trivial d1
  · (rw [sat_cons]; simp [int_beq, evU, evO, Ip.R.of, rd, rdAll, truP, callD, asPs, itsOf, atP, binP, addP, subP, mulP, modP, fdvP, isiU, putU, put, Ip.put.puts, setA, cmpP, eqC, neC, eqOk, scl2, eqP, eqPs, intC, mk, bltP, lenP, minP, maxP, intP, absP, sat_nil, qE_var, qE_cst, qE_con, qE_glb, qE_tup, qE_lst, qE_bin, qE_neg, qE_cmp, qE_cmp2, qE_and, qE_or, qE_not, qE_ife, qE_call, qE_blt, qE_isi, qE_idx, qE_slc, qE_rev, qE_ofr, qE_frz, qS_set, qS_par, qS_par3, qS_parT, qS_sub, qS_expr, qS_app, qS_ife, qS_ret, qS_rais, qS_brk, qS_cont, str_ne (x := "up") (y := "") (by decide +kernel)])
    exact key .up M1 trivial d1
  · have hw : w = .str (PySem.Str.ofString "") := by rcases hw with h | h <;> exact h
    subst hw
    obtain ⟨ps, M2, e2, hs, d2⟩ := draw_steps n i M1 d1.vat _ rfl
    rw [sat_cons, qS_ife]
    have ec : evE (callN FN CN 100000 (n + 2)) CN (CE.cmp COp.eq (CE.var 1) (CE.cst (P.str (PySem.Str.ofString "")))) [some (.ref i), some (.p (.str (PySem.Str.ofString ""))), none, none] M1 = .ok (.p (.bl true)) M1 := by simp [int_beq, evU, evO, Ip.R.of, rd, rdAll, truP, callD, asPs, itsOf, atP, binP, addP, subP, mulP, modP, fdvP, isiU, putU, put, Ip.put.puts, setA, cmpP, eqC, neC, eqOk, scl2, eqP, eqPs, intC, mk, bltP, lenP, minP, maxP, intP, absP, sat_nil, qE_var, qE_cst, qE_con, qE_glb, qE_tup, qE_lst, qE_bin, qE_neg, qE_cmp, qE_cmp2, qE_and, qE_or, qE_not, qE_ife, qE_call, qE_blt, qE_isi, qE_idx, qE_slc, qE_rev, qE_ofr, qE_frz, qS_set, qS_par, qS_par3, qS_parT, qS_sub, qS_expr, qS_app, qS_ife, qS_ret, qS_rais, qS_brk, qS_cont]
    unfold C at e2
    rw [ec]
    simp only [R.ok_st, rd, Option.bind_some, truP]
    rw [sat_one, qS_set]
    simp only [s_] at e2
    rw [e2]
    simp only [R.ok_st]
    exact key (.steps ps) M2 hs (d1.trans d2)
end KG

set_option Elab.async false
set_option linter.all false
set_option maxRecDepth 100000
set_option maxHeartbeats 4000000
set_option exponentiation.threshold 5000
namespace KG
open Ip
theorem rung_both (p : Pat) (hp : p.Ok) (R t : Int) (hR : 1 < R) : ∃ num, (∀ n, C (n + 1) 14 [.p p.P, i_ R, i_ t] [] = .ok (i_ num) []) ∧ (∀ n, C (n + 1) 4 [.p p.P, i_ R, i_ t] [] = .ok (i_ num) []) ∧ -(2 * R) ≤ num ∧ num ≤ 2 * R := by
  have h0 : 0 < R := by omega
  have b1 : 0 ≤ t % R := Int.emod_nonneg _ (by omega)
  have b2 : t % R < R := Int.emod_lt_of_pos _ h0
  cases p with
  | up => exact ⟨_, fun n => rung_up n R t h0, fun n => lrung_up n R t h0, by omega, by omega⟩
  | pressed => exact ⟨_, fun n => rung_pressed n R t h0, fun n => lrung_pressed n R t h0, by omega, by omega⟩
  | down => exact ⟨_, fun n => rung_down n R t h0, fun n => lrung_down n R t h0, by omega, by omega⟩
  | bounce =>
    have b3 : 0 ≤ t % (2 * R - 2) := Int.emod_nonneg _ (by omega)
    have b4 : t % (2 * R - 2) < 2 * R - 2 := Int.emod_lt_of_pos _ (by omega)
    refine ⟨_, fun n => rung_bounce n R t hR, fun n => lrung_bounce n R t hR, ?_, ?_⟩ <;> split <;> omega
  | twice =>
    have b3 : 0 ≤ t % (2 * R) := Int.emod_nonneg _ (by omega)
    have b4 : t % (2 * R) < 2 * R := Int.emod_lt_of_pos _ (by omega)
    refine ⟨_, fun n => rung_twice n R t h0, fun n => lrung_twice n R t h0, ?_, ?_⟩ <;> split <;> omega
  | steps ps =>
    have hs : Steps ps := hp
    have := hs.sum
    have l4 := hs.l4
    refine ⟨_, fun n => rung_tup n ps R t hs.ne (by omega) h0 (by omega), fun n => lrung_tup n ps R t hs.ne (by omega) h0 (by omega), ?_, ?_⟩
    · have : 0 ≤ rungT ps R t := Int.emod_nonneg _ (by omega)
      omega
    · have : rungT ps R t < R := Int.emod_lt_of_pos _ h0
      omega
theorem note_both (n : Nat) (m : Mach) (h : m.Ok) (v t : Int) (h1 : 1 < v) (h2 : v ≤ 10 ^ 30) (h3 : 0 ≤ t) (h4 : t ≤ 10 ^ 30) : ∃ num, C (n + 7) 4 [.p m.pat.P, i_ (v * m.oct), i_ t] [] = .ok (i_ num) [] ∧ C (n + 7) 5 [.p m.P, i_ v, i_ t] [] = .ok (.p (.tup [.int (num.fmod v), .int (num.fdiv v)])) [] ∧ -(2 ^ 110) ≤ num ∧ num ≤ 2 ^ 110 := by
  have ho1 := h.o1
  have ho2 := h.o2
  have hR : v ≤ v * m.oct := by
    have := Int.mul_le_mul_of_nonneg_left (show (1 : Int) ≤ m.oct by omega) (show 0 ≤ v by omega)
    omega
  have hR2 : v * m.oct ≤ 2 * 10 ^ 30 := by
    have : v * m.oct ≤ 10 ^ 30 * 2 := Int.mul_le_mul h2 (by omega) (by omega) (by decide)
    omega
  obtain ⟨num, e1, e2, b1, b2⟩ := rung_both m.pat h.pat (v * m.oct) t (by omega)
  have b3 : -(2 ^ 110) ≤ num := by omega
  have b4 : num ≤ 2 ^ 110 := by omega
  exact ⟨num, e2 _, c_note_at n _ _ _ _ v t num (h.need (n + 1)) (by omega) h2 h3 h4 (by omega) (lt4000 (by omega) (by omega)) (e1 _), b3, b4⟩
theorem heard_both (n : Nat) (m : Mach) (h : m.Ok) (v : Int) (h1 : 1 ≤ v) (h2 : v ≤ 10 ^ 30) : ∃ q, C (n + 7) 6 [.p m.P, i_ v] [] = .ok (i_ q) [] ∧ C (n + 7) 7 [.p m.P, i_ v] [] = .ok (i_ q) [] := by
  have ho1 := h.o1
  have ho2 := h.o2
  have hn := h.need (n + 1)
  have hw : ∀ x : String, m.pat.P = s_ x → ∃ q, C (n + 7) 6 [.p m.P, i_ v] [] = .ok (i_ q) [] ∧ C (n + 7) 7 [.p m.P, i_ v] [] = .ok (i_ q) [] := fun x hx => by
    unfold Mach.P at *
    rw [hx] at hn ⊢
    exact ⟨v, heard_word n x _ _ _ v hn (by omega) h1 h2, lheard_word (n + 6) x _ _ _ v⟩
  cases hp : m.pat with
  | steps ps =>
    have hs : Steps ps := by have := h.pat; rw [hp] at this; exact this
    have l4 := hs.l4
    have e : m.P = mach (tupI ps) m.oct m.chg.s m.lat := by unfold Mach.P; rw [hp]; rfl
    rw [e] at hn ⊢
    exact ⟨_, heard_tup n ps m.oct _ _ v hn (by omega) ho2 ho1 hs.sum.1 hs.sum.2 h1 h2 hs.pre, lheard_tup n ps m.oct _ _ v (by omega) ho2 ho1 h1 h2 hs.sum.1 hs.sum.2 hs.pre⟩
  | up => exact hw "up" (by rw [hp]; rfl)
  | down => exact hw "down" (by rw [hp]; rfl)
  | pressed => exact hw "pressed" (by rw [hp]; rfl)
  | bounce => exact hw "bounce" (by rw [hp]; rfl)
  | twice => exact hw "twice" (by rw [hp]; rfl)
theorem law_first_word (n : Nat) (x : String) (o : Int) (c : String) (l : Bool) (v r : Int) (hx : (PySem.Str.ofString x = PySem.Str.ofString "down") = False) (hm : C (n + 5) 19 [.p (mach (s_ x) o c l)] [] = .ok (.p .non) []) (ho : o.natAbs < 2 ^ 63) (h1 : 1 ≤ v) (h2 : v ≤ 10 ^ 30) (h3 : 0 ≤ r) (h4 : r ≤ v - 1) : C (n + 8) 8 [.p (mach (s_ x) o c l), i_ v, i_ r] [] = .ok (.p (.bl true)) [] := by
  have e := first_word n x o c l v r hx hm h1 h2 h3 h4
  have hmo : mulOk v o = true := by simp [mulOk, ho]
  refine callN_sat (F := F__law_first_right) rfl rfl rfl ?_
  unfold F__law_first_right
  unfold C i_ mach s_ at *
  (rw [sat_cons]; simp [int_beq, evU, evO, Ip.R.of, rd, rdAll, truP, callD, asPs, itsOf, atP, binP, addP, subP, mulP, modP, fdvP, isiU, putU, put, Ip.put.puts, setA, cmpP, eqC, neC, eqOk, scl2, eqP, eqPs, intC, mk, bltP, lenP, minP, maxP, intP, absP, sat_nil, qE_var, qE_cst, qE_con, qE_glb, qE_tup, qE_lst, qE_bin, qE_neg, qE_cmp, qE_cmp2, qE_and, qE_or, qE_not, qE_ife, qE_call, qE_blt, qE_isi, qE_idx, qE_slc, qE_rev, qE_ofr, qE_frz, qS_set, qS_par, qS_par3, qS_parT, qS_sub, qS_expr, qS_app, qS_ife, qS_ret, qS_rais, qS_brk, qS_cont, e, hmo])
  (rw [sat_cons]; simp [int_beq, evU, evO, Ip.R.of, rd, rdAll, truP, callD, asPs, itsOf, atP, binP, addP, subP, mulP, modP, fdvP, isiU, putU, put, Ip.put.puts, setA, cmpP, eqC, neC, eqOk, scl2, eqP, eqPs, intC, mk, bltP, lenP, minP, maxP, intP, absP, sat_nil, qE_var, qE_cst, qE_con, qE_glb, qE_tup, qE_lst, qE_bin, qE_neg, qE_cmp, qE_cmp2, qE_and, qE_or, qE_not, qE_ife, qE_call, qE_blt, qE_isi, qE_idx, qE_slc, qE_rev, qE_ofr, qE_frz, qS_set, qS_par, qS_par3, qS_parT, qS_sub, qS_expr, qS_app, qS_ife, qS_ret, qS_rais, qS_brk, qS_cont])
  rw [sat_one]
  simp [int_beq, evU, evO, Ip.R.of, rd, rdAll, truP, callD, asPs, itsOf, atP, binP, addP, subP, mulP, modP, fdvP, isiU, putU, put, Ip.put.puts, setA, cmpP, eqC, neC, eqOk, scl2, eqP, eqPs, intC, mk, bltP, lenP, minP, maxP, intP, absP, sat_nil, qE_var, qE_cst, qE_con, qE_glb, qE_tup, qE_lst, qE_bin, qE_neg, qE_cmp, qE_cmp2, qE_and, qE_or, qE_not, qE_ife, qE_call, qE_blt, qE_isi, qE_idx, qE_slc, qE_rev, qE_ofr, qE_frz, qS_set, qS_par, qS_par3, qS_parT, qS_sub, qS_expr, qS_app, qS_ife, qS_ret, qS_rais, qS_brk, qS_cont, hx]
theorem law_first_down (n : Nat) (o : Int) (c : String) (l : Bool) (v r : Int) (hm : C (n + 5) 19 [.p (mach (s_ "down") o c l)] [] = .ok (.p .non) []) (ho : o.natAbs < 2 ^ 63) (h1 : 1 ≤ v) (h2 : v ≤ 10 ^ 30) (h3 : 0 ≤ r) (h4 : r ≤ v - 1) : C (n + 8) 8 [.p (mach (s_ "down") o c l), i_ v, i_ r] [] = .ok (.p (.bl true)) [] := by
  have e := first_down n o c l v r hm h1 h2 h3 h4
  have hmo : mulOk v o = true := by simp [mulOk, ho]
  refine callN_sat (F := F__law_first_right) rfl rfl rfl ?_
  unfold F__law_first_right
  unfold C i_ mach s_ at *
  (rw [sat_cons]; simp [int_beq, evU, evO, Ip.R.of, rd, rdAll, truP, callD, asPs, itsOf, atP, binP, addP, subP, mulP, modP, fdvP, isiU, putU, put, Ip.put.puts, setA, cmpP, eqC, neC, eqOk, scl2, eqP, eqPs, intC, mk, bltP, lenP, minP, maxP, intP, absP, sat_nil, qE_var, qE_cst, qE_con, qE_glb, qE_tup, qE_lst, qE_bin, qE_neg, qE_cmp, qE_cmp2, qE_and, qE_or, qE_not, qE_ife, qE_call, qE_blt, qE_isi, qE_idx, qE_slc, qE_rev, qE_ofr, qE_frz, qS_set, qS_par, qS_par3, qS_parT, qS_sub, qS_expr, qS_app, qS_ife, qS_ret, qS_rais, qS_brk, qS_cont, e, hmo])
  (rw [sat_cons]; simp [int_beq, evU, evO, Ip.R.of, rd, rdAll, truP, callD, asPs, itsOf, atP, binP, addP, subP, mulP, modP, fdvP, isiU, putU, put, Ip.put.puts, setA, cmpP, eqC, neC, eqOk, scl2, eqP, eqPs, intC, mk, bltP, lenP, minP, maxP, intP, absP, sat_nil, qE_var, qE_cst, qE_con, qE_glb, qE_tup, qE_lst, qE_bin, qE_neg, qE_cmp, qE_cmp2, qE_and, qE_or, qE_not, qE_ife, qE_call, qE_blt, qE_isi, qE_idx, qE_slc, qE_rev, qE_ofr, qE_frz, qS_set, qS_par, qS_par3, qS_parT, qS_sub, qS_expr, qS_app, qS_ife, qS_ret, qS_rais, qS_brk, qS_cont])
  rw [sat_one]
  simp [int_beq, evU, evO, Ip.R.of, rd, rdAll, truP, callD, asPs, itsOf, atP, binP, addP, subP, mulP, modP, fdvP, isiU, putU, put, Ip.put.puts, setA, cmpP, eqC, neC, eqOk, scl2, eqP, eqPs, intC, mk, bltP, lenP, minP, maxP, intP, absP, sat_nil, qE_var, qE_cst, qE_con, qE_glb, qE_tup, qE_lst, qE_bin, qE_neg, qE_cmp, qE_cmp2, qE_and, qE_or, qE_not, qE_ife, qE_call, qE_blt, qE_isi, qE_idx, qE_slc, qE_rev, qE_ofr, qE_frz, qS_set, qS_par, qS_par3, qS_parT, qS_sub, qS_expr, qS_app, qS_ife, qS_ret, qS_rais, qS_brk, qS_cont]
theorem law_first (n : Nat) (m : Mach) (h : m.Ok) (v r : Int) (h1 : 1 ≤ v) (h2 : v ≤ 10 ^ 30) (h3 : 0 ≤ r) (h4 : r ≤ v - 1) : C (n + 8) 8 [.p m.P, i_ v, i_ r] [] = .ok (.p (.bl true)) [] := by
  have ho1 := h.o1
  have ho2 := h.o2
  have hn := h.need (n + 1)
  have hw : ∀ x : String, m.pat.P = s_ x → (PySem.Str.ofString x = PySem.Str.ofString "down") = False → C (n + 8) 8 [.p m.P, i_ v, i_ r] [] = .ok (.p (.bl true)) [] := fun x hx hd => by
    unfold Mach.P at *
    rw [hx] at hn ⊢
    exact law_first_word n x _ _ _ v r hd hn (by omega) h1 h2 h3 h4
  cases hp : m.pat with
  | steps ps =>
    have hs : Steps ps := by have := h.pat; rw [hp] at this; exact this
    have e : m.P = mach (tupI ps) m.oct m.chg.s m.lat := by unfold Mach.P; rw [hp]; rfl
    rw [e] at hn ⊢
    exact law_first_tup n ps m.oct _ _ v r hs ho1 ho2 hn h1 h2 h3 h4
  | up => exact hw "up" (by rw [hp]; rfl) ud
  | down =>
    have e : m.P = mach (s_ "down") m.oct m.chg.s m.lat := by unfold Mach.P; rw [hp]; rfl
    rw [e] at hn ⊢
    exact law_first_down n _ _ _ v r hn (by omega) h1 h2 h3 h4
  | pressed => exact hw "pressed" (by rw [hp]; rfl) pd_
  | bounce => exact hw "bounce" (by rw [hp]; rfl) bd_
  | twice => exact hw "twice" (by rw [hp]; rfl) td_
end KG

set_option Elab.async false
set_option linter.all false
set_option maxRecDepth 100000
set_option maxHeartbeats 4000000
set_option exponentiation.threshold 5000
namespace KG
open Ip
abbrev great : P := .int 1000000000000000000000000000000
abbrev kn3 : P := .tup [.tup [.int 1, .int 2], .int 1, s_ "restart", .bl false]
abbrev kn0 : P := .tup [s_ "up", .int 1, s_ "restart", .bl false]
theorem cl1 : C 15 5 [.p kn3, .p great, .p (.int 5)] [] = .ok (.p (.tup [.int 7, .int 0])) [] := by kernel_rfl
theorem cl2 : C 15 6 [.p kn0, .p great] [] = .ok (.p great) [] := by kernel_rfl
theorem cl3 : C 15 6 [.p (.tup [.tup [.int 2, .int 2], .int 1, s_ "stay", .bl false]), .p great] [] = .ok (.p (.int 500000000000000000000000000000)) [] := by kernel_rfl
theorem cl4 : C 15 10 [.p kn0, .p great, .p (.int 7)] [] = .ok (.p (.int 7)) [] := by kernel_rfl
theorem cl5 : C 15 10 [.p kn3, .p great, .p (.int 999999999999999999999999999999)] [] = .ok (.p (.int 666666666666666666666666666666)) [] := by kernel_rfl
theorem cl6 : C 15 10 [.p (.tup [.tup [.int (-1)], .int 1, s_ "stay", .bl false]), .p great, .p (.int 1)] [] = .ok (.p (.int 999999999999999999999999999999)) [] := by kernel_rfl
theorem cl7 : C 15 10 [.p (.tup [.tup [.int 3], .int 1, s_ "stay", .bl false]), .p great, .p (.int 2)] [] = .ok (.p (.int 333333333333333333333333333334)) [] := by kernel_rfl
theorem cl8 : C 15 9 [] [] = .ok (.p (.lst [kn0, .tup [s_ "up", .int 1, s_ "stay", .bl false], .tup [s_ "bounce", .int 1, s_ "wait", .bl false], kn3, .tup [s_ "pressed", .int 2, s_ "restart", .bl true]])) [] := by kernel_rfl
end KG

set_option Elab.async false
set_option linter.all false
set_option maxRecDepth 100000
set_option maxHeartbeats 4000000
set_option exponentiation.threshold 5000
namespace KG
open Ip
def turnB : List CS := match F_law_k04.body with
  | .for_ _ _ [_, .for_ _ _ b] :: _ => b
  | _ => []
/-- one of the turns -/
theorem law_turn (i : Nat) (M : Hm) (v : Vat i M) (ns : List Int) (k : Int) (x3 x4 x5 x6 x7 x8 x9 x10 : Option U) (Q : Post)
    (hQ : ∀ y6 y7 y8 y9 y10 M', Drew i M M' → Q.nx [some (.p (.scr (ns.map .int))), some (i_ k), some (.ref i), x3, x4, x5, y6, y7, y8, y9, y10] M') :
    (evB (C 15) CN 100000 turnB [some (.p (.scr (ns.map .int))), some (i_ k), some (.ref i), x3, x4, x5, x6, x7, x8, x9, x10] M).sat Q := by
  unfold turnB F_law_k04
  obtain ⟨m, M1, e1, hm, d1⟩ := law_machine 12 i M v
  obtain ⟨r1, M2, e2, a1, b1, d2⟩ := under 14 i 999 M1 d1.vat (by decide) (by decide)
  obtain ⟨r2, M3, e3, a2, b2, d3⟩ := under 14 i 99999 M2 d2.vat (by decide) (by decide)
  obtain ⟨w, M4, e4, hw, d4⟩ := some_ 13 i [.int (1000000000000000000000000000000 - r1), .int (100000000000000000000000000000 + r2), .int 252000000000000000000000] M3 d3.vat (by simp) (by simp)
  have hn : ∃ n : Int, w = .int n ∧ 252000000000000000000000 ≤ n ∧ n ≤ 10 ^ 30 := by
    simp only [List.mem_cons, List.not_mem_nil, or_false] at hw
    rcases hw with rfl | rfl | rfl
    · exact ⟨_, rfl, by omega, by omega⟩
    · exact ⟨_, rfl, by omega, by omega⟩
    · exact ⟨_, rfl, by omega, by omega⟩
  obtain ⟨n, rfl, n1, n2⟩ := hn
  have hmm : mulOk 2520 100000000000000000000 = true := by decide
  have mP : m.P = .tup [m.pat.P, .int m.oct, s_ m.chg.s, .bl m.lat] := rfl
  simp only []
  unfold C i_ at *
  (rw [sat_cons]; simp [int_beq, evU, evO, Ip.R.of, rd, rdAll, truP, callD, asPs, itsOf, atP, binP, addP, subP, mulP, modP, fdvP, isiU, putU, put, Ip.put.puts, setA, cmpP, eqC, neC, eqOk, scl2, eqP, eqPs, intC, mk, bltP, lenP, minP, maxP, intP, absP, sat_nil, qE_var, qE_cst, qE_con, qE_glb, qE_tup, qE_lst, qE_bin, qE_neg, qE_cmp, qE_cmp2, qE_and, qE_or, qE_not, qE_ife, qE_call, qE_blt, qE_isi, qE_idx, qE_slc, qE_rev, qE_ofr, qE_frz, qS_set, qS_par, qS_par3, qS_parT, qS_sub, qS_expr, qS_app, qS_ife, qS_ret, qS_rais, qS_brk, qS_cont, e1])
  (rw [sat_cons]; simp [int_beq, evU, evO, Ip.R.of, rd, rdAll, truP, callD, asPs, itsOf, atP, binP, addP, subP, mulP, modP, fdvP, isiU, putU, put, Ip.put.puts, setA, cmpP, eqC, neC, eqOk, scl2, eqP, eqPs, intC, mk, bltP, lenP, minP, maxP, intP, absP, sat_nil, qE_var, qE_cst, qE_con, qE_glb, qE_tup, qE_lst, qE_bin, qE_neg, qE_cmp, qE_cmp2, qE_and, qE_or, qE_not, qE_ife, qE_call, qE_blt, qE_isi, qE_idx, qE_slc, qE_rev, qE_ofr, qE_frz, qS_set, qS_par, qS_par3, qS_parT, qS_sub, qS_expr, qS_app, qS_ife, qS_ret, qS_rais, qS_brk, qS_cont, powP, e2, e3, e4, hmm])
  obtain ⟨p1, M5, e5, a5, b5, d5⟩ := under 14 i 99 M4 d4.vat (by decide) (by decide)
  obtain ⟨p2, M6, e6, a6, b6, d6⟩ := under 14 i 9 M5 d5.vat (by decide) (by decide)
  obtain ⟨p3, M7, e7, a7, b7, d7⟩ := under 14 i 99 M6 d6.vat (by decide) (by decide)
  have dd := (((((d1.trans d2).trans d3).trans d4).trans d5).trans d6).trans d7
  unfold C i_ at *
  have hi : evI (callN FN CN 100000 15) CN (.seq (.lst false [(.call true 3 [(.var 2), (.cst (.int (99)))]), (.bin false .sub (.var 7) (.cst (.int (1)))), (.bin false .add (.var 7) (.call true 3 [(.var 2), (.cst (.int (9)))])), (.bin false .sub (.bin false .pow (.cst (.int (10))) (.cst (.int (30)))) (.call true 3 [(.var 2), (.cst (.int (99)))]))]))
      [some (.p (.scr (ns.map .int))), some (.p (.int k)), some (.ref i), x3, x4, x5, some (.p m.P), some (.p (.int n)), x8, x9, x10] M4 = .ok ([p1, n - 1, n + p2, 1000000000000000000000000000000 - p3].map .int) M7 := by
    refine ev_seq (p := .lst ([p1, n - 1, n + p2, 1000000000000000000000000000000 - p3].map .int)) ?_ rfl
    simp [int_beq, evU, evO, Ip.R.of, rd, rdAll, truP, callD, asPs, itsOf, atP, binP, addP, subP, mulP, modP, fdvP, isiU, putU, put, Ip.put.puts, setA, cmpP, eqC, neC, eqOk, scl2, eqP, eqPs, intC, mk, bltP, lenP, minP, maxP, intP, absP, sat_nil, qE_var, qE_cst, qE_con, qE_glb, qE_tup, qE_lst, qE_bin, qE_neg, qE_cmp, qE_cmp2, qE_and, qE_or, qE_not, qE_ife, qE_call, qE_blt, qE_isi, qE_idx, qE_slc, qE_rev, qE_ofr, qE_frz, qS_set, qS_par, qS_par3, qS_parT, qS_sub, qS_expr, qS_app, qS_ife, qS_ret, qS_rais, qS_brk, qS_cont, powP, e5, e6, e7]
  rw [sat_cons]
  refine sat_forM [p1, n - 1, n + p2, 1000000000000000000000000000000 - p3] (fun pre ρ M' => M' = M7 ∧ ∃ y8 y10, ρ = [some (.p (.scr (ns.map .int))), some (.p (.int k)), some (.ref i), x3, x4, x5, some (.p m.P), some (.p (.int n)), y8, x9, y10]) hi ⟨rfl, x8, x10, rfl⟩ ?_ ?_
  · rintro pre q post ρ M' hq ⟨rfl, y8, y10, rfl⟩
    refine ⟨by simp, ?_⟩
    have hmem : q ∈ [p1, n - 1, n + p2, 1000000000000000000000000000000 - p3] := by rw [hq]; simp
    have q0 : 0 ≤ q := by
      simp only [List.mem_cons, List.not_mem_nil, or_false] at hmem
      rcases hmem with rfl | rfl | rfl | rfl <;> omega
    generalize ht : (if 1000000000000000000000000000000 < q then 1000000000000000000000000000000 else q) = t
    have t0 : 0 ≤ t := by rw [← ht]; split <;> omega
    have t1 : t ≤ 10 ^ 30 := by rw [← ht]; split <;> omega
    obtain ⟨num, f1, f2, g1, g2⟩ := note_both 8 m hm n t (by omega) n2 t0 t1
    have hnz : n ≠ 0 := by omega
    have hmo : mulOk n m.oct = true := mul_small _ _ (by have := hm.o2; omega)
    have hdv : divOk num n = true := div_big (by omega) (lt4000 (by omega) (by omega)) (lt4000 (by omega) (by omega))
    unfold C i_ at *
    (rw [sat_cons]; simp [int_beq, evU, evO, Ip.R.of, rd, rdAll, truP, callD, asPs, itsOf, atP, binP, addP, subP, mulP, modP, fdvP, isiU, putU, put, Ip.put.puts, setA, cmpP, eqC, neC, eqOk, scl2, eqP, eqPs, intC, mk, bltP, lenP, minP, maxP, intP, absP, sat_nil, qE_var, qE_cst, qE_con, qE_glb, qE_tup, qE_lst, qE_bin, qE_neg, qE_cmp, qE_cmp2, qE_and, qE_or, qE_not, qE_ife, qE_call, qE_blt, qE_isi, qE_idx, qE_slc, qE_rev, qE_ofr, qE_frz, qS_set, qS_par, qS_par3, qS_parT, qS_sub, qS_expr, qS_app, qS_ife, qS_ret, qS_rais, qS_brk, qS_cont, powP, ht])
    (rw [sat_cons]; simp [int_beq, evU, evO, Ip.R.of, rd, rdAll, truP, callD, asPs, itsOf, atP, binP, addP, subP, mulP, modP, fdvP, isiU, putU, put, Ip.put.puts, setA, cmpP, eqC, neC, eqOk, scl2, eqP, eqPs, intC, mk, bltP, lenP, minP, maxP, intP, absP, sat_nil, qE_var, qE_cst, qE_con, qE_glb, qE_tup, qE_lst, qE_bin, qE_neg, qE_cmp, qE_cmp2, qE_and, qE_or, qE_not, qE_ife, qE_call, qE_blt, qE_isi, qE_idx, qE_slc, qE_rev, qE_ofr, qE_frz, qS_set, qS_par, qS_par3, qS_parT, qS_sub, qS_expr, qS_app, qS_ife, qS_ret, qS_rais, qS_brk, qS_cont, hmo, f1, mP])
    rw [sat_one]
    simp only [mP] at f2
    simp [int_beq, evU, evO, Ip.R.of, rd, rdAll, truP, callD, asPs, itsOf, atP, binP, addP, subP, mulP, modP, fdvP, isiU, putU, put, Ip.put.puts, setA, cmpP, eqC, neC, eqOk, scl2, eqP, eqPs, intC, mk, bltP, lenP, minP, maxP, intP, absP, sat_nil, qE_var, qE_cst, qE_con, qE_glb, qE_tup, qE_lst, qE_bin, qE_neg, qE_cmp, qE_cmp2, qE_and, qE_or, qE_not, qE_ife, qE_call, qE_blt, qE_isi, qE_idx, qE_slc, qE_rev, qE_ofr, qE_frz, qS_set, qS_par, qS_par3, qS_parT, qS_sub, qS_expr, qS_app, qS_ife, qS_ret, qS_rais, qS_brk, qS_cont, f2, hnz, hdv, mP, shp, shps]
  · rintro ρ M' ⟨rfl, y8, y10, rfl⟩
    rw [wn_nx]
    obtain ⟨q, g1, g2⟩ := heard_both 8 m hm n (by omega) n2
    unfold C i_ at g1 g2
    (rw [sat_cons]; simp [int_beq, evU, evO, Ip.R.of, rd, rdAll, truP, callD, asPs, itsOf, atP, binP, addP, subP, mulP, modP, fdvP, isiU, putU, put, Ip.put.puts, setA, cmpP, eqC, neC, eqOk, scl2, eqP, eqPs, intC, mk, bltP, lenP, minP, maxP, intP, absP, sat_nil, qE_var, qE_cst, qE_con, qE_glb, qE_tup, qE_lst, qE_bin, qE_neg, qE_cmp, qE_cmp2, qE_and, qE_or, qE_not, qE_ife, qE_call, qE_blt, qE_isi, qE_idx, qE_slc, qE_rev, qE_ofr, qE_frz, qS_set, qS_par, qS_par3, qS_parT, qS_sub, qS_expr, qS_app, qS_ife, qS_ret, qS_rais, qS_brk, qS_cont, g1, g2])
    obtain ⟨s1, M8, e8, a8, b8, d8⟩ := under 14 i 12 M' d7.vat (by decide) (by decide)
    obtain ⟨s2, M9, e9, a9, b9, d9⟩ := under 14 i 12 M8 d8.vat (by decide) (by decide)
    obtain ⟨s3, M10, e10, a10, b10, d10⟩ := under 14 i 9 M9 d9.vat (by decide) (by decide)
    unfold C i_ at *
    have h2 : divOk n 2 = true := div_small _ _ (by decide) (by decide)
    have hi2 : evI (callN FN CN 100000 15) CN (.seq (.lst false [(.call true 3 [(.var 2), (.cst (.int (12)))]), (.bin false .sub (.bin false .sub (.var 7) (.cst (.int (1)))) (.call true 3 [(.var 2), (.cst (.int (12)))])), (.bin false .add (.bin false .fdiv (.var 7) (.cst (.int (2)))) (.call true 3 [(.var 2), (.cst (.int (9)))]))]))
        [some (.p (.scr (ns.map .int))), some (.p (.int k)), some (.ref i), x3, x4, x5, some (.p m.P), some (.p (.int n)), y8, x9, y10] M' = .ok ([s1, n - 1 - s2, n / 2 + s3].map .int) M10 := by
      refine ev_seq (p := .lst ([s1, n - 1 - s2, n / 2 + s3].map .int)) ?_ rfl
      simp [int_beq, evU, evO, Ip.R.of, rd, rdAll, truP, callD, asPs, itsOf, atP, binP, addP, subP, mulP, modP, fdvP, isiU, putU, put, Ip.put.puts, setA, cmpP, eqC, neC, eqOk, scl2, eqP, eqPs, intC, mk, bltP, lenP, minP, maxP, intP, absP, sat_nil, qE_var, qE_cst, qE_con, qE_glb, qE_tup, qE_lst, qE_bin, qE_neg, qE_cmp, qE_cmp2, qE_and, qE_or, qE_not, qE_ife, qE_call, qE_blt, qE_isi, qE_idx, qE_slc, qE_rev, qE_ofr, qE_frz, qS_set, qS_par, qS_par3, qS_parT, qS_sub, qS_expr, qS_app, qS_ife, qS_ret, qS_rais, qS_brk, qS_cont, e8, e9, e10, h2, fdiv_pos (show (0 : Int) < 2 by decide)]
    rw [sat_one]
    refine sat_forM [s1, n - 1 - s2, n / 2 + s3] (fun pre ρ M' => M' = M10 ∧ ∃ y9, ρ = [some (.p (.scr (ns.map .int))), some (.p (.int k)), some (.ref i), x3, x4, x5, some (.p m.P), some (.p (.int n)), y8, y9, y10]) hi2 ⟨rfl, x9, rfl⟩ ?_ ?_
    · rintro pre q post ρ M2 hq ⟨rfl, y9, rfl⟩
      refine ⟨by simp, ?_⟩
      have hmem : q ∈ [s1, n - 1 - s2, n / 2 + s3] := by rw [hq]; simp
      have q0 : 0 ≤ q ∧ q ≤ n - 1 := by
        simp only [List.mem_cons, List.not_mem_nil, or_false] at hmem
        rcases hmem with rfl | rfl | rfl <;> omega
      have f := law_first 7 m hm n q (by omega) n2 q0.1 q0.2
      unfold C i_ at f
      rw [sat_one]
      simp [int_beq, evU, evO, Ip.R.of, rd, rdAll, truP, callD, asPs, itsOf, atP, binP, addP, subP, mulP, modP, fdvP, isiU, putU, put, Ip.put.puts, setA, cmpP, eqC, neC, eqOk, scl2, eqP, eqPs, intC, mk, bltP, lenP, minP, maxP, intP, absP, sat_nil, qE_var, qE_cst, qE_con, qE_glb, qE_tup, qE_lst, qE_bin, qE_neg, qE_cmp, qE_cmp2, qE_and, qE_or, qE_not, qE_ife, qE_call, qE_blt, qE_isi, qE_idx, qE_slc, qE_rev, qE_ofr, qE_frz, qS_set, qS_par, qS_par3, qS_parT, qS_sub, qS_expr, qS_app, qS_ife, qS_ret, qS_rais, qS_brk, qS_cont, f]
    · rintro ρ M2 ⟨rfl, y9, rfl⟩
      exact hQ _ _ _ _ _ _ (((dd.trans d8).trans d9).trans d10)
theorem yes04 : ∀ (ps : List P) (q : P), (∃ ns : List Int, ps = ns.map .int ∧ ns.length ≤ 63) → q = .scr ps → ∃ M, callN FN CN 100000 16 11 [.p q] [] = .ok (.p (.bl true)) M := by
  rintro ps q ⟨ns, rfl, hl⟩ rfl
  refine ⟨[], ?_⟩
  refine callN_sat (F := F_law_k04) rfl rfl rfl ?_
  have hb : ∀ b, F_law_k04.body = b → (evB (C 15) CN 100000 b [some (.p (.scr (ns.map .int))), none, none, none, none, none, none, none, none, none, none] []).sat (Rt (.bl true)) := by
    intro b hb
    unfold F_law_k04 at hb
    subst hb
    rw [sat_cons]
    refine sat_forR (m := max 6 (min 13 ns.length)) (fun k ρ M => ∃ x1 x2 x3 x6 x7 x8 x9 x10, ρ = [some (.p (.scr (ns.map .int))), x1, x2, x3, none, none, x6, x7, x8, x9, x10]) (M1 := []) (ev_rng (m := (max 6 (min 13 ns.length) : Nat)) ?_ (by omega) (by omega)) ⟨_, _, _, _, _, _, _, _, rfl⟩ ?_ ?_
    · have e1 : (if (6 : Int) < (if (ns.length : Int) < 13 then (ns.length : Int) else 13) then (if (ns.length : Int) < 13 then (ns.length : Int) else 13) else 6) = ((max 6 (min 13 ns.length) : Nat) : Int) := by
        split <;> split at * <;> omega
      simp [int_beq, evU, evO, Ip.R.of, rd, rdAll, truP, callD, asPs, itsOf, atP, binP, addP, subP, mulP, modP, fdvP, isiU, putU, put, Ip.put.puts, setA, cmpP, eqC, neC, eqOk, scl2, eqP, eqPs, intC, mk, bltP, lenP, minP, maxP, intP, absP, sat_nil, qE_var, qE_cst, qE_con, qE_glb, qE_tup, qE_lst, qE_bin, qE_neg, qE_cmp, qE_cmp2, qE_and, qE_or, qE_not, qE_ife, qE_call, qE_blt, qE_isi, qE_idx, qE_slc, qE_rev, qE_ofr, qE_frz, qS_set, qS_par, qS_par3, qS_parT, qS_sub, qS_expr, qS_app, qS_ife, qS_ret, qS_rais, qS_brk, qS_cont, e1]
    · rintro k ρ M hk ⟨x1, x2, x3, x6, x7, x8, x9, x10, rfl⟩
      refine ⟨by simp, ?_⟩
      obtain ⟨M1, e1, v1, l1, _⟩ := vat_new 14 k ns M
      unfold C i_ at e1
      unfold C
      (rw [sat_cons]; simp [int_beq, evU, evO, Ip.R.of, rd, rdAll, truP, callD, asPs, itsOf, atP, binP, addP, subP, mulP, modP, fdvP, isiU, putU, put, Ip.put.puts, setA, cmpP, eqC, neC, eqOk, scl2, eqP, eqPs, intC, mk, bltP, lenP, minP, maxP, intP, absP, sat_nil, qE_var, qE_cst, qE_con, qE_glb, qE_tup, qE_lst, qE_bin, qE_neg, qE_cmp, qE_cmp2, qE_and, qE_or, qE_not, qE_ife, qE_call, qE_blt, qE_isi, qE_idx, qE_slc, qE_rev, qE_ofr, qE_frz, qS_set, qS_par, qS_par3, qS_parT, qS_sub, qS_expr, qS_app, qS_ife, qS_ret, qS_rais, qS_brk, qS_cont, e1])
      rw [sat_one]
      refine sat_forR (m := 4) (fun t ρ M' => Vat M.length M' ∧ ∃ x3 x6 x7 x8 x9 x10, ρ = [some (.p (.scr (ns.map .int))), some (i_ k), some (.ref M.length), x3, none, none, x6, x7, x8, x9, x10]) (M1 := M1) (ev_rng (m := 4) (by simp [int_beq, evU, evO, Ip.R.of, rd, rdAll, truP, callD, asPs, itsOf, atP, binP, addP, subP, mulP, modP, fdvP, isiU, putU, put, Ip.put.puts, setA, cmpP, eqC, neC, eqOk, scl2, eqP, eqPs, intC, mk, bltP, lenP, minP, maxP, intP, absP, sat_nil, qE_var, qE_cst, qE_con, qE_glb, qE_tup, qE_lst, qE_bin, qE_neg, qE_cmp, qE_cmp2, qE_and, qE_or, qE_not, qE_ife, qE_call, qE_blt, qE_isi, qE_idx, qE_slc, qE_rev, qE_ofr, qE_frz, qS_set, qS_par, qS_par3, qS_parT, qS_sub, qS_expr, qS_app, qS_ife, qS_ret, qS_rais, qS_brk, qS_cont]) (by decide) (by decide)) ⟨v1, _, _, _, _, _, _, rfl⟩ ?_ ?_
      · rintro t ρ M' ht ⟨v2, x3, x6, x7, x8, x9, x10, rfl⟩
        refine ⟨by simp, ?_⟩
        exact law_turn M.length M' v2 ns k _ _ _ _ _ _ _ _ _ fun y6 y7 y8 y9 y10 M2 d => ⟨d.vat, _, _, _, _, _, _, rfl⟩
      · rintro ρ M' ⟨v2, x3, x6, x7, x8, x9, x10, rfl⟩
        exact ⟨_, _, _, _, _, _, _, _, rfl⟩
    · rintro ρ M ⟨x1, x2, x3, x6, x7, x8, x9, x10, rfl⟩
      rw [wn_nx]
      have k1 := cl1
      have k2 := cl2
      have k3 := cl3
      have k4 := cl4
      have k5 := cl5
      have k6 := cl6
      have k7 := cl7
      have k8 := cl8
      have m1 : mulOk 5 100000000000000000000000000000 = true := by decide
      have m2 : mulOk 2 999999999999999999999999999999 = true := by decide
      have m3 : divOk 1999999999999999999999999999998 3 = true := by decide
      have m4 : divOk 1000000000000000000000000000002 3 = true := by decide
      unfold C at *
      (rw [sat_cons]; simp [int_beq, evU, evO, Ip.R.of, rd, rdAll, truP, callD, asPs, itsOf, atP, binP, addP, subP, mulP, modP, fdvP, isiU, putU, put, Ip.put.puts, setA, cmpP, eqC, neC, eqOk, scl2, eqP, eqPs, intC, mk, bltP, lenP, minP, maxP, intP, absP, sat_nil, qE_var, qE_cst, qE_con, qE_glb, qE_tup, qE_lst, qE_bin, qE_neg, qE_cmp, qE_cmp2, qE_and, qE_or, qE_not, qE_ife, qE_call, qE_blt, qE_isi, qE_idx, qE_slc, qE_rev, qE_ofr, qE_frz, qS_set, qS_par, qS_par3, qS_parT, qS_sub, qS_expr, qS_app, qS_ife, qS_ret, qS_rais, qS_brk, qS_cont, powP, k8])
      (rw [sat_cons]; simp [int_beq, evU, evO, Ip.R.of, rd, rdAll, truP, callD, asPs, itsOf, atP, binP, addP, subP, mulP, modP, fdvP, isiU, putU, put, Ip.put.puts, setA, cmpP, eqC, neC, eqOk, scl2, eqP, eqPs, intC, mk, bltP, lenP, minP, maxP, intP, absP, sat_nil, qE_var, qE_cst, qE_con, qE_glb, qE_tup, qE_lst, qE_bin, qE_neg, qE_cmp, qE_cmp2, qE_and, qE_or, qE_not, qE_ife, qE_call, qE_blt, qE_isi, qE_idx, qE_slc, qE_rev, qE_ofr, qE_frz, qS_set, qS_par, qS_par3, qS_parT, qS_sub, qS_expr, qS_app, qS_ife, qS_ret, qS_rais, qS_brk, qS_cont, powP, k1, k2, k3, k8, m1, shp, shps])
      (rw [sat_cons]; simp [int_beq, evU, evO, Ip.R.of, rd, rdAll, truP, callD, asPs, itsOf, atP, binP, addP, subP, mulP, modP, fdvP, isiU, putU, put, Ip.put.puts, setA, cmpP, eqC, neC, eqOk, scl2, eqP, eqPs, intC, mk, bltP, lenP, minP, maxP, intP, absP, sat_nil, qE_var, qE_cst, qE_con, qE_glb, qE_tup, qE_lst, qE_bin, qE_neg, qE_cmp, qE_cmp2, qE_and, qE_or, qE_not, qE_ife, qE_call, qE_blt, qE_isi, qE_idx, qE_slc, qE_rev, qE_ofr, qE_frz, qS_set, qS_par, qS_par3, qS_parT, qS_sub, qS_expr, qS_app, qS_ife, qS_ret, qS_rais, qS_brk, qS_cont, k4, k5, k8, m2, m3])
      rw [sat_one]
      simp [int_beq, evU, evO, Ip.R.of, rd, rdAll, truP, callD, asPs, itsOf, atP, binP, addP, subP, mulP, modP, fdvP, isiU, putU, put, Ip.put.puts, setA, cmpP, eqC, neC, eqOk, scl2, eqP, eqPs, intC, mk, bltP, lenP, minP, maxP, intP, absP, sat_nil, qE_var, qE_cst, qE_con, qE_glb, qE_tup, qE_lst, qE_bin, qE_neg, qE_cmp, qE_cmp2, qE_and, qE_or, qE_not, qE_ife, qE_call, qE_blt, qE_isi, qE_idx, qE_slc, qE_rev, qE_ofr, qE_frz, qS_set, qS_par, qS_par3, qS_parT, qS_sub, qS_expr, qS_app, qS_ife, qS_ret, qS_rais, qS_brk, qS_cont, k6, k7, m4]
  exact hb _ rfl
end KG

set_option Elab.async false
set_option linter.all false
set_option maxRecDepth 100000
set_option maxHeartbeats 0
namespace Kk04
open PySem PySem.Spec PyProof.Rows L2 Ip
def T : Tb := { names := KG.names, cons := KG.cons.map (·.1), co := [0, 1, 2, 3, 4, 5], fns := [11, 0, 1, 2, 3, 4, 5, 6, 7, 8, 9, 10, 12, 13, 14, 15, 16, 17, 18, 19, 20, 22, 23, 25], excs := [21, 24], free := [(Str.ofString "range"), (Str.ofString "max"), (Str.ofString "min"), (Str.ofString "len"), (Str.ofString "abs"), (Str.ofString "int"), (Str.ofString "tuple"), (Str.ofString "isinstance"), (Str.ofString "sum"), (Str.ofString "str"), (Str.ofString "sorted"), (Str.ofString "set"), (Str.ofString "enumerate"), (Str.ofString "bool"), (Str.ofString "all")] }
def top (i : Nat) : Stmt := PySem.Challenge.pw_heldkeys_k04_whole_thirty_figures_of_key.main.body.getD i (.Pass ⟨0, 0, 0, 0⟩)
def D_law : Fdef := { g := 11, st := top 36, N := [(Str.ofString "script"), (Str.ofString "k"), (Str.ofString "vat"), (Str.ofString "turn"), (Str.ofString "great"), (Str.ofString "moves"), (Str.ofString "one"), (Str.ofString "n"), (Str.ofString "place"), (Str.ofString "rank"), (Str.ofString "number")], np := 1 }
def D__law_vat : Fdef := { g := 0, st := top 27, N := [(Str.ofString "script"), (Str.ofString "k"), (Str.ofString "cell")], np := 2 }
def D__law_machine : Fdef := { g := 1, st := top 30, N := [(Str.ofString "vat"), (Str.ofString "word"), (Str.ofString "change"), (Str.ofString "turn")], np := 1 }
def D__law_some : Fdef := { g := 2, st := top 29, N := [(Str.ofString "vat"), (Str.ofString "things")], np := 2 }
def D__law_under : Fdef := { g := 3, st := top 28, N := [(Str.ofString "vat"), (Str.ofString "many"), (Str.ofString "wide"), (Str.ofString "found")], np := 2 }
def D__law_rung : Fdef := { g := 4, st := top 32, N := [(Str.ofString "pattern"), (Str.ofString "rungs"), (Str.ofString "place"), (Str.ofString "size"), (Str.ofString "rest"), (Str.ofString "turns")], np := 3 }
def D_note_at : Fdef := { g := 5, st := top 23, N := [(Str.ofString "machine"), (Str.ofString "n"), (Str.ofString "tick"), (Str.ofString "number")], np := 3 }
def D_heard : Fdef := { g := 6, st := top 24, N := [(Str.ofString "machine"), (Str.ofString "n"), (Str.ofString "some"), (Str.ofString "rest"), (Str.ofString "pattern"), (Str.ofString "rungs"), (Str.ofString "divisor"), (Str.ofString "found"), (Str.ofString "ahead"), (Str.ofString "octave"), (Str.ofString "one")], np := 2 }
def D__law_heard : Fdef := { g := 7, st := top 34, N := [(Str.ofString "machine"), (Str.ofString "n"), (Str.ofString "at"), (Str.ofString "part_so"), (Str.ofString "rests"), (Str.ofString "octave"), (Str.ofString "rest")], np := 2 }
def D__law_first_right : Fdef := { g := 8, st := top 35, N := [(Str.ofString "machine"), (Str.ofString "n"), (Str.ofString "rank"), (Str.ofString "part_so"), (Str.ofString "meant"), (Str.ofString "at"), (Str.ofString "told"), (Str.ofString "pattern"), (Str.ofString "rungs"), (Str.ofString "total"), (Str.ofString "size"), (Str.ofString "octave"), (Str.ofString "way"), (Str.ofString "more"), (Str.ofString "turns")], np := 3 }
def D__law_known : Fdef := { g := 9, st := top 31, N := [(Str.ofString "some")], np := 0 }
def D_first_heard : Fdef := { g := 10, st := top 25, N := [(Str.ofString "machine"), (Str.ofString "n"), (Str.ofString "rank"), (Str.ofString "some"), (Str.ofString "pattern"), (Str.ofString "octaves"), (Str.ofString "octave"), (Str.ofString "place")], np := 3 }
def D_need_both : Fdef := { g := 12, st := top 22, N := [(Str.ofString "machine"), (Str.ofString "n")], np := 2 }
def D_need_number : Fdef := { g := 13, st := top 15, N := [(Str.ofString "number"), (Str.ofString "low"), (Str.ofString "high")], np := 3 }
def D_rung_at : Fdef := { g := 14, st := top 16, N := [(Str.ofString "pattern"), (Str.ofString "rungs"), (Str.ofString "place"), (Str.ofString "rest"), (Str.ofString "turns")], np := 3 }
def D_common : Fdef := { g := 15, st := top 18, N := [(Str.ofString "one"), (Str.ofString "other")], np := 2 }
def D_sums_of : Fdef := { g := 16, st := top 20, N := [(Str.ofString "steps"), (Str.ofString "at")], np := 1 }
def D__law_common : Fdef := { g := 17, st := top 33, N := [(Str.ofString "one"), (Str.ofString "other")], np := 2 }
def D_first_place : Fdef := { g := 18, st := top 21, N := [(Str.ofString "steps"), (Str.ofString "rungs"), (Str.ofString "number"), (Str.ofString "divisor"), (Str.ofString "total"), (Str.ofString "found"), (Str.ofString "at"), (Str.ofString "ahead"), (Str.ofString "size"), (Str.ofString "turns")], np := 3 }
def D_need_machine : Fdef := { g := 19, st := top 14, N := [(Str.ofString "machine")], np := 1 }
def D_is_whole : Fdef := { g := 20, st := top 11, N := [(Str.ofString "value"), (Str.ofString "low"), (Str.ofString "high")], np := 3 }
def D_inverse : Fdef := { g := 22, st := top 19, N := [(Str.ofString "value"), (Str.ofString "modulus"), (Str.ofString "low"), (Str.ofString "high"), (Str.ofString "mine"), (Str.ofString "yours"), (Str.ofString "many")], np := 2 }
def D_is_good : Fdef := { g := 23, st := top 13, N := [(Str.ofString "value"), (Str.ofString "pattern"), (Str.ofString "octaves"), (Str.ofString "change"), (Str.ofString "latch")], np := 1 }
def D_is_pattern : Fdef := { g := 25, st := top 12, N := [(Str.ofString "value"), (Str.ofString "step")], np := 1 }
def prg : Prg := { T := T, cons := KG.cons, FN := KG.FN, W := 100000, D := [D_law, D__law_vat, D__law_machine, D__law_some, D__law_under, D__law_rung, D_note_at, D_heard, D__law_heard, D__law_first_right, D__law_known, D_first_heard, D_need_both, D_need_number, D_rung_at, D_common, D_sums_of, D__law_common, D_first_place, D_need_machine, D_is_whole, D_inverse, D_is_good, D_is_pattern] }
theorem bd_law : D_law.Bd T := fun _ _ _ _ _ _ us hl => match us, hl with | [_], _ => rfl
theorem bd__law_vat : D__law_vat.Bd T := fun _ _ _ _ _ _ us hl => match us, hl with | [_, _], _ => rfl
theorem bd__law_machine : D__law_machine.Bd T := fun _ _ _ _ _ _ us hl => match us, hl with | [_], _ => rfl
theorem bd__law_some : D__law_some.Bd T := fun _ _ _ _ _ _ us hl => match us, hl with | [_, _], _ => rfl
theorem bd__law_under : D__law_under.Bd T := fun _ _ _ _ _ _ us hl => match us, hl with | [_, _], _ => rfl
theorem bd__law_rung : D__law_rung.Bd T := fun _ _ _ _ _ _ us hl => match us, hl with | [_, _, _], _ => rfl
theorem bd_note_at : D_note_at.Bd T := fun _ _ _ _ _ _ us hl => match us, hl with | [_, _, _], _ => rfl
theorem bd_heard : D_heard.Bd T := fun _ _ _ _ _ _ us hl => match us, hl with | [_, _], _ => rfl
theorem bd__law_heard : D__law_heard.Bd T := fun _ _ _ _ _ _ us hl => match us, hl with | [_, _], _ => rfl
theorem bd__law_first_right : D__law_first_right.Bd T := fun _ _ _ _ _ _ us hl => match us, hl with | [_, _, _], _ => rfl
theorem bd__law_known : D__law_known.Bd T := fun _ _ _ _ _ _ us hl => match us, hl with | [], _ => rfl
theorem bd_first_heard : D_first_heard.Bd T := fun _ _ _ _ _ _ us hl => match us, hl with | [_, _, _], _ => rfl
theorem bd_need_both : D_need_both.Bd T := fun _ _ _ _ _ _ us hl => match us, hl with | [_, _], _ => rfl
theorem bd_need_number : D_need_number.Bd T := fun _ _ _ _ _ _ us hl => match us, hl with | [_, _, _], _ => rfl
theorem bd_rung_at : D_rung_at.Bd T := fun _ _ _ _ _ _ us hl => match us, hl with | [_, _, _], _ => rfl
theorem bd_common : D_common.Bd T := fun _ _ _ _ _ _ us hl => match us, hl with | [_, _], _ => rfl
theorem bd_sums_of : D_sums_of.Bd T := fun _ _ _ _ _ _ us hl => match us, hl with | [_], _ => rfl
theorem bd__law_common : D__law_common.Bd T := fun _ _ _ _ _ _ us hl => match us, hl with | [_, _], _ => rfl
theorem bd_first_place : D_first_place.Bd T := fun _ _ _ _ _ _ us hl => match us, hl with | [_, _, _], _ => rfl
theorem bd_need_machine : D_need_machine.Bd T := fun _ _ _ _ _ _ us hl => match us, hl with | [_], _ => rfl
theorem bd_is_whole : D_is_whole.Bd T := fun _ _ _ _ _ _ us hl => match us, hl with | [_, _, _], _ => rfl
theorem bd_inverse : D_inverse.Bd T := fun _ _ _ _ _ _ us hl => match us, hl with | [_, _], _ => rfl
theorem bd_is_good : D_is_good.Bd T := fun _ _ _ _ _ _ us hl => match us, hl with | [_], _ => rfl
theorem bd_is_pattern : D_is_pattern.Bd T := fun _ _ _ _ _ _ us hl => match us, hl with | [_], _ => rfl
theorem bd : All (Fdef.Bd prg.T) prg.D := .cons bd_law (.cons bd__law_vat (.cons bd__law_machine (.cons bd__law_some (.cons bd__law_under (.cons bd__law_rung (.cons bd_note_at (.cons bd_heard (.cons bd__law_heard (.cons bd__law_first_right (.cons bd__law_known (.cons bd_first_heard (.cons bd_need_both (.cons bd_need_number (.cons bd_rung_at (.cons bd_common (.cons bd_sums_of (.cons bd__law_common (.cons bd_first_place (.cons bd_need_machine (.cons bd_is_whole (.cons bd_inverse (.cons bd_is_good (.cons bd_is_pattern (.nil))))))))))))))))))))))))
def loose : List Str := [(Str.ofString "HeldError"), (Str.ofString "InvalidMachine"), (Str.ofString "InvalidNumber"), (Str.ofString "WORDS"), (Str.ofString "CHANGES"), (Str.ofString "MOST_STEPS"), (Str.ofString "WIDEST"), (Str.ofString "MOST_OCTAVES"), (Str.ofString "FAR"), (Str.ofString "is_whole"), (Str.ofString "is_pattern"), (Str.ofString "is_good"), (Str.ofString "need_machine"), (Str.ofString "need_number"), (Str.ofString "rung_at"), (Str.ofString "common"), (Str.ofString "inverse"), (Str.ofString "sums_of"), (Str.ofString "first_place"), (Str.ofString "need_both"), (Str.ofString "note_at"), (Str.ofString "heard"), (Str.ofString "first_heard"), (Str.ofString "_law_vat"), (Str.ofString "_law_under"), (Str.ofString "_law_some"), (Str.ofString "_law_machine"), (Str.ofString "_law_known"), (Str.ofString "_law_rung"), (Str.ofString "_law_common"), (Str.ofString "_law_heard"), (Str.ofString "_law_first_right")]
-- law at 36, id 11
end Kk04

set_option Elab.async false
set_option linter.all false
set_option maxRecDepth 100000
set_option maxHeartbeats 0
namespace Kk04
open PySem PySem.W PySem.Spec PyProof.Rows L2 Ip
abbrev R : PySem.W.OpenRow := PySem.W.OpenLaw.row PySem.Challenge.rw_heldkeys_k04_whole_thirty_figures_of_key
abbrev qv : Program := PySem.W.view R.prog [36]
abbrev hk : PySem.W.Hook := prg.hook 6 [] []
def ob (s : PySem.W.SharedT) : He.AlX := He.obsX 6 (faOf prg.T prg.D) (prg.D.map (toDefD prg.T)) [] [] (fun K => (conL prg.T prg.cons).all (conB K)) (HandSHeadRun.getT s)
theorem ob_eq (s : PySem.W.SharedT) : ob s = hk.obs s.abs := He.obsX_eq (HandSHeadRun.getT_eq s)
theorem run (w : World) : HandSHeadRun.RunEq R qv hk ob 3000 loose w := by
  intro os
  kernel_rfl
theorem okB : prg.okB = true := by decide +kernel
theorem yes : prg.Yes 16 11 63 := KG.yes04
end Kk04
open PySem PySem.W PySem.Calls PyProof.Rows L2 Ip
theorem PySem.Challenge.cw_heldkeys_k04_whole_thirty_figures_of_key_holds : PySem.Challenge.rw_heldkeys_k04_whole_thirty_figures_of_key.Holds := by
  w_on; o_law
  refine HandSHeadRun.head_any (r := Kk04.R) (q := Kk04.qv) (H := Kk04.hk) (ob := Kk04.ob) (M := 3000) (loose := Kk04.loose) (d := HandSHeadRun.topDef Kk04.R.prog 36) (kwd := []) Kk04.ob_eq
    (by kernel_rfl) (fun s => by kernel_rfl) Kk04.run (by kernel_rfl) (by kernel_rfl) (by kernel_rfl) (by rfl) (by first | assumption | decide +kernel) (by decide +kernel) ⟨rfl, rfl, rfl, rfl, rfl, by decide +kernel⟩ ?hw ?hc
  case hw => w_witness2
  case hc =>
    refine L2.walk_ofE (l := PySem.Challenge.rw_heldkeys_k04_whole_thirty_figures_of_key) (n := 63) (k := 16) (x := "script") (CX := Ip.CXe (PySem.Challenge.rw_heldkeys_k04_whole_thirty_figures_of_key).prog) rfl (by decide) (by kernel_rfl) ⟨rfl, by decide, by decide⟩ ?F (fun _ _ _ _ z => Ip.cx_no z)
    case F =>
      intro w mg fa h Y G hmg0
      obtain ⟨K, KX, c⟩ := Y
      have hmg : mg (Kk04.prg.T.nm Kk04.D_law.g) = some (.ref fa) := by
        have e : (HandSHeadRun.topDef Kk04.R.prog 36).name = Kk04.prg.T.nm Kk04.D_law.g := by kernel_rfl
        rw [← e]
        exact hmg0
      exact prg_law (l := PySem.Challenge.rw_heldkeys_k04_whole_thirty_figures_of_key) (d := Kk04.D_law) Kk04.okB Kk04.bd (List.Mem.head _) (by decide +kernel) rfl rfl Kk04.yes KX G c hmg

