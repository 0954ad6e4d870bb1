import PyProof.Rows.All
import Wide.All
import OpenK.AllK
import Wide.FinOn
import HandS.ForMost
import HandS.Evl
import HandS.Wide
import HandS.Flow
import HandS.Deep
import HandS.TupAny
import HandS.IsInst
import HandS.Conv
import HandS.Zip
import HandS.Defaults
import HandS.Rev
import KE.SortData
import HandS.Style
import HandS.Ends
import KE.KStateDown
import HandS.Words
import HandS.Head0
import HandS.Head1
import HandS.Head2
import HandS.HeadEnd
import HandS.HeadHook1
import HandS.HeadHook2
import PySem.Challenge.RW_raingauged_k37_two_buckets_and_lost_tips
set_option Elab.async false
set_option linter.all false
set_option maxRecDepth 100000
set_option maxHeartbeats 4000000
/-! A pure interpreter of a core of Python: values are PyData, lists are values; who may change a list is told by the slot's kind. -/
namespace PP
open PySem
/-- a slot: nothing; a value that is never changed any more; a list of one's own; the list that a caller lends; a dict of one's own -/
inductive Sl where
  | un
  | sh (d : PyData)
  | ow (l : List PyData)
  | io (l : List PyData)
  | od (m : List (PyData × PyData))
  | sc (l : List Int)
abbrev PEnv := List Sl
inductive O2 where
  | add | sub | mul | fdiv | mod | shl | shr | band | bor | eq | ne | lt | le | gt | ge | is | isnt | isin | notin | ix
  deriving DecidableEq
inductive O1 where
  | neg | not | truth | sorted | len | sum | abs | tuple | list | min | max | int | all | any | isint | isbool | istuple | isstr
  deriving DecidableEq
inductive B2 where
  | min | max
  deriving DecidableEq
/-- targets -/
inductive Tg where
  | nm (i : Nat) | nil | cons (a b : Tg) | tp (t : Tg) | ix (i : Nat) (k : Int)
  deriving DecidableEq
inductive CE where
  | k (d : PyData)
  | v (i : Nat)
  | mv (i : Nat)
  | op1 (o : O1) (a : CE)
  | op1v (o : O1) (i : Nat)
  | op2 (o : O2) (a b : CE)
  | op2v (o : O2) (i : Nat) (b : CE)
  | op2w (o : O2) (a : CE) (i : Nat)
  | op2x (o : O2) (i j : Nat)
  | bi2 (o : B2) (a b : CE)
  | chain (o o' : O2) (a b c : CE)
  | and (a b : CE)
  | or (a b : CE)
  | ite (c a b : CE)
  | nil
  | cons (a b : CE)
  | tup (a : CE)
  | lst (a : CE)
  | sl (a lo hi : CE)
  | slv (i : Nat) (lo hi : CE)
  | slsc (i : Nat) (lo hi : CE)
  | call (f : Nat) (as : CE)
  | callm (f : Nat) (i : Nat) (as : CE)
  | callsc (f : Nat) (i : Nat)
  | comp (it : CE) (vs : List Nat) (tg : Tg) (c : CE) (e : CE)
  | rng (a b : CE)
  | rng3 (a b c : CE)
  | enum (a : CE)
  | zip (a b : CE)
inductive CS where
  | pass
  | seq (a b : CS)
  | asg (t : Tg) (e : CE)
  | par (ts : Tg) (es : CE)
  | seti (i : Nat) (ix e : CE)
  | augi (i : Nat) (o : O2) (ix e : CE)
  | augn (i : Nat) (o : O2) (e : CE)
  | app (i : Nat) (e : CE)
  | ext (i : Nat) (e : CE)
  | drop (e : CE)
  | ite (c : CE) (a b : CS)
  | for (t : Tg) (it : CE) (b : CS)
  | while (c : CE) (b : CS)
  | ret (e : CE)
  | fail
/-! ### values -/
def lev : Nat → PyData → Bool
  | _, .none => true
  | _, .bool _ => true
  | _, .int _ => true
  | _, .str x => PyData.strOk x
  | n + 1, .list xs => xs.all (lev n)
  | n + 1, .tuple xs => xs.all (lev n)
  | _, _ => false
def lim : Nat := 1000000
def toD : Sl → Option PyData
  | .sh d => some d
  | .ow l => some (.list l)
  | .od m => some (.dict m)
  | _ => none
def truthD : PyData → Option Bool
  | .none => some false
  | .bool b => some b
  | .int i => some (i != 0)
  | .str s => if s.length ≤ lim then some ((s.length : Int) != 0) else none
  | .list l => some (!l.isEmpty)
  | .tuple l => some (!l.isEmpty)
  | .dict _ => none
def divOk (j : Int) : Bool := decide (0 < j) && decide (j.natAbs.log2 < 9000)
def mulOk (i j : Int) : Bool := decide (i.natAbs.log2 + j.natAbs.log2 < 1000000)
def rgOk (i : Int) : Bool := decide (-4000000000000000000 < i) && decide (i < 4000000000000000000)
def bl (b : Bool) : Option Sl := some (.sh (.bool b))
def it (i : Int) : Option Sl := some (.sh (.int i))
def op2 : O2 → PyData → PyData → Option Sl
  | .add, .int i, .int j => it (i + j)
  | .add, .list a, .list b => if a.length + b.length ≤ lim then some (.ow (a ++ b)) else none
  | .add, .tuple a, .tuple b => if a.length + b.length ≤ lim then some (.sh (.tuple (a ++ b))) else none
  | .add, .str a, .str b => if a.length + b.length ≤ lim then some (.sh (.str (a ++ b))) else none
  | .sub, .int i, .int j => it (i - j)
  | .mul, .int i, .int j => if mulOk i j then it (i * j) else none
  | .mul, .list a, .int j => if a.length ≤ 1000 && decide (0 ≤ j) && decide (j ≤ 1000) then some (.ow (List.replicate j.toNat a).flatten) else none
  | .fdiv, .int i, .int j => if divOk j then it (i / j) else none
  | .mod, .int i, .int j => if 0 < j then it (i % j) else none
  | .shl, .int i, .int j => if decide (0 ≤ j) && decide (j ≤ 1000) && decide (i.natAbs < 18446744073709551616) then it (i * 2 ^ j.toNat) else none
  | .shr, .int i, .int j => if 0 ≤ j then it (i / 2 ^ j.toNat) else none
  | .band, .int i, .int j => it (Builtin.bitAnd i j)
  | .bor, .int i, .int j => it (Builtin.bitOr i j)
  | .eq, a, b => if lev 8 a && lev 8 b then bl (PyData.eqv a b) else none
  | .ne, a, b => if lev 8 a && lev 8 b then bl (!PyData.eqv a b) else none
  | .lt, .int i, .int j => bl (decide (i < j))
  | .le, .int i, .int j => bl (decide (i ≤ j))
  | .gt, .int i, .int j => bl (decide (j < i))
  | .ge, .int i, .int j => bl (decide (j ≤ i))
  | .is, a, .none => bl (match a with | .none => true | _ => false)
  | .isnt, a, .none => bl (match a with | .none => false | _ => true)
  | .isin, a, .list l => if lev 8 a && l.all (lev 7) then bl (l.any fun z => PyData.eqv z a) else none
  | .notin, a, .list l => if lev 8 a && l.all (lev 7) then bl (!l.any fun z => PyData.eqv z a) else none
  | .ix, .list l, .int i => (L2.atI l i).map Sl.sh
  | .ix, .tuple l, .int i => (L2.atI l i).map Sl.sh
  | .ix, .str s, .int i => if s.length ≤ lim then (L2.atI s.cps.toList i).map fun c => Sl.sh (.str ⟨#[c]⟩) else none
  | _, _, _ => none
/-- the intsD of a list -/
def intsD : List PyData → Option (List Int)
  | [] => some []
  | .int i :: r => (intsD r).map (i :: ·)
  | _ :: _ => none
def boolsD : List PyData → Option (List Bool)
  | [] => some []
  | .bool i :: r => (boolsD r).map (i :: ·)
  | _ :: _ => none
def maxI : List Int → Option Int
  | [] => none
  | [x] => some x
  | x :: r => (maxI r).map fun m => if x < m then m else x
def minI : List Int → Option Int
  | [] => none
  | [x] => some x
  | x :: r => (minI r).map fun m => if m < x then m else x
def allike (l : List PyData) : Bool := l.all fun d => l.all fun e => PySem.W.alike d e
def tupNE : PyData → Bool
  | .tuple (_ :: _) => true
  | _ => false
def notTup : PyData → Bool
  | .none => false
  | .tuple _ => false
  | _ => true
def sortD (l : List PyData) : List PyData := l.mergeSort (PySem.W.dataLe false id)
def sortOk (l : List PyData) : Bool := allike l && (l.all tupNE || l.all notTup) && l.all (lev 7) && decide (l.length ≤ lim)
def op1 : O1 → PyData → Option Sl
  | .sorted, .list l => if sortOk l then some (.ow (sortD l)) else none
  | .neg, .int i => it (-i)
  | .not, d => (truthD d).map fun b => Sl.sh (.bool !b)
  | .truth, d => (truthD d).map fun b => Sl.sh (.bool b)
  | .len, .list l => it l.length
  | .len, .tuple l => it l.length
  | .len, .str s => if s.length ≤ lim then it s.length else none
  | .sum, .list l => (intsD l).map fun ns => Sl.sh (.int ns.sum)
  | .sum, .tuple l => (intsD l).map fun ns => Sl.sh (.int ns.sum)
  | .abs, .int i => it (if i < 0 then -i else i)
  | .tuple, .list l => some (.sh (.tuple l))
  | .tuple, .tuple l => some (.sh (.tuple l))
  | .list, .list l => some (.ow l)
  | .list, .tuple l => some (.ow l)
  | .min, .list l => (intsD l).bind fun ns => (minI ns).map fun m => Sl.sh (.int m)
  | .max, .list l => (intsD l).bind fun ns => (maxI ns).map fun m => Sl.sh (.int m)
  | .int, .int i => it i
  | .int, .bool b => it (if b then 1 else 0)
  | .all, .list l => (boolsD l).map fun bs => Sl.sh (.bool (bs.all id))
  | .any, .list l => (boolsD l).map fun bs => Sl.sh (.bool (bs.any id))
  | .isint, d => bl (match d with | .int _ => true | .bool _ => true | _ => false)
  | .isbool, d => bl (match d with | .bool _ => true | _ => false)
  | .istuple, d => bl (match d with | .tuple _ => true | _ => false)
  | .isstr, d => bl (match d with | .str _ => true | _ => false)
  | _, _ => none
def cutD (xs : List PyData) (lo hi : Option Int) : List PyData := (xs.drop (HT.sIx xs.length 0 lo)).take (HT.sIx xs.length xs.length hi - HT.sIx xs.length 0 lo)
/-- a bound of a slice: what is not written is .k .none -/
def bnd : CE → PyData → Option (Option Int)
  | .k .none, .none => some none
  | _, .int i => some (some i)
  | _, _ => none
def slice : PyData → Option Int → Option Int → Option Sl
  | .list l, a, b => some (.ow (cutD l a b))
  | .tuple l, a, b => some (.sh (.tuple (cutD l a b)))
  | _, _, _ => none
/-- what a walk gives -/
def items : Sl → Option (List PyData)
  | .ow l => some l
  | .sh (.list l) => some l
  | .sh (.tuple l) => some l
  | .sh (.str s) => some (s.cps.toList.map fun c => .str ⟨#[c]⟩)
  | _ => none
def enumD (l : List PyData) : List PyData := (List.range l.length).zipWith (fun (i : Nat) d => .tuple [.int (i : Int), d]) l
def zipD (l m : List PyData) : List PyData := List.zipWith (fun a b => .tuple [a, b]) l m
def rngD (i : Int) (n : Nat) : List PyData := (List.range n).map fun j => .int (i + (j : Nat))
def rngDc (i c : Int) (n : Nat) : List PyData := (List.range n).map fun j => .int (i + (j : Nat) * c)
/-! ### slots -/
def peek (ρ : PEnv) (i : Nat) : Option PyData := match ρ[i]? with
  | some (.sh d) => some d
  | some (.ow l) => some (.list l)
  | some (.io l) => some (.list l)
  | some (.od m) => some (.dict m)
  | _ => none
def rdv (ρ : PEnv) (i : Nat) : Option (Sl × PEnv) := match ρ[i]? with
  | some (.sh d) => some (.sh d, ρ)
  | some (.ow l) => some (.sh (.list l), ρ.set i (.sh (.list l)))
  | some (.od m) => some (.sh (.dict m), ρ.set i (.sh (.dict m)))
  | _ => none
def rmv (ρ : PEnv) (i : Nat) : Option (Sl × PEnv) := match ρ[i]? with
  | some (.sh d) => some (.sh d, ρ)
  | some (.ow l) => some (.ow l, ρ.set i .un)
  | some (.od m) => some (.od m, ρ.set i .un)
  | _ => none
/-- may slot i be stored to -/
def free (ρ : PEnv) (i : Nat) : Bool := match ρ[i]? with
  | some (.io _) => false
  | some _ => true
  | none => false
def put (ρ : PEnv) (i : Nat) (s : Sl) : Option PEnv := if free ρ i then some (ρ.set i s) else none
def listAt (ρ : PEnv) (i : Nat) : Option (List PyData) := match ρ[i]? with
  | some (.ow l) => some l
  | some (.io l) => some l
  | _ => none
/-- the list of slot i changed -/
def upd (ρ : PEnv) (i : Nat) (f : List PyData → Option (List PyData)) : Option PEnv := match ρ[i]? with
  | some (.ow l) => (f l).map fun l' => ρ.set i (.ow l')
  | some (.io l) => (f l).map fun l' => ρ.set i (.io l')
  | _ => none
def setAt (ρ : PEnv) (i : Nat) (z : Int) (d : PyData) : Option PEnv := upd ρ i fun l => (L2.ixN l.length z).map fun j => l.set j d
def asgn : Tg → PyData → PEnv → Option PEnv
  | .nm i, d, ρ => put ρ i (.sh d)
  | .tp t, .tuple l, ρ => asgnL t l ρ
  | .ix i k, d, ρ => setAt ρ i k d
  | _, _, _ => none
where asgnL : Tg → List PyData → PEnv → Option PEnv
  | .nil, [], ρ => some ρ
  | .cons a b, d :: ds, ρ => (asgn a d ρ).bind (asgnL b ds)
  | _, _, _ => none
def wipeE (ρ : PEnv) : List Nat → PEnv
  | [] => ρ
  | v :: vs => (wipeE ρ vs).set v .un
/-- behind a block: its own names as they were -/
def backE (ρ : PEnv) (ρ' : PEnv) : List Nat → PEnv
  | [] => ρ'
  | v :: vs => backE ρ (ρ'.set v (ρ.getD v .un)) vs
def plainSl (ρ : PEnv) (v : Nat) : Bool := match ρ[v]? with
  | some .un => true
  | some (.sh _) => true
  | _ => false
/-- no two of the names fall together -/
def compLoop (g : PyData → PEnv → Option PEnv) (c : PEnv → Option (Sl × PEnv)) (e : PEnv → Option (Sl × PEnv)) (vs : List Nat) : List PyData → PEnv → List PyData → Option (List PyData × PEnv)
  | [], ρ, acc => some (acc, ρ)
  | d :: ds, ρ, acc => do
    let ρ1 ← g d ρ
    let (b, ρ2) ← c ρ1
    let b ← (toD b).bind truthD
    if b then
      let (r, ρ3) ← e ρ2
      let r ← toD r
      compLoop g c e vs ds (wipeE ρ3 vs) (acc ++ [r])
    else compLoop g c e vs ds (wipeE ρ2 vs) acc
/-- calls: the number of the def, the slots handed in; back: the value and the lent list -/
abbrev Calls := Nat → List Sl → Option (Sl × Option (List PyData))
section
variable (cl : Calls)
mutual
def ev : CE → PEnv → Option (Sl × PEnv)
  | .k d, ρ => some (.sh d, ρ)
  | .v i, ρ => rdv ρ i
  | .mv i, ρ => rmv ρ i
  | .op1 o a, ρ => do
    let (r, ρ1) ← ev a ρ
    let d ← toD r
    let z ← op1 o d
    some (z, ρ1)
  | .op1v o i, ρ => do
    let d ← peek ρ i
    let z ← op1 o d
    some (z, ρ)
  | .op2 o a b, ρ => do
    let (r, ρ1) ← ev a ρ
    let x ← toD r
    let (r2, ρ2) ← ev b ρ1
    let y ← toD r2
    let z ← op2 o x y
    some (z, ρ2)
  | .op2v o i b, ρ => do
    let _ ← peek ρ i
    let (r2, ρ2) ← ev b ρ
    let y ← toD r2
    let x ← peek ρ2 i
    let z ← op2 o x y
    some (z, ρ2)
  | .op2w o a i, ρ => do
    let (r, ρ1) ← ev a ρ
    let x ← toD r
    let y ← peek ρ1 i
    let z ← op2 o x y
    some (z, ρ1)
  | .op2x o i j, ρ => do
    let x ← peek ρ i
    let y ← peek ρ j
    let z ← op2 o x y
    some (z, ρ)
  | .bi2 o a b, ρ => do
    let (r, ρ1) ← ev a ρ
    let x ← toD r
    let (r2, ρ2) ← ev b ρ1
    let y ← toD r2
    match o, x, y with
    | .min, .int i, .int j => some (.sh (.int (if j < i then j else i)), ρ2)
    | .max, .int i, .int j => some (.sh (.int (if j > i then j else i)), ρ2)
    | _, _, _ => none
  | .chain o o' a b c, ρ => do
    let (r, ρ1) ← ev a ρ
    let x ← toD r
    let (r2, ρ2) ← ev b ρ1
    let y ← toD r2
    let z ← op2 o x y
    match z with
    | .sh (.bool true) =>
      let (r3, ρ3) ← ev c ρ2
      let w ← toD r3
      let z' ← op2 o' y w
      some (z', ρ3)
    | .sh (.bool false) => some (.sh (.bool false), ρ2)
    | _ => none
  | .and a b, ρ => do
    let (r, ρ1) ← ev a ρ
    let d ← toD r
    let t ← truthD d
    if t then ev b ρ1 else some (.sh d, ρ1)
  | .or a b, ρ => do
    let (r, ρ1) ← ev a ρ
    let d ← toD r
    let t ← truthD d
    if t then some (.sh d, ρ1) else ev b ρ1
  | .ite c a b, ρ => do
    let (r, ρ1) ← ev c ρ
    let t ← (toD r).bind truthD
    if t then ev a ρ1 else ev b ρ1
  | .nil, _ => none
  | .cons _ _, _ => none
  | .tup a, ρ => do
    let (ds, ρ1) ← evA a ρ
    if ds.length ≤ lim then some (.sh (.tuple ds), ρ1) else none
  | .lst a, ρ => do
    let (ds, ρ1) ← evA a ρ
    if ds.length ≤ lim then some (.ow ds, ρ1) else none
  | .sl a lo hi, ρ => do
    let (r, ρ1) ← ev a ρ
    let x ← toD r
    let (r2, ρ2) ← ev lo ρ1
    let l ← (toD r2).bind (bnd lo)
    let (r3, ρ3) ← ev hi ρ2
    let h ← (toD r3).bind (bnd hi)
    let z ← slice x l h
    some (z, ρ3)
  | .slv i lo hi, ρ => do
    let _ ← peek ρ i
    let (r2, ρ2) ← ev lo ρ
    let l ← (toD r2).bind (bnd lo)
    let (r3, ρ3) ← ev hi ρ2
    let h ← (toD r3).bind (bnd hi)
    let x ← peek ρ3 i
    let z ← slice x l h
    some (z, ρ3)
  | .slsc i lo hi, ρ => do
    match ρ[i]? with
    | some (.sc ns) =>
      let (r2, ρ2) ← ev lo ρ
      let l ← (toD r2).bind (bnd lo)
      let (r3, ρ3) ← ev hi ρ2
      let h ← (toD r3).bind (bnd hi)
      match ρ3[i]? with
      | some (.sc ms) => (slice (.list (ms.map .int)) l h).map fun z => (z, ρ3)
      | _ => none
    | _ => none
  | .call f as, ρ => do
    let (ds, ρ1) ← evA as ρ
    let (r, _) ← cl f (ds.map Sl.sh)
    some (r, ρ1)
  | .callm f i as, ρ => do
    let _ ← peek ρ i
    let (ds, ρ1) ← evA as ρ
    match ρ1[i]? with
    | some (.ow l) =>
      let (r, o) ← cl f (.io l :: ds.map Sl.sh)
      let l' ← o
      some (r, ρ1.set i (.ow l'))
    | some (.io l) =>
      let (r, o) ← cl f (.io l :: ds.map Sl.sh)
      let l' ← o
      some (r, ρ1.set i (.io l'))
    | _ => none
  | .callsc f i, ρ => do
    match ρ[i]? with
    | some (.sc ns) =>
      let (r, _) ← cl f [.sc ns]
      some (r, ρ)
    | _ => none
  | .comp t vs tg c e, ρ => do
    let (r, ρ1) ← ev t ρ
    let l ← items r
    if l.length ≤ lim && vs.all (plainSl ρ1) then
      let (acc, ρ2) ← compLoop (asgn tg) (ev c) (ev e) vs l (wipeE ρ1 vs) []
      some (.ow acc, backE ρ1 ρ2 vs)
    else none
  | .rng a b, ρ => do
    let (r, ρ1) ← ev a ρ
    let (r2, ρ2) ← ev b ρ1
    match r, r2 with
    | .sh (.int i), .sh (.int j) => if rgOk i && rgOk j then some (.ow (rngD i (j - i).toNat), ρ2) else none
    | _, _ => none
  | .rng3 a b c, ρ => do
    let (r, ρ1) ← ev a ρ
    let (r2, ρ2) ← ev b ρ1
    let (r3, ρ3) ← ev c ρ2
    match r, r2, r3 with
    | .sh (.int i), .sh (.int j), .sh (.int c) => if rgOk i && rgOk j && c == -1 then some (.ow (rngDc i (-1) (i - j).toNat), ρ3) else none
    | _, _, _ => none
  | .enum a, ρ => do
    let (r, ρ1) ← ev a ρ
    let l ← items r
    some (.ow (enumD l), ρ1)
  | .zip a b, ρ => do
    let (r, ρ1) ← ev a ρ
    let l ← items r
    let (r2, ρ2) ← ev b ρ1
    let m ← items r2
    some (.ow (zipD l m), ρ2)
def evA : CE → PEnv → Option (List PyData × PEnv)
  | .nil, ρ => some ([], ρ)
  | .cons a b, ρ => do
    let (r, ρ1) ← ev a ρ
    let d ← toD r
    let (ds, ρ2) ← evA b ρ1
    some (d :: ds, ρ2)
  | _, _ => none
end
/-- values with their kinds -/
def evP : CE → PEnv → Option (List Sl × PEnv)
  | .nil, ρ => some ([], ρ)
  | .cons a b, ρ => do
    let (r, ρ1) ← ev cl a ρ
    let (ds, ρ2) ← evP b ρ1
    some (r :: ds, ρ2)
  | _, _ => none
def tst (c : CE) (ρ : PEnv) : Option (Bool × PEnv) := do
  let (r, ρ1) ← ev cl c ρ
  let t ← (toD r).bind truthD
  some (t, ρ1)
inductive Out where
  | nx (ρ : PEnv)
  | rt (r : Sl) (ρ : PEnv)
def putP : Tg → List Sl → PEnv → Option PEnv
  | .nil, [], ρ => some ρ
  | .cons (.nm i) b, s :: ss, ρ => (put ρ i s).bind (putP b ss)
  | _, _, _ => none
def forLoop (g : PyData → PEnv → Option PEnv) (b : PEnv → Option Out) : List PyData → PEnv → Option Out
  | [], ρ => some (.nx ρ)
  | d :: ds, ρ => do
    let ρ1 ← g d ρ
    match ← b ρ1 with
    | .nx ρ2 => forLoop g b ds ρ2
    | .rt r ρ2 => some (.rt r ρ2)
def whileLoop (c : PEnv → Option (Bool × PEnv)) (b : PEnv → Option Out) : Nat → PEnv → Option Out
  | 0, _ => none
  | n + 1, ρ => do
    let (t, ρ1) ← c ρ
    if t then
      match ← b ρ1 with
      | .nx ρ2 => whileLoop c b n ρ2
      | .rt r ρ2 => some (.rt r ρ2)
    else some (.nx ρ1)
def ex (F : Nat) : CS → PEnv → Option Out
  | .pass, ρ => some (.nx ρ)
  | .seq a b, ρ => do
    match ← ex F a ρ with
    | .nx ρ1 => ex F b ρ1
    | .rt r ρ1 => some (.rt r ρ1)
  | .asg t e, ρ => do
    let (r, ρ1) ← ev cl e ρ
    match t with
    | .nm i => (put ρ1 i r).map Out.nx
    | _ =>
      let d ← toD r
      (asgn t d ρ1).map Out.nx
  | .par ts es, ρ => do
    let (rs, ρ1) ← evP cl es ρ
    (putP ts rs ρ1).map Out.nx
  | .seti i ix e, ρ => do
    let (r, ρ1) ← ev cl e ρ
    let d ← toD r
    let _ ← peek ρ1 i
    let (r2, ρ2) ← ev cl ix ρ1
    let x ← toD r2
    match x with
    | .int z => (setAt ρ2 i z d).map Out.nx
    | _ => none
  | .augi i o ix e, ρ => do
    let _ ← peek ρ i
    let (r2, ρ1) ← ev cl ix ρ
    let x ← toD r2
    let l0 ← peek ρ1 i
    let old ← (match l0, x with
      | .list l, .int z => L2.atI l z
      | _, _ => none)
    let (r, ρ2) ← ev cl e ρ1
    let d ← toD r
    match x, old, d with
    | .int z, .int p, .int q => do
      let new ← (op2 o (.int p) (.int q)).bind toD
      (setAt ρ2 i z new).map Out.nx
    | _, _, _ => none
  | .augn i o e, ρ => do
    let old ← peek ρ i
    let (r, ρ1) ← ev cl e ρ
    let d ← toD r
    match old, d with
    | .int p, .int q => do
      let new ← op2 o (.int p) (.int q)
      (put ρ1 i new).map Out.nx
    | _, _ => none
  | .app i e, ρ => do
    let _ ← listAt ρ i
    let (r, ρ1) ← ev cl e ρ
    let d ← toD r
    (upd ρ1 i fun l => if l.length < lim then some (l ++ [d]) else none).map Out.nx
  | .ext i e, ρ => do
    let _ ← listAt ρ i
    let (r, ρ1) ← ev cl e ρ
    let d ← toD r
    match d with
    | .list m => (upd ρ1 i fun l => if l.length + m.length ≤ lim then some (l ++ m) else none).map Out.nx
    | _ => none
  | .drop e, ρ => do
    let (_, ρ1) ← ev cl e ρ
    some (.nx ρ1)
  | .ite c a b, ρ => do
    let (t, ρ1) ← tst cl c ρ
    if t then ex F a ρ1 else ex F b ρ1
  | .for t i b, ρ => do
    let (r, ρ1) ← ev cl i ρ
    let l ← items r
    forLoop (asgn t) (ex F b) l ρ1
  | .while c b, ρ => whileLoop (tst cl c) (ex F b) F ρ
  | .ret e, ρ => do
    let (r, ρ1) ← ev cl e ρ
    some (.rt r ρ1)
  | .fail, _ => none
end
/-- a def: how many parameters, how many slots, whether the first parameter is lent, its body -/
structure Fn where
  ps : Nat
  n : Nat
  io : Bool
  body : CS
def okR : Sl → Bool
  | .sh _ => true
  | .ow _ => true
  | .od _ => true
  | _ => false
def endRun (io : Bool) (r : Sl) (ρ : PEnv) : Option (Sl × Option (List PyData)) :=
  if okR r then
    if io then match ρ with
      | .io l :: _ => some (r, some l)
      | _ => none
    else some (r, none)
  else none
def run (F : Nat) (Γ : List Fn) : Nat → Calls
  | 0, _, _ => none
  | k + 1, f, as => do
    let fn ← Γ[f]?
    if as.length == fn.ps then
      let out ← ex (run F Γ k) F fn.body (as ++ List.replicate (fn.n - fn.ps) .un)
      match out with
      | .nx ρ => endRun fn.io (.sh .none) ρ
      | .rt r ρ => endRun fn.io r ρ
    else none
end PP
namespace PP
open PySem L2
def keyD : Key → PyData
  | .inl i => .int i
  | .inr x => .str x
mutual
/-- a value stands for data in a heap that is never changed, only grows -/
inductive Rep (K : PySem.W.Frag) (G : Hp) : V → PyData → Prop
  | non : Rep K G .non .none
  | bl (b : Bool) : Rep K G (.bl b) (.bool b)
  | int (i : Int) : Rep K G (.int i) (.int i)
  | str (x : Str) : Rep K G (.str x) (.str x)
  | lst {a : Addr} {xs : List V} {ds : List PyData} : G a = some (.lst xs) → Reps K G xs ds → Rep K G (.ref a) (.list ds)
  | tup {a : Addr} {xs : List V} {ds : List PyData} : SqT K G a xs → Reps K G xs ds → Rep K G (.ref a) (.tuple ds)
  | dK {a : Addr} {kvs : List (Key × V)} {m : List (PyData × PyData)} : G a = some (.dK kvs) → m.map (·.1) = kvs.map (fun p => keyD p.1) → Reps K G (kvs.map (·.2)) (m.map (·.2)) → Rep K G (.ref a) (.dict m)
  | dT {a : Addr} {kvs : List (List Key × V)} {m : List (PyData × PyData)} : G a = some (.dT kvs) → m.map (·.1) = kvs.map (fun p => .tuple (p.1.map keyD)) → Reps K G (kvs.map (·.2)) (m.map (·.2)) → Rep K G (.ref a) (.dict m)
inductive Reps (K : PySem.W.Frag) (G : Hp) : List V → List PyData → Prop
  | nil : Reps K G [] []
  | cons {v : V} {vs : List V} {d : PyData} {ds : List PyData} : Rep K G v d → Reps K G vs ds → Reps K G (v :: vs) (d :: ds)
end
abbrev Ex := Evl.Ex
section
variable {K : PySem.W.Frag} {G G' H H' : Hp}
mutual
theorem Rep.mono (e : Ex G G') : ∀ {v : V} {d : PyData}, Rep K G v d → Rep K G' v d
  | _, _, .non => .non
  | _, _, .bl b => .bl b
  | _, _, .int i => .int i
  | _, _, .str x => .str x
  | _, _, .lst h r => .lst (e _ _ h) (Reps.mono e r)
  | _, _, .tup h r => .tup (Evl.ex_t e h) (Reps.mono e r)
  | _, _, .dK h q r => .dK (e _ _ h) q (Reps.mono e r)
  | _, _, .dT h q r => .dT (e _ _ h) q (Reps.mono e r)
theorem Reps.mono (e : Ex G G') : ∀ {vs : List V} {ds : List PyData}, Reps K G vs ds → Reps K G' vs ds
  | _, _, .nil => .nil
  | _, _, .cons h r => .cons (Rep.mono e h) (Reps.mono e r)
end
theorem Reps.length : ∀ {vs : List V} {ds : List PyData}, Reps K G vs ds → vs.length = ds.length
  | _, _, .nil => rfl
  | _, _, .cons _ r => congrArg Nat.succ r.length
theorem Reps.get : ∀ {vs : List V} {ds : List PyData} {i : Nat} {d : PyData}, Reps K G vs ds → ds[i]? = some d → ∃ v, vs[i]? = some v ∧ Rep K G v d
  | _, _, _, _, .nil, h => by simp at h
  | _, _, 0, d, .cons h r, e => by
    simp at e
    subst e
    exact ⟨_, rfl, h⟩
  | _, _, i + 1, d, .cons h r, e => by
    obtain ⟨v, h1, h2⟩ := Reps.get (i := i) r (by simpa using e)
    exact ⟨v, by simpa using h1, h2⟩
theorem Reps.get' : ∀ {vs : List V} {ds : List PyData} {i : Nat} {v : V}, Reps K G vs ds → vs[i]? = some v → ∃ d, ds[i]? = some d ∧ Rep K G v d
  | _, _, _, _, .nil, h => by simp at h
  | _, _, 0, d, .cons h r, e => by
    simp at e
    subst e
    exact ⟨_, rfl, h⟩
  | _, _, i + 1, d, .cons h r, e => by
    obtain ⟨v, h1, h2⟩ := Reps.get' (i := i) r (by simpa using e)
    exact ⟨v, by simpa using h1, h2⟩
theorem Reps.append : ∀ {vs ws : List V} {ds es : List PyData}, Reps K G vs ds → Reps K G ws es → Reps K G (vs ++ ws) (ds ++ es)
  | _, _, _, _, .nil, s => s
  | _, _, _, _, .cons h r, s => .cons h (Reps.append r s)
theorem Reps.take : ∀ {vs : List V} {ds : List PyData} (n : Nat), Reps K G vs ds → Reps K G (vs.take n) (ds.take n)
  | _, _, 0, _ => .nil
  | _, _, _ + 1, .nil => .nil
  | _, _, n + 1, .cons r t => .cons r (Reps.take n t)
theorem Reps.drop : ∀ {vs : List V} {ds : List PyData} (n : Nat), Reps K G vs ds → Reps K G (vs.drop n) (ds.drop n)
  | _, _, 0, r => r
  | _, _, _ + 1, .nil => .nil
  | _, _, n + 1, .cons _ t => Reps.drop n t
theorem Reps.set {v : V} {d : PyData} (h : Rep K G v d) : ∀ {vs : List V} {ds : List PyData} (i : Nat), Reps K G vs ds → Reps K G (vs.set i v) (ds.set i d)
  | _, _, _, .nil => .nil
  | _, _, 0, .cons _ t => .cons h t
  | _, _, i + 1, .cons q t => .cons q (Reps.set h i t)
theorem Reps.rep : ∀ {vs : List V} {ds : List PyData} (n : Nat), Reps K G vs ds → Reps K G (List.replicate n vs).flatten (List.replicate n ds).flatten
  | _, _, 0, _ => .nil
  | vs, ds, n + 1, r => by
    rw [List.replicate_succ, List.replicate_succ, List.flatten_cons, List.flatten_cons]
    exact r.append (Reps.rep n r)
theorem Reps.mem : ∀ {vs : List V} {ds : List PyData} {d : PyData}, Reps K G vs ds → d ∈ ds → ∃ v, v ∈ vs ∧ Rep K G v d
  | _, _, _, .cons h r, m => by
    rcases List.mem_cons.mp m with e | m
    · exact ⟨_, List.mem_cons_self, e ▸ h⟩
    · obtain ⟨v, h1, h2⟩ := Reps.mem r m
      exact ⟨v, List.mem_cons_of_mem _ h1, h2⟩
theorem reps_ints : ∀ (ns : List Int), Reps K G (ns.map V.int) (ns.map PyData.int)
  | [] => .nil
  | n :: ns => .cons (.int n) (reps_ints ns)
/-- the ints of a list -/
theorem reps_intsD : ∀ {ds : List PyData} {vs : List V} {ns : List Int}, Reps K G vs ds → intsD ds = some ns → vs = ns.map V.int
  | [], _, ns, .nil, h => by
    simp [intsD] at h
    subst h
    rfl
  | d :: ds, _, ns, .cons (v := v) h1 r, h => by
    cases h1 with
    | int i =>
      simp only [intsD, Option.map_eq_some_iff] at h
      obtain ⟨ms, h2, rfl⟩ := h
      rw [reps_intsD r h2]
      rfl
    | _ => simp [intsD] at h
theorem reps_boolsD : ∀ {ds : List PyData} {vs : List V} {bs : List Bool}, Reps K G vs ds → boolsD ds = some bs → vs = bs.map V.bl
  | [], _, ns, .nil, h => by
    simp [boolsD] at h
    subst h
    rfl
  | d :: ds, _, ns, .cons (v := v) h1 r, h => by
    cases h1 with
    | bl i =>
      simp only [boolsD, Option.map_eq_some_iff] at h
      obtain ⟨ms, h2, rfl⟩ := h
      rw [reps_boolsD r h2]
      rfl
    | _ => simp [boolsD] at h
end
/-! ### the slots' entries -/
abbrev Ent := Option V × Sl
def ownA : Ent → Option Addr
  | (some (.ref a), .ow _) => some a
  | (some (.ref a), .io _) => some a
  | (some (.ref a), .od _) => some a
  | _ => none
theorem ownA_sh (v : Option V) (d : PyData) : ownA (v, .sh d) = none := by
  cases v with
  | none => rfl
  | some x => cases x <;> rfl
theorem ownA_un (v : Option V) : ownA (v, .un) = none := by
  cases v with
  | none => rfl
  | some x => cases x <;> rfl
/-- a dict of one's own: its object -/
inductive DicO (K : PySem.W.Frag) (G : Hp) : HO → List (PyData × PyData) → Prop
  | dK {kvs : List (Key × V)} {m : List (PyData × PyData)} : m.map (·.1) = kvs.map (fun p => keyD p.1) → Reps K G (kvs.map (·.2)) (m.map (·.2)) → DicO K G (.dK kvs) m
  | dT {kvs : List (List Key × V)} {m : List (PyData × PyData)} : m.map (·.1) = kvs.map (fun p => .tuple (p.1.map keyD)) → Reps K G (kvs.map (·.2)) (m.map (·.2)) → DicO K G (.dT kvs) m
theorem DicO.mono {K : PySem.W.Frag} {G G' : Hp} {o : HO} {m : List (PyData × PyData)} (e : Ex G G') (h : DicO K G o m) : DicO K G' o m := by
  cases h with
  | dK h r => exact .dK h (r.mono e)
  | dT h r => exact .dT h (r.mono e)
/-- the object itself as it lies now (it may change), what is within never changes any more -/
inductive Rep1 (K : PySem.W.Frag) (G H : Hp) : V → PyData → Prop
  | non : Rep1 K G H .non .none
  | bl (b : Bool) : Rep1 K G H (.bl b) (.bool b)
  | int (i : Int) : Rep1 K G H (.int i) (.int i)
  | str (x : Str) : Rep1 K G H (.str x) (.str x)
  | lst {a : Addr} {xs : List V} {ds : List PyData} : H a = some (.lst xs) → Reps K G xs ds → Rep1 K G H (.ref a) (.list ds)
  | tup {a : Addr} {xs : List V} {ds : List PyData} : SqT K G a xs → Reps K G xs ds → Rep1 K G H (.ref a) (.tuple ds)
  | dic {a : Addr} {o : HO} {m : List (PyData × PyData)} : H a = some o → DicO K G o m → Rep1 K G H (.ref a) (.dict m)
theorem Rep.one {K : PySem.W.Frag} {G H : Hp} {v : V} {d : PyData} (e : Ex G H) (h : Rep K G v d) : Rep1 K G H v d := by
  cases h with
  | non => exact .non
  | bl b => exact .bl b
  | int i => exact .int i
  | str x => exact .str x
  | lst q r => exact .lst (e _ _ q) r
  | tup q r => exact .tup q r
  | dK q h r => exact .dic (e _ _ q) (.dK h r)
  | dT q h r => exact .dic (e _ _ q) (.dT h r)
structure Fr where
  G0 : Hp
  H0 : Hp
  IO : Addr → Prop
def EntOk (K : PySem.W.Frag) (B : Fr) (G H : Hp) : Ent → Prop
  | (_, .un) => True
  | (v, .sh d) => ∃ x, v = some x ∧ Rep K G x d
  | (v, .ow l) => ∃ a vs, v = some (.ref a) ∧ B.H0 a = none ∧ G a = none ∧ H a = some (.lst vs) ∧ Reps K G vs l
  | (v, .io l) => ∃ a vs, v = some (.ref a) ∧ B.IO a ∧ G a = none ∧ H a = some (.lst vs) ∧ Reps K G vs l
  | (v, .od m) => ∃ a o, v = some (.ref a) ∧ B.H0 a = none ∧ G a = none ∧ H a = some o ∧ DicO K G o m
  | (v, .sc ns) => ∃ a, v = some (.ref a) ∧ SqL K G a (ns.map V.int)
structure Ok (K : PySem.W.Frag) (B : Fr) (G : Hp) (L : List Ent) (H : Hp) : Prop where
  fr : ∀ a o, B.H0 a = some o → ¬ B.IO a → H a = some o
  sub : Ex G H
  gn : ∀ a o, G a = some o → B.G0 a = some o ∨ B.H0 a = none
  g0 : Ex B.G0 G
  ios : ∀ a, B.IO a → H a ≠ none
  ent : ∀ (n : Nat) (p : Ent), L[n]? = some p → EntOk K B G H p
  dis : ∀ (m n : Nat) (p q : Ent) (a : Addr), L[m]? = some p → L[n]? = some q → ownA p = some a → ownA q = some a → m = n
section
variable {K : PySem.W.Frag} {B : Fr} {G G' H H' : Hp} {L : List Ent} {p : Ent}
theorem Ok.tail (h : Ok K B G (p :: L) H) : Ok K B G L H :=
  ⟨h.fr, h.sub, h.gn, h.g0, h.ios, fun n q e => h.ent (n + 1) q (by simpa using e), fun m n q r a e1 e2 o1 o2 => Nat.succ.inj (h.dis (m + 1) (n + 1) q r a (by simpa using e1) (by simpa using e2) o1 o2)⟩
theorem Ok.head (h : Ok K B G (p :: L) H) : EntOk K B G H p := h.ent 0 p rfl
theorem Ok.rep {x : V} {d : PyData} (h : Ok K B G ((some x, .sh d) :: L) H) : Rep K G x d := by
  obtain ⟨y, e, r⟩ := h.head
  cases e
  exact r
theorem EntOk.own_of {p : Ent} {a : Addr} (h : EntOk K B G H p) (e : ownA p = some a) : G a = none ∧ H a ≠ none := by
  obtain ⟨v, s⟩ := p
  cases s with
  | un => simp [ownA] at e
  | sh d => simp [ownA] at e
  | sc d => simp [ownA] at e
  | ow l =>
    obtain ⟨b, vs, rfl, h0, h1, h2, h3⟩ := h
    simp [ownA] at e
    subst e
    exact ⟨h1, by rw [h2]; simp⟩
  | io l =>
    obtain ⟨b, vs, rfl, h0, h1, h2, h3⟩ := h
    simp [ownA] at e
    subst e
    exact ⟨h1, by rw [h2]; simp⟩
  | od m =>
    obtain ⟨b, vs, rfl, h0, h1, h2, h3⟩ := h
    simp [ownA] at e
    subst e
    exact ⟨h1, by rw [h2]; simp⟩
/-- a further entry that owns nothing -/
theorem Ok.consU (h : Ok K B G L H) (hp : EntOk K B G H p) (ho : ownA p = none) : Ok K B G (p :: L) H := by
  refine ⟨h.fr, h.sub, h.gn, h.g0, h.ios, fun n q e => ?_, fun m n q r a e1 e2 o1 o2 => ?_⟩
  · cases n with
    | zero =>
      simp at e
      subst e
      exact hp
    | succ n => exact h.ent n q (by simpa using e)
  · cases m with
    | zero =>
      simp at e1
      subst e1
      rw [ho] at o1
      cases o1
    | succ m =>
      cases n with
      | zero =>
        simp at e2
        subst e2
        rw [ho] at o2
        cases o2
      | succ n => exact congrArg Nat.succ (h.dis m n q r a (by simpa using e1) (by simpa using e2) o1 o2)
theorem Ok.consR {x : V} {d : PyData} (h : Ok K B G L H) (r : Rep K G x d) : Ok K B G ((some x, .sh d) :: L) H := h.consU ⟨x, rfl, r⟩ (ownA_sh _ _)
/-- an owning entry that stands apart -/
theorem Ok.consO {a : Addr} (h : Ok K B G L H) (hp : EntOk K B G H p) (ho : ownA p = some a) (hd : ∀ (n : Nat) (q : Ent), L[n]? = some q → ownA q ≠ some a) : Ok K B G (p :: L) H := by
  refine ⟨h.fr, h.sub, h.gn, h.g0, h.ios, fun n q e => ?_, fun m n q r b e1 e2 o1 o2 => ?_⟩
  · cases n with
    | zero =>
      simp at e
      subst e
      exact hp
    | succ n => exact h.ent n q (by simpa using e)
  · cases m with
    | zero =>
      simp at e1
      subst e1
      rw [ho] at o1
      cases o1
      cases n with
      | zero => rfl
      | succ n => exact absurd o2 (hd n r (by simpa using e2))
    | succ m =>
      cases n with
      | zero =>
        simp at e2
        subst e2
        rw [ho] at o2
        cases o2
        exact absurd o1 (hd m q (by simpa using e1))
      | succ n => exact congrArg Nat.succ (h.dis m n q r b (by simpa using e1) (by simpa using e2) o1 o2)
theorem ex_new {p : Addr} {o : HO} (h : H p = none) : Ex H (L2.upd H p o) := Evl.Ex.new h
theorem ex_sub {p : Addr} {o : HO} (e : Ex G H) (h : H p = none) : Ex (L2.upd G p o) (L2.upd H p o) := fun a u q => by
  by_cases z : a = p
  · subst z
    rw [upd_same] at q ⊢
    exact q
  · rw [upd_ne z] at q ⊢
    exact e a u q
theorem Ok.fresh0 (h : Ok K B G L H) {q : Addr} (hq : H q = none) : B.H0 q = none := by
  cases e : B.H0 q with
  | none => rfl
  | some o =>
    by_cases i : B.IO q
    · exact absurd hq (h.ios q i)
    · rw [h.fr q o e i] at hq
      cases hq
theorem Ok.freshG (h : Ok K B G L H) {q : Addr} (hq : H q = none) : G q = none := by
  cases e : G q with
  | none => rfl
  | some o =>
    rw [h.sub q o e] at hq
    cases hq
/-- entries stay when the shared heap grows and the owned objects stay -/
theorem EntOk.stay {p : Ent} (h : EntOk K B G H p) (eg : Ex G G') (hg : ∀ a, ownA p = some a → G' a = none) (hh : ∀ a o, ownA p = some a → H a = some o → H' a = some o) : EntOk K B G' H' p := by
  obtain ⟨v, s⟩ := p
  cases s with
  | un => trivial
  | sh d =>
    obtain ⟨x, e, r⟩ := h
    exact ⟨x, e, r.mono eg⟩
  | sc d =>
    obtain ⟨x, e, r⟩ := h
    exact ⟨x, e, Evl.ex_l eg r⟩
  | ow l =>
    obtain ⟨b, vs, rfl, h0, h1, h2, h3⟩ := h
    exact ⟨b, vs, rfl, h0, hg b rfl, hh b _ rfl h2, h3.mono eg⟩
  | io l =>
    obtain ⟨b, vs, rfl, h0, h1, h2, h3⟩ := h
    exact ⟨b, vs, rfl, h0, hg b rfl, hh b _ rfl h2, h3.mono eg⟩
  | od m =>
    obtain ⟨b, vs, rfl, h0, h1, h2, h3⟩ := h
    exact ⟨b, vs, rfl, h0, hg b rfl, hh b _ rfl h2, h3.mono eg⟩
/-- a new object that is shared at once -/
theorem Ok.newG {q : Addr} {o : HO} (h : Ok K B G L H) (hq : H q = none) : Ok K B (L2.upd G q o) L (L2.upd H q o) := by
  have g := h.freshG hq
  have z := h.fresh0 hq
  refine ⟨fun a u e i => ?_, ex_sub h.sub hq, fun a u e => ?_, h.g0.trans (ex_new g), fun a i => ?_, fun n p e => ?_, h.dis⟩
  · have ha : a ≠ q := fun k => by
      subst k
      rw [z] at e
      cases e
    rw [upd_ne ha]
    exact h.fr a u e i
  · by_cases ha : a = q
    · subst ha
      exact .inr z
    · rw [upd_ne ha] at e
      exact h.gn a u e
  · by_cases ha : a = q
    · subst ha
      exact absurd hq (h.ios a i)
    · rw [upd_ne ha]
      exact h.ios a i
  · have k := h.ent n p e
    refine k.stay (ex_new g) (fun a oa => ?_) (fun a u oa ha => ?_)
    · have w := k.own_of oa
      by_cases ha : a = q
      · subst ha
        exact absurd hq w.2
      · rw [upd_ne ha]
        exact w.1
    · by_cases ha' : a = q
      · subst ha'
        rw [hq] at ha
        cases ha
      · rw [upd_ne ha']
        exact ha
/-- a new object of one's own -/
theorem Ok.newH {q : Addr} {o : HO} (h : Ok K B G L H) (hq : H q = none) : Ok K B G L (L2.upd H q o) := by
  have z := h.fresh0 hq
  refine ⟨fun a u e i => ?_, h.sub.trans (ex_new hq), h.gn, h.g0, fun a i => ?_, fun n p e => ?_, h.dis⟩
  · have ha : a ≠ q := fun k => by
      subst k
      rw [z] at e
      cases e
    rw [upd_ne ha]
    exact h.fr a u e i
  · by_cases ha : a = q
    · subst ha
      exact absurd hq (h.ios a i)
    · rw [upd_ne ha]
      exact h.ios a i
  · have k := h.ent n p e
    refine k.stay (Evl.Ex.refl G) (fun a oa => (k.own_of oa).1) (fun a u oa ha => ?_)
    by_cases ha' : a = q
    · subst ha'
      rw [hq] at ha
      cases ha
    · rw [upd_ne ha']
      exact ha
theorem Ok.newL {q : Addr} {xs : List V} {ds : List PyData} (h : Ok K B G L H) (hq : H q = none) (r : Reps K G xs ds) : Ok K B G ((some (.ref q), .ow ds) :: L) (L2.upd H q (.lst xs)) := by
  refine (h.newH hq).consO (a := q) ⟨q, xs, rfl, h.fresh0 hq, h.freshG hq, upd_same, r⟩ rfl fun n p e o => ?_
  exact ((h.ent n p e).own_of o).2 hq
theorem Ok.newD {q : Addr} {o : HO} {m : List (PyData × PyData)} (h : Ok K B G L H) (hq : H q = none) (r : DicO K G o m) : Ok K B G ((some (.ref q), .od m) :: L) (L2.upd H q o) := by
  refine (h.newH hq).consO (a := q) ⟨q, o, rfl, h.fresh0 hq, h.freshG hq, upd_same, r⟩ rfl fun n p e o => ?_
  exact ((h.ent n p e).own_of o).2 hq
theorem Ok.newT {q : Addr} {xs : List V} {ds : List PyData} (h : Ok K B G L H) (hq : H q = none) (r : Reps K G xs ds) : Ok K B (L2.upd G q (.tup xs)) ((some (.ref q), .sh (.tuple ds)) :: L) (L2.upd H q (.tup xs)) :=
  (h.newG hq).consR (.tup (.inl (.inl upd_same)) (r.mono (ex_new (h.freshG hq))))
/-- what one owns is shared from now on -/
theorem Ok.shareA {v : Option V} {s : Sl} {a : Addr} {o : HO} (h : Ok K B G ((v, s) :: L) H) (ho : ownA (v, s) = some a) (ha : H a = some o) (h0 : B.H0 a = none) : Ok K B (L2.upd G a o) L H := by
  have hg := (h.head.own_of ho).1
  have hL := h.tail
  refine ⟨h.fr, fun b u e => ?_, fun b u e => ?_, h.g0.trans (ex_new hg), h.ios, fun n p e => ?_, hL.dis⟩
  · by_cases k : b = a
    · subst k
      rw [upd_same] at e
      rw [← e]
      exact ha
    · rw [upd_ne k] at e
      exact h.sub b u e
  · by_cases k : b = a
    · subst k
      exact .inr h0
    · rw [upd_ne k] at e
      exact h.gn b u e
  · have k := hL.ent n p e
    refine k.stay (ex_new hg) (fun b ob => ?_) (fun b u _ q => q)
    have nb : b ≠ a := fun z => by
      subst z
      have := h.dis (n + 1) 0 p (v, s) b (by simpa using e) rfl ob ho
      cases this
    rw [upd_ne nb]
    exact (k.own_of ob).1
theorem Ok.share {x : V} {s : Sl} {d : PyData} (h : Ok K B G ((some x, s) :: L) H) (e : toD s = some d) : ∃ G', Ex G G' ∧ Ok K B G' ((some x, .sh d) :: L) H := by
  cases s with
  | un => simp [toD] at e
  | io l => simp [toD] at e
  | sc l => simp [toD] at e
  | sh d' =>
    simp [toD] at e
    subst e
    exact ⟨G, Evl.Ex.refl G, h⟩
  | ow l =>
    simp [toD] at e
    subst e
    obtain ⟨a, vs, e1, h0, h1, h2, h3⟩ := h.head
    cases e1
    have e' : Ex G (L2.upd G a (.lst vs)) := ex_new h1
    exact ⟨_, e', (h.shareA rfl h2 h0).consR (.lst upd_same (h3.mono e'))⟩
  | od m =>
    simp [toD] at e
    subst e
    obtain ⟨a, o, e1, h0, h1, h2, h3⟩ := h.head
    cases e1
    have e' : Ex G (L2.upd G a o) := ex_new h1
    refine ⟨_, e', (h.shareA rfl h2 h0).consR ?_⟩
    cases h3 with
    | dK q r => exact .dK upd_same q (r.mono e')
    | dT q r => exact .dT upd_same q (r.mono e')
/-- an entry goes, a thing of its own kind comes in its place: the object changes -/
theorem Ok.setA {n : Nat} {p p' : Ent} {a : Addr} {o : HO} (h : Ok K B G L H) (e : L[n]? = some p) (ho : ownA p = some a) (ho' : ownA p' = some a) (hi : B.H0 a = none ∨ B.IO a) (hp : EntOk K B G (L2.upd H a o) p') : Ok K B G (L.set n p') (L2.upd H a o) := by
  have hg := ((h.ent n p e).own_of ho).1
  have hn : n < L.length := (List.getElem?_eq_some_iff.mp e).1
  refine ⟨fun b u q i => ?_, fun b u q => ?_, h.gn, h.g0, fun b i => ?_, fun m q em => ?_, fun m k q r b e1 e2 o1 o2 => ?_⟩
  · have nb : b ≠ a := fun z => by
      subst z
      rcases hi with hi | hi
      · rw [hi] at q
        cases q
      · exact i hi
    rw [upd_ne nb]
    exact h.fr b u q i
  · have nb : b ≠ a := fun z => by
      subst z
      rw [hg] at q
      cases q
    rw [upd_ne nb]
    exact h.sub b u q
  · by_cases z : b = a
    · subst z
      rw [upd_same]
      simp
    · rw [upd_ne z]
      exact h.ios b i
  · by_cases z : m = n
    · subst z
      rw [List.getElem?_set_self hn] at em
      cases em
      exact hp
    · rw [List.getElem?_set_ne (Ne.symm z)] at em
      have k := h.ent m q em
      refine k.stay (Evl.Ex.refl G) (fun b ob => (k.own_of ob).1) (fun b u ob hb => ?_)
      have nb : b ≠ a := fun w => by
        subst w
        exact z (h.dis m n q p b em e ob ho)
      rw [upd_ne nb]
      exact hb
  · have back : ∀ {m : Nat} {q : Ent} {b : Addr}, (L.set n p')[m]? = some q → ownA q = some b → ∃ q0, L[m]? = some q0 ∧ ownA q0 = some b := fun {m q b} em ob => by
      by_cases z : m = n
      · subst z
        rw [List.getElem?_set_self hn] at em
        cases em
        rw [ho'] at ob
        cases ob
        exact ⟨p, e, ho⟩
      · rw [List.getElem?_set_ne (Ne.symm z)] at em
        exact ⟨q, em, ob⟩
    obtain ⟨q0, f1, g1⟩ := back e1 o1
    obtain ⟨r0, f2, g2⟩ := back e2 o2
    exact h.dis m k q0 r0 b f1 f2 g1 g2
/-- an entry that owns nothing in the place of another -/
theorem Ok.setU {n : Nat} {p' : Ent} (h : Ok K B G L H) (hp : EntOk K B G H p') (ho : ownA p' = none) : Ok K B G (L.set n p') H := by
  have mem : ∀ {m : Nat} {q : Ent}, (L.set n p')[m]? = some q → q = p' ∨ L[m]? = some q := fun {m q} em => by
    by_cases z : n = m
    · subst z
      by_cases hn : n < L.length
      · rw [List.getElem?_set_self hn] at em
        cases em
        exact .inl rfl
      · rw [List.getElem?_eq_none (by rw [List.length_set]; omega)] at em
        cases em
    · rw [List.getElem?_set_ne z] at em
      exact .inr em
  refine ⟨h.fr, h.sub, h.gn, h.g0, h.ios, fun m q em => ?_, fun m k q r b e1 e2 o1 o2 => ?_⟩
  · rcases mem em with z | z
    · subst z
      exact hp
    · exact h.ent m q z
  · rcases mem e1 with z | z
    · subst z
      rw [ho] at o1
      cases o1
    · rcases mem e2 with w | w
      · subst w
        rw [ho] at o2
        cases o2
      · exact h.dis m k q r b z w o1 o2
/-- the head goes into place n -/
theorem Ok.setH {n : Nat} {p : Ent} (h : Ok K B G (p :: L) H) : Ok K B G (L.set n p) H := by
  cases ho : ownA p with
  | none => exact h.tail.setU h.head ho
  | some a =>
    have mem : ∀ {m : Nat} {q : Ent}, (L.set n p)[m]? = some q → (q = p ∧ m = n) ∨ L[m]? = some q := fun {m q} em => by
      by_cases z : n = m
      · subst z
        by_cases hn : n < L.length
        · rw [List.getElem?_set_self hn] at em
          cases em
          exact .inl ⟨rfl, rfl⟩
        · rw [List.getElem?_eq_none (by rw [List.length_set]; omega)] at em
          cases em
      · rw [List.getElem?_set_ne z] at em
        exact .inr em
    refine ⟨h.fr, h.sub, h.gn, h.g0, h.ios, fun m q em => ?_, fun m k q r b e1 e2 o1 o2 => ?_⟩
    · rcases mem em with z | z
      · rw [z.1]
        exact h.head
      · exact h.tail.ent m q z
    · rcases mem e1 with z | z
      · rcases mem e2 with w | w
        · rw [z.2, w.2]
        · rw [z.1] at o1
          have := h.dis 0 (k + 1) p r b rfl (by simpa using w) o1 o2
          cases this
      · rcases mem e2 with w | w
        · rw [w.1] at o2
          have := h.dis (m + 1) 0 q p b (by simpa using z) rfl o1 o2
          cases this
        · exact h.tail.dis m k q r b z w o1 o2
/-- the entry at n comes to the head, nothing is left at n -/
theorem Ok.take {n : Nat} {p : Ent} {u : Option V} (h : Ok K B G L H) (e : L[n]? = some p) : Ok K B G (p :: L.set n (u, .un)) H := by
  have hn : n < L.length := (List.getElem?_eq_some_iff.mp e).1
  have h1 : Ok K B G (L.set n (u, .un)) H := h.setU trivial (ownA_un u)
  cases ho : ownA p with
  | none => exact h1.consU (h.ent n p e) ho
  | some a =>
    refine h1.consO (h.ent n p e) ho fun m q em oq => ?_
    by_cases z : m = n
    · subst z
      rw [List.getElem?_set_self hn] at em
      cases em
      rw [ownA_un] at oq
      cases oq
    · rw [List.getElem?_set_ne (Ne.symm z)] at em
      exact z (h.dis m n q p a em e oq ho)
/-- fewer entries -/
theorem Ok.sub' {L' : List Ent} (h : Ok K B G L H) (f : Nat → Nat) (hf : ∀ m n, m < L'.length → n < L'.length → f m = f n → m = n) (hl : ∀ n, n < L'.length → L[f n]? = L'[n]?) : Ok K B G L' H := by
  have lt : ∀ {n : Nat} {p : Ent}, L'[n]? = some p → n < L'.length := fun {n p} e => (List.getElem?_eq_some_iff.mp e).1
  refine ⟨h.fr, h.sub, h.gn, h.g0, h.ios, fun n p e => h.ent (f n) p ((hl n (lt e)).trans e), fun m n p q a e1 e2 o1 o2 => hf m n (lt e1) (lt e2) (h.dis _ _ p q a ((hl m (lt e1)).trans e1) ((hl n (lt e2)).trans e2) o1 o2)⟩
end
end PP
namespace PP
open PySem L2 PySem.Spec PyProof.Rows
theorem lim_le {n : Nat} (h : n ≤ lim) : n ≤ sizeLine := Nat.le_trans h (by rw [sizeLine_eq]; decide)
theorem lim_lt {n : Nat} (h : n < lim) : n < sizeLine := Nat.lt_of_lt_of_le h (by rw [sizeLine_eq]; decide)
/-! ### data of some depth -/
mutual
theorem lev_can : ∀ (n : Nat) (d : PyData), lev n d = true → d.canLay0 = true
  | _, .none, _ => rfl
  | _, .bool _, _ => rfl
  | _, .int _, _ => rfl
  | 0, .str x, h => h
  | _ + 1, .str x, h => h
  | 0, .list xs, h => by simp [lev] at h
  | 0, .tuple xs, h => by simp [lev] at h
  | n + 1, .list xs, h => levs_can n xs h
  | n + 1, .tuple xs, h => levs_can n xs h
  | 0, .dict _, h => by simp [lev] at h
  | _ + 1, .dict _, h => by simp [lev] at h
theorem levs_can : ∀ (n : Nat) (ds : List PyData), ds.all (lev n) = true → PyData.canLayAll0 ds = true
  | _, [], _ => rfl
  | n, d :: ds, h => by
    rw [List.all_cons, Bool.and_eq_true] at h
    show (PyData.canLay0 d && PyData.canLayAll0 ds) = true
    rw [lev_can n d h.1, levs_can n ds h.2]
    rfl
end
mutual
theorem lev_depth : ∀ (n : Nat) (d : PyData), lev n d = true → d.depth ≤ n
  | _, .none, _ => Nat.zero_le _
  | _, .bool _, _ => Nat.zero_le _
  | _, .int _, _ => Nat.zero_le _
  | _, .str x, h => Nat.zero_le _
  | 0, .list xs, h => by simp [lev] at h
  | 0, .tuple xs, h => by simp [lev] at h
  | n + 1, .list xs, h => Nat.succ_le_succ (levs_depth n xs h)
  | n + 1, .tuple xs, h => Nat.succ_le_succ (levs_depth n xs h)
  | 0, .dict _, h => by simp [lev] at h
  | _ + 1, .dict _, h => by simp [lev] at h
theorem levs_depth : ∀ (n : Nat) (ds : List PyData), ds.all (lev n) = true → PyData.depthAll ds ≤ n
  | _, [], _ => Nat.zero_le _
  | n, d :: ds, h => by
    rw [List.all_cons, Bool.and_eq_true] at h
    exact Nat.max_le.mpr ⟨lev_depth n d h.1, levs_depth n ds h.2⟩
end
theorem lev_shaped {n : Nat} {d : PyData} (hn : n ≤ 64) (h : lev n d = true) : SeqAt.shaped d = true := by
  unfold SeqAt.shaped
  rw [lev_can n d h, decide_eq_true (Nat.le_trans (lev_depth n d h) hn)]
  rfl
section
variable {K : PySem.W.Frag} {G H : Hp}
mutual
theorem Rep.dp (e : Ex G H) : ∀ (n : Nat) {v : V} {d : PyData}, lev n d = true → Rep K G v d → Dp K H v d
  | _, _, _, _, .non => .non
  | _, _, _, _, .bl b => .bl b
  | _, _, _, _, .int i => .int i
  | _, _, _, _, .str x => .str x
  | 0, _, _, h, .lst _ _ => by simp [lev] at h
  | 0, _, _, h, .tup _ _ => by simp [lev] at h
  | n + 1, _, _, h, .lst q r => .lst (.inl (.inl (e _ _ q))) (Reps.dp e n h r)
  | n + 1, _, _, h, .tup q r => .tup (Evl.ex_t e q) (Reps.dp e n h r)
  | 0, _, _, h, .dK _ _ _ => by simp [lev] at h
  | 0, _, _, h, .dT _ _ _ => by simp [lev] at h
  | _ + 1, _, _, h, .dK _ _ _ => by simp [lev] at h
  | _ + 1, _, _, h, .dT _ _ _ => by simp [lev] at h
theorem Reps.dp (e : Ex G H) : ∀ (n : Nat) {vs : List V} {ds : List PyData}, ds.all (lev n) = true → Reps K G vs ds → DpAll K H vs ds
  | _, _, _, _, .nil => .nil
  | n, _, _, h, .cons r rs => by
    rw [List.all_cons, Bool.and_eq_true] at h
    exact .cons (Rep.dp e n h.1 r) (Reps.dp e n h.2 rs)
end
end
theorem Rep1.dp {K : PySem.W.Frag} {G H : Hp} {v : V} {d : PyData} (e : Ex G H) (n : Nat) (h : lev n d = true) (r : Rep1 K G H v d) : Dp K H v d := by
  cases r with
  | non => exact .non
  | bl b => exact .bl b
  | int i => exact .int i
  | str x => exact .str x
  | lst q r =>
    cases n with
    | zero => simp [lev] at h
    | succ n => exact .lst (.inl (.inl q)) (r.dp e n h)
  | tup q r =>
    cases n with
    | zero => simp [lev] at h
    | succ n => exact .tup (Evl.ex_t e q) (r.dp e n h)
  | dic q r => cases n <;> simp [lev] at h
/-! ### operators -/
def opf : O2 → Value → Value → Sem Value
  | .add => binaryOp .Add
  | .sub => binaryOp .Sub
  | .mul => binaryOp .Mult
  | .fdiv => binaryOp .FloorDiv
  | .mod => binaryOp .Mod
  | .shl => binaryOp .LShift
  | .shr => binaryOp .RShift
  | .band => binaryOp .BitAnd
  | .bor => binaryOp .BitOr
  | .eq => compareOp .Eq
  | .ne => compareOp .NotEq
  | .lt => compareOp .Lt
  | .le => compareOp .LtE
  | .gt => compareOp .Gt
  | .ge => compareOp .GtE
  | .is => compareOp .Is
  | .isnt => compareOp .IsNot
  | .isin => compareOp .In
  | .notin => compareOp .NotIn
  | .ix => getItem
/-- the strongest reading -/
def s2 (X : Cx) (o : O2) : R2 := fun x y H Q => ∀ (pins : List (Addr × Obj)) (s : Shared) (σ : L2.St) (v u : Value), Inv X pins σ H s → RelV x v → RelV y u → wpAny (model X.prog X.w) X.A (opf o v u) (EP X pins σ Q) X.xe s
theorem s2_of {X : Cx} {o : O2} {r : R2} (h : OpR X (opf o) r) {x y : V} {H : Hp} {Q : VK} (q : r x y H Q) : s2 X o x y H Q := fun pins s σ v u I rx ry => h pins s σ H x y v u Q I rx ry q
def sIx (X : Cx) : R2 := fun x y H Q => ∀ (value slice : Expr) (pins : List (Addr × Obj)) (s : Shared) (σ : L2.St) (v u : Value), Inv X pins σ H s → RelV x v → RelV y u → subscripted slice false v u = operate [v, u] (getItem v u) →
  wpAny (model X.prog X.w) X.A (subscriptTail value slice v u) (EP X pins σ Q) X.xe s
theorem ix_s (X : Cx) : IxR X (sIx X) := fun value slice pins s σ H x y v u Q I rx ry h hs => h value slice pins s σ v u I rx ry hs
theorem sIx_of {X : Cx} {r : R2} (h : IxR X r) {x y : V} {H : Hp} {Q : VK} (q : r x y H Q) : sIx X x y H Q := fun value slice pins s σ v u I rx ry hs => h value slice pins s σ H x y v u Q I rx ry q hs
section
variable {X : Cx} {B : Fr} {G H : Hp} {L : List Ent} {x y : V} {d e : PyData} {r : Sl} {Q : VK}
abbrev Post (X : Cx) (B : Fr) (G : Hp) (L : List Ent) (r : Sl) (Q : VK) : Prop := ∀ v G' H', Ex G G' → Ok X.K B G' ((some v, r) :: L) H' → Q v H'
theorem post_int (ok : Ok X.K B G L H) {i : Int} (q : Post X B G L (.sh (.int i)) Q) : Q (.int i) H := q _ G H (Evl.Ex.refl G) (ok.consR (.int i))
theorem post_bl (ok : Ok X.K B G L H) {b : Bool} (q : Post X B G L (.sh (.bool b)) Q) : Q (.bl b) H := q _ G H (Evl.Ex.refl G) (ok.consR (.bl b))
theorem post_str (ok : Ok X.K B G L H) {b : Str} (q : Post X B G L (.sh (.str b)) Q) : Q (.str b) H := q _ G H (Evl.Ex.refl G) (ok.consR (.str b))
theorem mulOk_c {i j : Int} (h : mulOk i j = true) : CMulW i j := by
  simpa [mulOk, CMulW] using h
theorem divOk_c {i j : Int} (h : divOk j = true) : CDivW i j := by
  unfold divOk at h
  rw [Bool.and_eq_true] at h
  exact ⟨of_decide_eq_true h.1, of_decide_eq_true h.2⟩
theorem cutD_eq (xs : List V) (ds : List PyData) (lo hi : Option Int) (r : Reps X.K G xs ds) : Reps X.K G (cutV xs lo hi) (cutD ds lo hi) := by
  unfold cutV cutD
  rw [r.length]
  exact (r.drop _).take _
theorem atI_rep {vs : List V} {ds : List PyData} {i : Int} {d : PyData} (r : Reps X.K G vs ds) (h : atI ds i = some d) : ∃ v, atI vs i = some v ∧ Rep X.K G v d := by
  unfold atI at h ⊢
  rw [r.length]
  cases e : ixN ds.length i with
  | none =>
    rw [e] at h
    cases h
  | some j =>
    rw [e] at h
    exact r.get h
theorem len_append_nil {α : Type} {a b : List α} (h : a = []) : a ++ b = b := by rw [h]; rfl
theorem op2_ok (hu : X.A.units + 65 < cLine) : ∀ (o : O2) (d e : PyData), op2 o d e = some r → o ≠ .ix → Ok X.K B G L H → Rep1 X.K G H x d → Rep1 X.K G H y e → Post X B G L r Q → s2 X o x y H Q := by
  intro o d e h hix ok rx ry q
  have hs := ok.sub
  cases o
  case ix => exact absurd rfl hix
  case eq =>
    simp only [op2, Option.ite_none_right_eq_some, Bool.and_eq_true, bl, Option.some.injEq] at h
    obtain ⟨⟨h1, h2⟩, rfl⟩ := h
    exact s2_of (op_eqD (by omega)) ⟨d, e, rx.dp hs 8 h1, ry.dp hs 8 h2, lev_shaped (by decide) h1, lev_shaped (by decide) h2, post_bl ok q⟩
  case ne =>
    simp only [op2, Option.ite_none_right_eq_some, Bool.and_eq_true, bl, Option.some.injEq] at h
    obtain ⟨⟨h1, h2⟩, rfl⟩ := h
    exact s2_of (op_neD (by omega)) ⟨d, e, rx.dp hs 8 h1, ry.dp hs 8 h2, lev_shaped (by decide) h1, lev_shaped (by decide) h2, post_bl ok q⟩
  case is =>
    cases ry <;> simp only [op2, bl, Option.some.injEq, reduceCtorEq] at h
    subst h
    refine s2_of op_isN ⟨rfl, ?_⟩
    cases rx <;> exact post_bl ok q
  case isnt =>
    cases ry <;> simp only [op2, bl, Option.some.injEq, reduceCtorEq] at h
    subst h
    refine s2_of op_notN ⟨rfl, ?_⟩
    cases rx <;> exact post_bl ok q
  case isin =>
    cases ry <;> simp only [op2, bl, Option.ite_none_right_eq_some, Bool.and_eq_true, Option.some.injEq, reduceCtorEq] at h
    rename_i a xs ds ha ra
    obtain ⟨⟨h1, h2⟩, rfl⟩ := h
    have h3 : lev 8 (.list ds) = true := h2
    exact s2_of (op_inD (by omega)) ⟨d, ds, rx.dp hs 8 h1, Rep1.dp hs 8 h3 (.lst ha ra), lev_shaped (by decide) h1, lev_shaped (by decide) h3, post_bl ok q⟩
  case notin =>
    cases ry <;> simp only [op2, bl, Option.ite_none_right_eq_some, Bool.and_eq_true, Option.some.injEq, reduceCtorEq] at h
    rename_i a xs ds ha ra
    obtain ⟨⟨h1, h2⟩, rfl⟩ := h
    have h3 : lev 8 (.list ds) = true := h2
    exact s2_of (op_notInD (by omega)) ⟨d, ds, rx.dp hs 8 h1, Rep1.dp hs 8 h3 (.lst ha ra), lev_shaped (by decide) h1, lev_shaped (by decide) h3, post_bl ok q⟩
  case add =>
    cases rx <;> cases ry <;> simp only [op2, it, Option.ite_none_right_eq_some, Option.some.injEq, reduceCtorEq] at h
    · subst h
      exact s2_of op_add ⟨_, _, rfl, rfl, post_int ok q⟩
    · obtain ⟨h1, rfl⟩ := h
      exact s2_of op_add_str ⟨_, _, rfl, rfl, lim_le h1, post_str ok q⟩
    · rename_i a xs ds ha ra b ys es hb rb
      obtain ⟨h1, rfl⟩ := h
      refine s2_of op_cat ⟨a, b, xs, ys, rfl, rfl, ha, hb, ?_, fun p hp => q _ G _ (Evl.Ex.refl G) (ok.newL hp (ra.append rb))⟩
      rw [ra.length, rb.length]
      exact lim_le h1
    · rename_i a xs ds ha ra b ys es hb rb
      obtain ⟨h1, rfl⟩ := h
      refine s2_of op_catA ⟨a, b, xs, ys, rfl, rfl, Evl.ex_t hs ha, Evl.ex_t hs hb, ?_, fun z => ?_, fun z1 z2 => ?_, fun z1 z2 p hp => ?_⟩
      · rw [ra.length, rb.length]
        exact lim_le h1
      · subst z
        cases ra
        exact q _ G _ (Evl.Ex.refl G) (ok.consR (.tup hb rb))
      · subst z2
        cases rb
        rw [List.append_nil] at q
        exact q _ G _ (Evl.Ex.refl G) (ok.consR (.tup ha ra))
      · exact q _ _ _ (ex_new (ok.freshG hp)) (ok.newT hp (ra.append rb))
  case sub =>
    cases rx <;> cases ry <;> simp only [op2, it, Option.ite_none_right_eq_some, Option.some.injEq, reduceCtorEq] at h
    subst h
    exact s2_of op_sub ⟨_, _, rfl, rfl, post_int ok q⟩
  case mul =>
    cases rx <;> cases ry <;> simp only [op2, it, Option.ite_none_right_eq_some, Option.some.injEq, reduceCtorEq] at h
    · obtain ⟨h1, rfl⟩ := h
      exact s2_of op_mulW ⟨_, _, rfl, rfl, mulOk_c h1, post_int ok q⟩
    · rename_i a xs ds ha ra j
      obtain ⟨h1, rfl⟩ := h
      simp only [Bool.and_eq_true, decide_eq_true_eq] at h1
      obtain ⟨⟨h1, h2⟩, h3⟩ := h1
      refine s2_of op_rep ⟨a, j, xs, rfl, rfl, ha, by omega, by omega, ?_, fun p hp => q _ G _ (Evl.Ex.refl G) (ok.newL hp (ra.rep _))⟩
      rw [ra.length, sizeLine_eq]
      exact Nat.le_trans (Nat.mul_le_mul h1 (show j.toNat ≤ 1000 by omega)) (by decide)
  case fdiv =>
    cases rx <;> cases ry <;> simp only [op2, it, Option.ite_none_right_eq_some, Option.some.injEq, reduceCtorEq] at h
    obtain ⟨h1, rfl⟩ := h
    exact s2_of op_fdivW ⟨_, _, rfl, rfl, divOk_c h1, post_int ok q⟩
  case mod =>
    cases rx <;> cases ry <;> simp only [op2, it, Option.ite_none_right_eq_some, Option.some.injEq, reduceCtorEq] at h
    obtain ⟨h1, rfl⟩ := h
    exact s2_of op_mod ⟨_, _, rfl, rfl, h1, post_int ok q⟩
  case shl =>
    cases rx <;> cases ry <;> simp only [op2, it, Option.ite_none_right_eq_some, Option.some.injEq, reduceCtorEq] at h
    obtain ⟨h1, rfl⟩ := h
    simp only [Bool.and_eq_true, decide_eq_true_eq] at h1
    exact s2_of op_shl ⟨_, _, rfl, rfl, ⟨h1.1.1, by omega, by omega⟩, post_int ok q⟩
  case shr =>
    cases rx <;> cases ry <;> simp only [op2, it, Option.ite_none_right_eq_some, Option.some.injEq, reduceCtorEq] at h
    obtain ⟨h1, rfl⟩ := h
    exact s2_of op_shr ⟨_, _, rfl, rfl, h1, post_int ok q⟩
  case band =>
    cases rx <;> cases ry <;> simp only [op2, it, Option.ite_none_right_eq_some, Option.some.injEq, reduceCtorEq] at h
    subst h
    exact s2_of op_and ⟨_, _, rfl, rfl, post_int ok q⟩
  case bor =>
    cases rx <;> cases ry <;> simp only [op2, it, Option.ite_none_right_eq_some, Option.some.injEq, reduceCtorEq] at h
    subst h
    exact s2_of op_or ⟨_, _, rfl, rfl, post_int ok q⟩
  case lt =>
    cases rx <;> cases ry <;> simp only [op2, bl, Option.ite_none_right_eq_some, Option.some.injEq, reduceCtorEq] at h
    subst h
    exact s2_of op_lt ⟨_, _, rfl, rfl, post_bl ok q⟩
  case le =>
    cases rx <;> cases ry <;> simp only [op2, bl, Option.ite_none_right_eq_some, Option.some.injEq, reduceCtorEq] at h
    subst h
    exact s2_of op_le ⟨_, _, rfl, rfl, post_bl ok q⟩
  case gt =>
    cases rx <;> cases ry <;> simp only [op2, bl, Option.ite_none_right_eq_some, Option.some.injEq, reduceCtorEq] at h
    subst h
    exact s2_of op_gt ⟨_, _, rfl, rfl, post_bl ok q⟩
  case ge =>
    cases rx <;> cases ry <;> simp only [op2, bl, Option.ite_none_right_eq_some, Option.some.injEq, reduceCtorEq] at h
    subst h
    exact s2_of op_ge ⟨_, _, rfl, rfl, post_bl ok q⟩
/-- a[i]: the container's value as it lies now -/
theorem ix_ok : ∀ (d e : PyData), op2 .ix d e = some r → Ok X.K B G L H → Rep1 X.K G H x d → Rep1 X.K G H y e → Post X B G L r Q → sIx X x y H Q := by
  intro d e h ok rx ry q
  have hs := ok.sub
  cases ry <;> cases rx <;> simp only [op2, it, Option.ite_none_right_eq_some, Option.some.injEq, Option.map_eq_some_iff, reduceCtorEq] at h
  · obtain ⟨h1, c, h2, rfl⟩ := h
    exact sIx_of ix_str ⟨_, _, c, rfl, rfl, lim_le h1, h2, post_str ok q⟩
  · rename_i a xs ds ha ra
    obtain ⟨c, h2, rfl⟩ := h
    obtain ⟨v, h3, h4⟩ := atI_rep ra h2
    exact sIx_of ix_list ⟨_, _, _, v, rfl, rfl, .inl (.inl ha), h3, q _ G H (Evl.Ex.refl G) (ok.consR h4)⟩
  · rename_i a xs ds ha ra
    obtain ⟨c, h2, rfl⟩ := h
    obtain ⟨v, h3, h4⟩ := atI_rep ra h2
    exact sIx_of ix_tup ⟨_, _, _, v, rfl, rfl, Evl.ex_t hs ha, h3, q _ G H (Evl.Ex.refl G) (ok.consR h4)⟩
end
end PP
namespace PP
open PySem L2 PySem.Spec PyProof.Rows
section
variable {prog : Program} {w : World} {A : Around} {E : Value → Shared → Prop} {s : Shared} {l : Addr} {its : List Value} {ns : List Int} {Q : Value → Shared → Prop}
theorem iter_tupA {items : Array Value} (hl : s.heap.IsTuple l items)
    (h : ∀ s₂ : Shared, s₂ = { s with heap := s.heap.push { cls := .type "tuple_iterator", data := .fields #[.ref l, .int 0 0] } } →
      (s₂.heap.IsTupleIter s.heap.objs.size l 0 ∧ s₂.heap.IsTuple l items) → (∀ b ∈ [s.heap.objs.size, l], b < s₂.heap.objs.size) → l ≠ s.heap.objs.size → Q (.ref s.heap.objs.size) s₂) : wpAny (model prog w) A (pyIter (.ref l)) Q E s := by
  have hlt : l < s.heap.objs.size := by obtain ⟨_, e, _⟩ := hl; exact Heap.lt_size e
  refine wpAny_pyIter_tuple hl (h _ rfl ⟨⟨_, Heap.get?_push_size _ rfl, rfl, rfl⟩, hl.push _⟩ (fun b hb => ?_) (Nat.ne_of_lt hlt))
  rw [Heap.size_push]
  rcases List.mem_cons.mp hb with rfl | hb
  · exact Nat.lt_succ_self _
  · rcases List.mem_cons.mp hb with rfl | hb
    · exact Nat.lt_succ_of_lt hlt
    · cases hb
theorem old_keptT {h' : Heap} {ob : Obj} (hk : ∀ b o, b ∉ [s.heap.objs.size] → (s.heap.push ob).get? b = some o → h'.get? b = some o) : ∀ b o, s.heap.get? b = some o → h'.get? b = some o := fun b o e => by
  refine hk b o (fun hm => ?_) (Heap.get?_push_of_some _ e)
  rcases List.mem_cons.mp hm with e1 | hm
  · have := Heap.lt_size e
    rw [e1] at this
    exact absurd this (Nat.lt_irrefl _)
  · cases hm
theorem sumT_raw (hh : A.handled = none) (hl : s.heap.IsTuple l its.toArray) (hi : IntsAre its ns)
    (h : ∀ h' tk t', (∀ b o, s.heap.get? b = some o → h'.get? b = some o) → Q (.int ns.sum t') { s with heap := h', toks := tk }) : wpAny (model prog w) A (call (.builtin "sum") [.ref l]) Q E s := by
  obtain ⟨xs, e⟩ := hi.allInts.items
  have hn : numsOf (intItems xs).toList = ns := by rw [← e]; exact hi.numsOf
  rw [nums_intItems] at hn
  rw [e] at hl
  refine call_sum_walkG (iter_tupA hl fun s₂ e st hfp hlI => ?_)
  subst e
  refine ⟨_, _, _, _, _, _, numAt xs, rfl, Walks.tuple (A := A.in1) hh _ l hlI (intItems xs), st, hfp, (fun _ _ => intItems_at), fun h' tk t' hk => ?_⟩
  have := h h' tk t' (old_keptT hk)
  have e2 : preSum (numAt xs) (intItems xs).size = ns.sum := by
    rw [preSum_eq, List.take_of_length_le (by simp [intItems]), hn]
  rw [e2]
  exact this
theorem maxT_raw (hh : A.handled = none) (hl : s.heap.IsTuple l its.toArray) (hi : IntsAre its ns) (hne : 0 < ns.length)
    (h : ∀ h' tk M t', (∀ b o, s.heap.get? b = some o → h'.get? b = some o) → M ∈ ns → (∀ a, a ∈ ns → a ≤ M) → Q (.int M t') { s with heap := h', toks := tk }) : wpAny (model prog w) A (call (.builtin "max") [.ref l]) Q E s := by
  obtain ⟨xs, e⟩ := hi.allInts.items
  have hn : numsOf (intItems xs).toList = ns := by rw [← e]; exact hi.numsOf
  rw [nums_intItems] at hn
  subst hn
  rw [e] at hl
  have hsz : 0 < xs.size := by simpa using hne
  refine call_max_walk (iter_tupA hl fun s₂ e st hfp hlI => ?_)
  subst e
  refine ⟨_, _, _, _, _, _, _, rfl, Walks.tuple (A := A.in1) hh _ l hlI (intItems xs), st, hfp, by simpa [intItems] using hsz, CmpOf.ints_gt (numAt xs) (fun _ _ => intItems_at), fun v h' tk hP hk => ?_⟩
  obtain ⟨t, rfl⟩ := intItems_at (show (intItems xs)[_]? = some v from by simpa [intItems] using hP)
  obtain ⟨h1, h2⟩ := argBest_gt (numAt xs) (xs.size - 1)
  refine h h' tk _ t (old_keptT hk) ?_ fun a ha => ?_
  · rw [numAt_eq]; exact PySem.getD_mem (by rw [List.length_map, Array.length_toList]; exact Nat.lt_of_le_of_lt h1 (by omega))
  · obtain ⟨j, hj, rfl⟩ := mem_getD ha
    rw [List.length_map, Array.length_toList] at hj
    rw [← numAt_eq]; exact h2 j (by omega)
theorem minT_raw (hh : A.handled = none) (hl : s.heap.IsTuple l its.toArray) (hi : IntsAre its ns) (hne : 0 < ns.length)
    (h : ∀ h' tk M t', (∀ b o, s.heap.get? b = some o → h'.get? b = some o) → M ∈ ns → (∀ a, a ∈ ns → M ≤ a) → Q (.int M t') { s with heap := h', toks := tk }) : wpAny (model prog w) A (call (.builtin "min") [.ref l]) Q E s := by
  obtain ⟨xs, e⟩ := hi.allInts.items
  have hn : numsOf (intItems xs).toList = ns := by rw [← e]; exact hi.numsOf
  rw [nums_intItems] at hn
  subst hn
  rw [e] at hl
  have hsz : 0 < xs.size := by simpa using hne
  refine call_min_walk (iter_tupA hl fun s₂ e st hfp hlI => ?_)
  subst e
  refine ⟨_, _, _, _, _, _, _, rfl, Walks.tuple (A := A.in1) hh _ l hlI (intItems xs), st, hfp, by simpa [intItems] using hsz, CmpOf.ints_lt (numAt xs) (fun _ _ => intItems_at), fun v h' tk hP hk => ?_⟩
  obtain ⟨t, rfl⟩ := intItems_at (show (intItems xs)[_]? = some v from by simpa [intItems] using hP)
  obtain ⟨h1, h2⟩ := argBest_lt (numAt xs) (xs.size - 1)
  refine h h' tk _ t (old_keptT hk) ?_ fun a ha => ?_
  · rw [numAt_eq]; exact PySem.getD_mem (by rw [List.length_map, Array.length_toList]; exact Nat.lt_of_le_of_lt h1 (by omega))
  · obtain ⟨j, hj, rfl⟩ := mem_getD ha
    rw [List.length_map, Array.length_toList] at hj
    rw [← numAt_eq]; exact h2 j (by omega)
end
section
variable {X : Cx}
def rSumT (K : PySem.W.Frag) : List V → Hp → VK → Prop := fun vs H Q => ∃ (a : Addr) (ns : List Int), vs = [V.ref a] ∧ SqT K H a (ns.map V.int) ∧ Q (.int ns.sum) H
def rMaxT (K : PySem.W.Frag) : List V → Hp → VK → Prop := fun vs H Q => ∃ (a : Addr) (ns : List Int), vs = [V.ref a] ∧ SqT K H a (ns.map V.int) ∧ 0 < ns.length ∧ ∀ m, m ∈ ns → (∀ y, y ∈ ns → y ≤ m) → Q (.int m) H
def rMinT (K : PySem.W.Frag) : List V → Hp → VK → Prop := fun vs H Q => ∃ (a : Addr) (ns : List Int), vs = [V.ref a] ∧ SqT K H a (ns.map V.int) ∧ 0 < ns.length ∧ ∀ m, m ∈ ns → (∀ y, y ∈ ns → m ≤ y) → Q (.int m) H
theorem cr_sumT (hc : X.calm = true) : CallR X (.builtin "sum") (rSumT X.K) := by
  intro pins s σ H vs us Q I r h
  obtain ⟨a, ns, rfl, hs, q⟩ := h
  obtain ⟨its, rv, hl, _⟩ := I.tuple hs
  rw [Vals.ref1 r]
  exact sumT_raw (I.ok.hd hc) hl rv.ints fun h' tk t' hk => ⟨.int _, H, I.kept hk, ⟨_, rfl⟩, q⟩
theorem cr_maxT (hc : X.calm = true) : CallR X (.builtin "max") (rMaxT X.K) := by
  intro pins s σ H vs us Q I r h
  obtain ⟨a, ns, rfl, hs, hn, q⟩ := h
  obtain ⟨its, rv, hl, _⟩ := I.tuple hs
  rw [Vals.ref1 r]
  exact maxT_raw (I.ok.hd hc) hl rv.ints hn fun h' tk m t' hk h1 h2 => ⟨.int _, H, I.kept hk, ⟨_, rfl⟩, q m h1 h2⟩
theorem cr_minT (hc : X.calm = true) : CallR X (.builtin "min") (rMinT X.K) := by
  intro pins s σ H vs us Q I r h
  obtain ⟨a, ns, rfl, hs, hn, q⟩ := h
  obtain ⟨its, rv, hl, _⟩ := I.tuple hs
  rw [Vals.ref1 r]
  exact minT_raw (I.ok.hd hc) hl rv.ints hn fun h' tk m t' hk h1 h2 => ⟨.int _, H, I.kept hk, ⟨_, rfl⟩, q m h1 h2⟩
end
/-! ### sorted -/
section
variable {X : Cx} {G H : Hp} {s : Shared} {σ : L2.St} {pins : List (Addr × Obj)}
theorem each_rep : ∀ {vs : List V} {us : List Value} {ds : List PyData}, Vals vs us → Reps X.K G vs ds → PySem.W.EachIs (fun u d => ∃ v, RelV v u ∧ Rep X.K G v d) us ds
  | _, _, _, .nil, .nil => .nil
  | _, _, _, .cons r rs, .cons p ps => .cons ⟨_, r, p⟩ (each_rep rs ps)
theorem each_back : ∀ {us : List Value} {ds : List PyData}, PySem.W.EachIs (fun u d => ∃ v, RelV v u ∧ Rep X.K G v d) us ds → ∃ vs, Vals vs us ∧ Reps X.K G vs ds
  | _, _, .nil => ⟨[], .nil, .nil⟩
  | _, _, .cons ⟨v, r, p⟩ t => by
    obtain ⟨vs, a, b⟩ := each_back t
    exact ⟨v :: vs, .cons r a, .cons p b⟩
theorem each_reads (I : Inv X pins σ H s) (e : Ex G H) : ∀ {vs : List V} {us : List Value} {ds : List PyData}, ds.all (lev 7) = true → Vals vs us → Reps X.K G vs ds → PySem.W.EachIs (fun u d => ∃ as, Reads s.heap u (id d) as) us ds
  | _, _, _, _, .nil, .nil => .nil
  | _, _, _, h, .cons r rs, .cons p ps => by
    rw [List.all_cons, Bool.and_eq_true] at h
    exact .cons (Dp.reads I _ _ _ (p.dp e 7 h.1) r) (each_reads I e h.2 rs ps)
def rSortD (X : Cx) (G : Hp) : List V → Hp → VK → Prop := fun vs H Q => ∃ (a : Addr) (xs : List V) (ds : List PyData), vs = [V.ref a] ∧ SqL X.K H a xs ∧ Reps X.K G xs ds ∧ Ex G H ∧ sortOk ds = true ∧
  ∀ (ys : List V) (p : Addr), Reps X.K G ys (sortD ds) → H p = none → Q (.ref p) (L2.upd H p (.lst ys))
theorem cr_sortD (hu : X.A.units + 65 < cLine) : CallR X (.builtin "sorted") (rSortD X G) := by
  intro pins s σ H vs us Q I r h
  obtain ⟨a, xs, ds, rfl, hs, hr, eg, hk, q⟩ := h
  obtain ⟨its, rv, hl, hz⟩ := I.list hs
  rw [Vals.ref1 r]
  unfold sortOk at hk
  simp only [Bool.and_eq_true, decide_eq_true_eq] at hk
  obtain ⟨⟨⟨h1, h2⟩, h3⟩, h4⟩ := hk
  have hal : PySem.W.AllAlike (ds.map id) := by
    rw [List.map_id]
    intro d hd d' hd'
    exact List.all_eq_true.mp (List.all_eq_true.mp h1 d hd) d' hd'
  have hso : PySem.W.Sortable (ds.map id) := by
    rw [List.map_id]
    rw [Bool.or_eq_true] at h2
    rcases h2 with h2 | h2
    · refine .inl fun d hd => ?_
      have := List.all_eq_true.mp h2 d hd
      unfold tupNE at this
      split at this
      · exact ⟨_, _, rfl⟩
      · cases this
    · refine .inr fun d hd => ?_
      have := List.all_eq_true.mp h2 d hd
      unfold notTup at this
      split at this
      · cases this
      · cases this
      · exact ⟨by assumption, by assumption⟩
  refine PySem.W.sorted_data (enc := id) hl.isList (each_rep rv hr) (each_reads I eg h3 rv hr) hal hso (lim_le h4) (fun b hb => ?_) fun out h5 h6 => ?_
  · have := lev_depth 7 b (List.all_eq_true.mp h3 b hb)
    show X.A.units + 2 + b.depth < cLine
    omega
  · obtain ⟨ys, y1, y2⟩ := each_back h6
    obtain ⟨ep, he'⟩ := PyProof.Rows.sortedAll_at s.heap its out.toArray
    have hlen : ys.length ≤ sizeLine := by
      rw [y1.length, h5]
      exact lim_le h4
    exact ⟨.ref _, L2.upd H (s.heap.objs.size + 1) (.lst ys), I.laid (t' := s.toks) (fun _ _ => PyProof.Rows.sortedAll_old) (Nat.le_succ _) ⟨hlen, out, ep, y1, he'⟩, rfl, q ys _ y2 (I.hok.fresh (Nat.le_succ _))⟩
end
/-! ### calls of built-ins -/
def s1 (X : Cx) (f : Value) : List V → Hp → VK → Prop := fun vs H Q => ∀ (pins : List (Addr × Obj)) (s : Shared) (σ : L2.St) (us : List Value), Inv X pins σ H s → Vals vs us → wpAny (model X.prog X.w) X.A (call f us) (EP X pins σ Q) X.xe s
theorem s1_r (X : Cx) (f : Value) : CallR X f (s1 X f) := fun pins s σ H xs us Q I r h => h pins s σ us I r
theorem s1_of {X : Cx} {f : Value} {r : List V → Hp → VK → Prop} (h : CallR X f r) {vs : List V} {H : Hp} {Q : VK} (q : r vs H Q) : s1 X f vs H Q := fun pins s σ us I rx => h pins s σ H vs us Q I rx q
theorem maxI_mem : ∀ {ns : List Int} {m : Int}, maxI ns = some m → m ∈ ns ∧ ∀ y ∈ ns, y ≤ m
  | [], m, h => by simp [maxI] at h
  | [x], m, h => by
    simp [maxI] at h
    subst h
    simp
  | x :: y :: r, m, h => by
    simp only [maxI, Option.map_eq_some_iff] at h
    obtain ⟨k, h1, h2⟩ := h
    have ih := maxI_mem (ns := y :: r) h1
    by_cases c : x < k
    · rw [if_pos c] at h2
      subst h2
      refine ⟨List.mem_cons_of_mem _ ih.1, fun z hz => ?_⟩
      rcases List.mem_cons.mp hz with rfl | hz
      · omega
      · exact ih.2 z hz
    · rw [if_neg c] at h2
      subst h2
      refine ⟨List.mem_cons_self, fun z hz => ?_⟩
      rcases List.mem_cons.mp hz with rfl | hz
      · omega
      · have := ih.2 z hz
        omega
theorem minI_mem : ∀ {ns : List Int} {m : Int}, minI ns = some m → m ∈ ns ∧ ∀ y ∈ ns, m ≤ y
  | [], m, h => by simp [minI] at h
  | [x], m, h => by
    simp [minI] at h
    subst h
    simp
  | x :: y :: r, m, h => by
    simp only [minI, Option.map_eq_some_iff] at h
    obtain ⟨k, h1, h2⟩ := h
    have ih := minI_mem (ns := y :: r) h1
    by_cases c : k < x
    · rw [if_pos c] at h2
      subst h2
      refine ⟨List.mem_cons_of_mem _ ih.1, fun z hz => ?_⟩
      rcases List.mem_cons.mp hz with rfl | hz
      · omega
      · exact ih.2 z hz
    · rw [if_neg c] at h2
      subst h2
      refine ⟨List.mem_cons_self, fun z hz => ?_⟩
      rcases List.mem_cons.mp hz with rfl | hz
      · omega
      · have := ih.2 z hz
        omega
theorem mem_pos {α : Type} {x : α} {l : List α} (h : x ∈ l) : 0 < l.length := List.length_pos_of_mem h
def f1 : O1 → Option Value
  | .len => some (.builtin "len")
  | .sum => some (.builtin "sum")
  | .abs => some (.builtin "abs")
  | .tuple => some (.type "tuple")
  | .list => some (.type "list")
  | .min => some (.builtin "min")
  | .max => some (.builtin "max")
  | .int => some (.type "int")
  | .all => some (.builtin "all")
  | .any => some (.builtin "any")
  | .sorted => some (.builtin "sorted")
  | _ => none
def isTy : O1 → Option String
  | .isint => some "int"
  | .isbool => some "bool"
  | .istuple => some "tuple"
  | .isstr => some "str"
  | _ => none
section
variable {X : Cx} {B : Fr} {G H : Hp} {L : List Ent} {x : V} {d : PyData} {r : Sl} {Q : VK} {f : Value}
theorem op1_call (hu : X.A.units + 65 < cLine) (hc : X.calm = true) : ∀ (o : O1) (d : PyData), f1 o = some f → op1 o d = some r → Ok X.K B G L H → Rep1 X.K G H x d → Post X B G L r Q → s1 X f [x] H Q := by
  intro o d hf h ok rx q
  have hs := ok.sub
  cases o <;> simp only [f1, Option.some.injEq, reduceCtorEq] at hf <;> subst hf
  case len =>
    cases rx <;> simp only [op1, it, Option.ite_none_right_eq_some, Option.some.injEq, reduceCtorEq] at h
    · obtain ⟨h1, rfl⟩ := h
      exact s1_of call_len ⟨_, _, rfl, ⟨lim_le h1, rfl⟩, post_int ok q⟩
    · rename_i a xs ds ha ra
      subst h
      rw [← ra.length] at q
      exact s1_of call_len ⟨_, _, rfl, .inl ⟨xs, .inl (.inl ha), rfl⟩, post_int ok q⟩
    · rename_i a xs ds ha ra
      subst h
      rw [← ra.length] at q
      exact s1_of call_len ⟨_, _, rfl, .inr ⟨xs, Evl.ex_t hs ha, rfl⟩, post_int ok q⟩
  case sorted =>
    cases rx <;> simp only [op1, Option.ite_none_right_eq_some, Option.some.injEq, reduceCtorEq] at h
    rename_i a xs ds ha ra
    obtain ⟨h1, rfl⟩ := h
    exact s1_of (cr_sortD (G := G) hu) ⟨a, xs, ds, rfl, .inl (.inl ha), ra, hs, h1, fun ys p r2 hp => q _ _ _ (Evl.Ex.refl G) (ok.newL hp r2)⟩
  case sum =>
    cases rx <;> simp only [op1, Option.map_eq_some_iff, reduceCtorEq] at h
    · rename_i a xs ds ha ra
      obtain ⟨ns, h1, rfl⟩ := h
      have e := reps_intsD ra h1
      subst e
      exact s1_of (cr_sum hc) ⟨a, ns, rfl, .inl (.inl ha), post_int ok q⟩
    · rename_i a xs ds ha ra
      obtain ⟨ns, h1, rfl⟩ := h
      have e := reps_intsD ra h1
      subst e
      exact s1_of (cr_sumT hc) ⟨a, ns, rfl, Evl.ex_t hs ha, post_int ok q⟩
  case abs =>
    cases rx <;> simp only [op1, it, Option.some.injEq, reduceCtorEq] at h
    subst h
    exact s1_of call_abs ⟨_, rfl, post_int ok q⟩
  case tuple =>
    cases rx <;> simp only [op1, it, Option.some.injEq, reduceCtorEq] at h
    · rename_i a xs ds ha ra
      subst h
      exact s1_of call_tuple_of ⟨a, xs, rfl, .inl ⟨.inl (.inl ha), fun p hp => q _ _ _ (ex_new (ok.freshG hp)) (ok.newT hp ra)⟩⟩
    · rename_i a xs ds ha ra
      subst h
      exact s1_of call_tuple_of ⟨a, xs, rfl, .inr ⟨Evl.ex_t hs ha, q _ _ _ (Evl.Ex.refl G) (ok.consR (.tup ha ra))⟩⟩
  case list =>
    cases rx <;> simp only [op1, it, Option.some.injEq, reduceCtorEq] at h
    · rename_i a xs ds ha ra
      subst h
      exact s1_of call_list_of ⟨a, xs, rfl, .inl (.inl (.inl ha)), fun p hp => q _ _ _ (Evl.Ex.refl G) (ok.newL hp ra)⟩
    · rename_i a xs ds ha ra
      subst h
      exact s1_of call_list_of ⟨a, xs, rfl, .inr (Evl.ex_t hs ha), fun p hp => q _ _ _ (Evl.Ex.refl G) (ok.newL hp ra)⟩
  case min =>
    cases rx <;> simp only [op1, Option.bind_eq_some_iff, Option.map_eq_some_iff, reduceCtorEq] at h
    rename_i a xs ds ha ra
    obtain ⟨ns, h1, m, h2, rfl⟩ := h
    have e := reps_intsD ra h1
    subst e
    obtain ⟨h3, h4⟩ := minI_mem h2
    refine s1_of (cr_min hc) ⟨a, ns, rfl, .inl (.inl ha), mem_pos h3, fun k k1 k2 => ?_⟩
    have e : k = m := Int.le_antisymm (k2 m h3) (h4 k k1)
    subst e
    exact post_int ok q
  case max =>
    cases rx <;> simp only [op1, Option.bind_eq_some_iff, Option.map_eq_some_iff, reduceCtorEq] at h
    rename_i a xs ds ha ra
    obtain ⟨ns, h1, m, h2, rfl⟩ := h
    have e := reps_intsD ra h1
    subst e
    obtain ⟨h3, h4⟩ := maxI_mem h2
    refine s1_of (cr_max hc) ⟨a, ns, rfl, .inl (.inl ha), mem_pos h3, fun k k1 k2 => ?_⟩
    have e : k = m := Int.le_antisymm (h4 k k1) (k2 m h3)
    subst e
    exact post_int ok q
  case int =>
    cases rx <;> simp only [op1, it, Option.some.injEq, reduceCtorEq] at h
    · subst h
      exact s1_of call_int1 (.inr ⟨_, rfl, post_int ok q⟩)
    · subst h
      exact s1_of call_int1 (.inl ⟨_, rfl, post_int ok q⟩)
  case all =>
    cases rx <;> simp only [op1, Option.map_eq_some_iff, reduceCtorEq] at h
    rename_i a xs ds ha ra
    obtain ⟨bs, h1, rfl⟩ := h
    have e := reps_boolsD ra h1
    subst e
    exact s1_of (cr_all hc) ⟨a, bs, rfl, .inl (.inl ha), post_bl ok q⟩
  case any =>
    cases rx <;> simp only [op1, Option.map_eq_some_iff, reduceCtorEq] at h
    rename_i a xs ds ha ra
    obtain ⟨bs, h1, rfl⟩ := h
    have e := reps_boolsD ra h1
    subst e
    exact s1_of (cr_any hc) ⟨a, bs, rfl, .inl (.inl ha), post_bl ok q⟩
def tyD : PyData → String
  | .none => "NoneType"
  | .bool _ => "bool"
  | .int _ => "int"
  | .str _ => "str"
  | .list _ => "list"
  | .tuple _ => "tuple"
  | .dict _ => "dict"
theorem rep1_ty (hs : Ex G H) {d : PyData} (h : Rep1 X.K G H x d) : TyX X.K H x (.type (tyD d)) := by
  cases h with
  | non => exact .base .non
  | bl b => exact .base (.bl b)
  | int i => exact .base (.int i)
  | str x => exact .base (.str x)
  | lst h _ => exact .base (.lst h)
  | tup h _ =>
    rcases h with (h | ⟨o, h⟩) | ⟨o, its, n, h, c, _⟩
    · exact .base (.tup (hs _ _ h))
    · exact .fTuple (hs _ _ h)
    · exact .kTuple h c
  | dic h k =>
    cases k with
    | dK _ _ => exact .base (.dK h)
    | dT _ _ => exact .base (.dT h)
theorem kit_NoneType_int : kitB "NoneType" "int" = some false := by decide +kernel
theorem kit_NoneType_bool : kitB "NoneType" "bool" = some false := by decide +kernel
theorem kit_NoneType_tuple : kitB "NoneType" "tuple" = some false := by decide +kernel
theorem kit_NoneType_str : kitB "NoneType" "str" = some false := by decide +kernel
theorem kit_bool_int : kitB "bool" "int" = some true := by decide +kernel
theorem kit_bool_bool : kitB "bool" "bool" = some true := by decide +kernel
theorem kit_bool_tuple : kitB "bool" "tuple" = some false := by decide +kernel
theorem kit_bool_str : kitB "bool" "str" = some false := by decide +kernel
theorem kit_int_int : kitB "int" "int" = some true := by decide +kernel
theorem kit_int_bool : kitB "int" "bool" = some false := by decide +kernel
theorem kit_int_tuple : kitB "int" "tuple" = some false := by decide +kernel
theorem kit_int_str : kitB "int" "str" = some false := by decide +kernel
theorem kit_str_int : kitB "str" "int" = some false := by decide +kernel
theorem kit_str_bool : kitB "str" "bool" = some false := by decide +kernel
theorem kit_str_tuple : kitB "str" "tuple" = some false := by decide +kernel
theorem kit_str_str : kitB "str" "str" = some true := by decide +kernel
theorem kit_list_int : kitB "list" "int" = some false := by decide +kernel
theorem kit_list_bool : kitB "list" "bool" = some false := by decide +kernel
theorem kit_list_tuple : kitB "list" "tuple" = some false := by decide +kernel
theorem kit_list_str : kitB "list" "str" = some false := by decide +kernel
theorem kit_tuple_int : kitB "tuple" "int" = some false := by decide +kernel
theorem kit_tuple_bool : kitB "tuple" "bool" = some false := by decide +kernel
theorem kit_tuple_tuple : kitB "tuple" "tuple" = some true := by decide +kernel
theorem kit_tuple_str : kitB "tuple" "str" = some false := by decide +kernel
theorem kit_dict_int : kitB "dict" "int" = some false := by decide +kernel
theorem kit_dict_bool : kitB "dict" "bool" = some false := by decide +kernel
theorem kit_dict_tuple : kitB "dict" "tuple" = some false := by decide +kernel
theorem kit_dict_str : kitB "dict" "str" = some false := by decide +kernel
theorem kits : ∀ (o : O1) (t : String) (d : PyData), isTy o = some t → ∃ b, op1 o d = some (.sh (.bool b)) ∧ kitB (tyD d) t = some b := by
  intro o t d h
  cases o <;> simp only [isTy, Option.some.injEq, reduceCtorEq] at h <;> subst h <;> cases d
  · exact ⟨_, rfl, kit_NoneType_int⟩
  · exact ⟨_, rfl, kit_bool_int⟩
  · exact ⟨_, rfl, kit_int_int⟩
  · exact ⟨_, rfl, kit_str_int⟩
  · exact ⟨_, rfl, kit_list_int⟩
  · exact ⟨_, rfl, kit_tuple_int⟩
  · exact ⟨_, rfl, kit_dict_int⟩
  · exact ⟨_, rfl, kit_NoneType_bool⟩
  · exact ⟨_, rfl, kit_bool_bool⟩
  · exact ⟨_, rfl, kit_int_bool⟩
  · exact ⟨_, rfl, kit_str_bool⟩
  · exact ⟨_, rfl, kit_list_bool⟩
  · exact ⟨_, rfl, kit_tuple_bool⟩
  · exact ⟨_, rfl, kit_dict_bool⟩
  · exact ⟨_, rfl, kit_NoneType_tuple⟩
  · exact ⟨_, rfl, kit_bool_tuple⟩
  · exact ⟨_, rfl, kit_int_tuple⟩
  · exact ⟨_, rfl, kit_str_tuple⟩
  · exact ⟨_, rfl, kit_list_tuple⟩
  · exact ⟨_, rfl, kit_tuple_tuple⟩
  · exact ⟨_, rfl, kit_dict_tuple⟩
  · exact ⟨_, rfl, kit_NoneType_str⟩
  · exact ⟨_, rfl, kit_bool_str⟩
  · exact ⟨_, rfl, kit_int_str⟩
  · exact ⟨_, rfl, kit_str_str⟩
  · exact ⟨_, rfl, kit_list_str⟩
  · exact ⟨_, rfl, kit_tuple_str⟩
  · exact ⟨_, rfl, kit_dict_str⟩
theorem op1_isi : ∀ (o : O1) (t : String) (d : PyData), isTy o = some t → op1 o d = some r → Ok X.K B G L H → Rep1 X.K G H x d → Post X B G L r Q → s1 X (.builtin "isinstance") [x, .ty t] H Q := by
  intro o t d ht h ok rx q
  obtain ⟨b, h1, h2⟩ := kits o t d ht
  rw [h] at h1
  cases h1
  exact s1_of call_isi ⟨x, .ty t, _, _, b, rfl, .ty t, rep1_ty ok.sub rx, kit_ty h2, post_bl ok q⟩
theorem tru_of (hs : Ex G H) {b : Bool} {d : PyData} (h : truthD d = some b) (rx : Rep1 X.K G H x d) : TruV X.K x H b := by
  cases rx with
  | non => simpa [truthD, TruV] using h.symm
  | bl c => simpa [truthD, TruV] using h.symm
  | int i =>
    simp only [truthD, Option.some.injEq] at h
    exact h.symm
  | str z =>
    simp only [truthD, Option.ite_none_right_eq_some, Option.some.injEq] at h
    exact ⟨lim_le h.1, h.2.symm⟩
  | lst ha ra =>
    rename_i a xs ds
    simp only [truthD, Option.some.injEq] at h
    refine .inl ⟨xs, .inl (.inl ha), ?_⟩
    rw [← h]
    cases ra <;> rfl
  | tup ha ra =>
    rename_i a xs ds
    simp only [truthD, Option.some.injEq] at h
    refine .inr (.inl ⟨xs, Evl.ex_t hs ha, ?_⟩)
    rw [← h]
    cases ra <;> rfl
  | dic _ _ => simp [truthD] at h
/-! ### slices -/
theorem slice_ok : ∀ (d : PyData) (lo hi : Option Int), slice d lo hi = some r → Ok X.K B G L H → Rep1 X.K G H x d → Post X B G L r Q → (fun x lo hi H Q => rSlL X.K x lo hi H Q ∨ rSlA X.K x lo hi H Q) x lo hi H Q := by
  intro d lo hi e ok rx q
  have hs := ok.sub
  cases rx <;> simp only [slice, Option.some.injEq, reduceCtorEq] at e
  · rename_i a xs ds ha ra
    subst e
    exact .inl ⟨a, xs, rfl, .inl (.inl ha), fun p hp => q _ _ _ (Evl.Ex.refl G) (ok.newL hp (cutD_eq xs ds lo hi ra))⟩
  · rename_i a xs ds ha ra
    subst e
    refine .inr ⟨a, xs, rfl, Evl.ex_t hs ha, fun z => ?_, fun z p hp => q _ _ _ (ex_new (ok.freshG hp)) (ok.newT hp (cutD_eq xs ds lo hi ra))⟩
    have e3 : cutD ds lo hi = ds := by
      unfold cutD
      rw [← ra.length, z.1, z.2, List.drop_zero, Nat.sub_zero, ra.length, List.take_length]
    rw [e3] at q
    exact q _ _ _ (Evl.Ex.refl G) (ok.consR (.tup ha ra))
/-- a slice of the script -/
theorem slice_sc {a : Addr} {ns : List Int} : ∀ (lo hi : Option Int), slice (.list (ns.map .int)) lo hi = some r → Ok X.K B G L H → SqL X.K G a (ns.map V.int) → Post X B G L r Q → (fun x lo hi H Q => rSlL X.K x lo hi H Q ∨ rSlA X.K x lo hi H Q) (.ref a) lo hi H Q := by
  intro lo hi e ok ha q
  have hs := ok.sub
  simp only [slice, Option.some.injEq] at e
  subst e
  exact .inl ⟨a, _, rfl, Evl.ex_l hs ha, fun p hp => q _ _ _ (Evl.Ex.refl G) (ok.newL hp (cutD_eq _ _ lo hi (reps_ints ns)))⟩
theorem sl_any : SlR X (fun x lo hi H Q => rSlL X.K x lo hi H Q ∨ rSlA X.K x lo hi H Q) := SlR.or sl_list sl_tupA
end
end PP
namespace PP
open PySem L2 PySem.Spec PyProof.Rows
/-! ### slots -/
section
variable {K : PySem.W.Frag} {B : Fr} {G H : Hp} {τ : List Ent} {σ : L2.St} {ρ ρ' : PEnv} {i : Nat} {s r : Sl}
theorem zget (hl : σ.length = ρ.length) (h : ρ[i]? = some s) : ∃ v, σ[i]? = some v ∧ (τ ++ σ.zip ρ)[τ.length + i]? = some (v, s) := by
  have hi : i < ρ.length := (List.getElem?_eq_some_iff.mp h).1
  refine ⟨σ[i]'(by omega), List.getElem?_eq_getElem (by omega), ?_⟩
  rw [List.getElem?_append_right (Nat.le_add_right _ _), Nat.add_sub_cancel_left, List.getElem?_zip_eq_some]
  exact ⟨List.getElem?_eq_getElem (by omega), h⟩
theorem zip_set : ∀ {σ : L2.St} {ρ : PEnv} {i : Nat} {v : Option V} {s : Sl}, σ[i]? = some v → (σ.zip ρ).set i (v, s) = σ.zip (ρ.set i s)
  | [], _, _, _, _, h => by simp at h
  | _ :: _, [], _, _, _, _ => by simp
  | x :: σ, y :: ρ, 0, v, s, h => by
    simp at h
    subst h
    rfl
  | x :: σ, y :: ρ, i + 1, v, s, h => by
    have ih := zip_set (σ := σ) (ρ := ρ) (i := i) (v := v) (s := s) (by simpa using h)
    show (x, y) :: (σ.zip ρ).set i (v, s) = (x, y) :: σ.zip (ρ.set i s)
    rw [ih]
theorem zip_set2 : ∀ {σ : L2.St} {ρ : PEnv} {i : Nat} {v : Option V} {s : Sl}, (σ.zip ρ).set i (v, s) = (σ.set i v).zip (ρ.set i s)
  | [], _, i, _, _ => by simp
  | _ :: _, [], _, _, _ => by simp
  | x :: σ, y :: ρ, 0, v, s => rfl
  | x :: σ, y :: ρ, i + 1, v, s => by
    show (x, y) :: (σ.zip ρ).set i (v, s) = (x, y) :: (σ.set i v).zip (ρ.set i s)
    rw [zip_set2]
theorem zset {v : Option V} (h : σ[i]? = some v) : (τ ++ σ.zip ρ).set (τ.length + i) (v, s) = τ ++ σ.zip (ρ.set i s) := by
  rw [List.set_append_right _ _ (Nat.le_add_right _ _), Nat.add_sub_cancel_left, zip_set h]
theorem zset2 {v : Option V} : (τ ++ σ.zip ρ).set (τ.length + i) (v, s) = τ ++ (σ.set i v).zip (ρ.set i s) := by
  rw [List.set_append_right _ _ (Nat.le_add_right _ _), Nat.add_sub_cancel_left, zip_set2]
/-- a slot's value as it lies -/
theorem peek_ok (hl : σ.length = ρ.length) (ok : Ok K B G (τ ++ σ.zip ρ) H) {d : PyData} (h : peek ρ i = some d) : ∃ x, σ[i]? = some (some x) ∧ Rep1 K G H x d := by
  unfold peek at h
  cases e : ρ[i]? with
  | none =>
    rw [e] at h
    cases h
  | some s =>
    rw [e] at h
    obtain ⟨v, e1, e2⟩ := zget (τ := τ) hl e
    have k := ok.ent _ _ e2
    cases s <;> simp only [Option.some.injEq, reduceCtorEq] at h <;> subst h
    · obtain ⟨x, rfl, r⟩ := k
      exact ⟨x, e1, r.one ok.sub⟩
    · obtain ⟨a, vs, rfl, _, _, h2, h3⟩ := k
      exact ⟨_, e1, .lst h2 h3⟩
    · obtain ⟨a, vs, rfl, _, _, h2, h3⟩ := k
      exact ⟨_, e1, .lst h2 h3⟩
    · obtain ⟨a, o, rfl, _, _, h2, h3⟩ := k
      exact ⟨_, e1, .dic h2 h3⟩
theorem rdv_len (h : rdv ρ i = some (r, ρ')) : ρ'.length = ρ.length := by
  unfold rdv at h
  split at h <;> simp only [Option.some.injEq, Prod.mk.injEq, reduceCtorEq] at h <;> obtain ⟨rfl, rfl⟩ := h <;> simp
theorem rmv_len (h : rmv ρ i = some (r, ρ')) : ρ'.length = ρ.length := by
  unfold rmv at h
  split at h <;> simp only [Option.some.injEq, Prod.mk.injEq, reduceCtorEq] at h <;> obtain ⟨rfl, rfl⟩ := h <;> simp
theorem rdv_ok (hl : σ.length = ρ.length) (ok : Ok K B G (τ ++ σ.zip ρ) H) (h : rdv ρ i = some (r, ρ')) : ∃ x G', σ[i]? = some (some x) ∧ Ex G G' ∧ Ok K B G' ((some x, r) :: (τ ++ σ.zip ρ')) H := by
  unfold rdv at h
  cases e : ρ[i]? with
  | none =>
    rw [e] at h
    cases h
  | some s =>
    rw [e] at h
    obtain ⟨v, e1, e2⟩ := zget (τ := τ) hl e
    have k := ok.ent _ _ e2
    have hd := ok.take (u := v) e2
    cases s <;> simp only [Option.some.injEq, Prod.mk.injEq, reduceCtorEq] at h <;> obtain ⟨rfl, rfl⟩ := h
    · obtain ⟨x, rfl, r⟩ := k
      exact ⟨x, G, e1, Evl.Ex.refl G, ok.consR r⟩
    · rename_i l
      obtain ⟨a, vs, rfl, _⟩ := k
      obtain ⟨G', eg, q⟩ := hd.share rfl
      refine ⟨_, G', e1, eg, ?_⟩
      have z := q.tail.setU (n := τ.length + i) (p' := (some (.ref a), .sh (.list l))) q.head (ownA_sh _ _)
      rw [List.set_set, zset e1] at z
      exact z.consR q.rep
    · rename_i m
      obtain ⟨a, o, rfl, _⟩ := k
      obtain ⟨G', eg, q⟩ := hd.share rfl
      refine ⟨_, G', e1, eg, ?_⟩
      have z := q.tail.setU (n := τ.length + i) (p' := (some (.ref a), .sh (.dict m))) q.head (ownA_sh _ _)
      rw [List.set_set, zset e1] at z
      exact z.consR q.rep
theorem rmv_ok (hl : σ.length = ρ.length) (ok : Ok K B G (τ ++ σ.zip ρ) H) (h : rmv ρ i = some (r, ρ')) : ∃ x G', σ[i]? = some (some x) ∧ Ex G G' ∧ Ok K B G' ((some x, r) :: (τ ++ σ.zip ρ')) H := by
  unfold rmv at h
  cases e : ρ[i]? with
  | none =>
    rw [e] at h
    cases h
  | some s =>
    rw [e] at h
    obtain ⟨v, e1, e2⟩ := zget (τ := τ) hl e
    have k := ok.ent _ _ e2
    have hd := ok.take (u := v) e2
    rw [zset e1] at hd
    cases s <;> simp only [Option.some.injEq, Prod.mk.injEq, reduceCtorEq] at h <;> obtain ⟨rfl, rfl⟩ := h
    · obtain ⟨x, rfl, r⟩ := k
      exact ⟨x, G, e1, Evl.Ex.refl G, ok.consR r⟩
    · obtain ⟨a, vs, rfl, _⟩ := k
      exact ⟨_, G, e1, Evl.Ex.refl G, hd⟩
    · obtain ⟨a, o, rfl, _⟩ := k
      exact ⟨_, G, e1, Evl.Ex.refl G, hd⟩
/-- the head is stored in slot i -/
theorem put_ok {x : V} (ok : Ok K B G ((some x, s) :: (τ ++ σ.zip ρ)) H) : Ok K B G (τ ++ (σ.set i (some x)).zip (ρ.set i s)) H := by
  have z := ok.setH (n := τ.length + i)
  rw [zset2] at z
  exact z
theorem put_eq (h : put ρ i s = some ρ') : ρ' = ρ.set i s := by
  unfold put at h
  split at h
  · exact (Option.some.inj h).symm
  · cases h
end
/-! ### the strongest readings -/
def WE (X : Cx) (e : Expr) : TE := fun σ H Q => ∀ (pins : List (Addr × Obj)) (s : Shared), Inv X pins σ H s → wpAny (model X.prog X.w) X.A (eval e X.env) (EP X pins σ Q) X.xe s
def WT (X : Cx) (e : Expr) : TT := fun σ H Q => ∀ (pins : List (Addr × Obj)) (s : Shared), Inv X pins σ H s → wpAny (model X.prog X.w) X.A (isTrue e X.env (eval e X.env)) (TP X pins σ Q) X.xe s
def WW (X : Cx) (e : Expr) : TT := fun σ H Q => ∀ (whole : Sem Value) (pins : List (Addr × Obj)) (s : Shared), Inv X pins σ H s → wpAny (model X.prog X.w) X.A (isTrue e X.env whole) (TP X pins σ Q) X.xe s
def WA (X : Cx) (es : List Expr) : TA := fun σ H Q => ∀ (pos : Pos) (pins : List (Addr × Obj)) (s : Shared), Inv X pins σ H s → wpAny (model X.prog X.w) X.A (spliced (backTo pos (starEach es X.env))) (AP X pins σ Q) X.xe s
theorem pe_W (X : Cx) (e : Expr) : PE X e (WE X e) := ⟨fun pins s σ H Q I h => h pins s I⟩
theorem pt_W (X : Cx) (e : Expr) : PT X e (WT X e) := ⟨fun pins s σ H Q I h => h pins s I⟩
theorem pw_W (X : Cx) (e : Expr) : PW X e (WW X e) := ⟨fun whole pins s σ H Q I h => h whole pins s I⟩
theorem pa_W (X : Cx) (es : List Expr) : PA X es (WA X es) := ⟨fun pos pins s σ H Q I h => h pos pins s I⟩
theorem WE_of {X : Cx} {e : Expr} {t : TE} (h : PE X e t) {σ : L2.St} {H : Hp} {Q : VK} (q : t σ H Q) : WE X e σ H Q := fun pins s I => h.run pins s σ H Q I q
theorem WT_of {X : Cx} {e : Expr} {t : TT} (h : PT X e t) {σ : L2.St} {H : Hp} {Q : Bool → Hp → Prop} (q : t σ H Q) : WT X e σ H Q := fun pins s I => h.run pins s σ H Q I q
theorem WW_of {X : Cx} {e : Expr} {t : TT} (h : PW X e t) {σ : L2.St} {H : Hp} {Q : Bool → Hp → Prop} (q : t σ H Q) : WW X e σ H Q := fun whole pins s I => h.run whole pins s σ H Q I q
theorem WA_of {X : Cx} {es : List Expr} {t : TA} (h : PA X es t) {σ : L2.St} {H : Hp} {Q : List V → Hp → Prop} (q : t σ H Q) : WA X es σ H Q := fun pos pins s I => h.run pos pins s σ H Q I q
section
variable (X : Cx) (cl : Calls)
/-- e does what c does -/
def SE (e : Expr) (c : CE) : Prop := ∀ (B : Fr) (G H : Hp) (τ : List Ent) (σ : L2.St) (ρ ρ' : PEnv) (r : Sl) (Q : VK), σ.length = ρ.length → ev cl c ρ = some (r, ρ') → Ok X.K B G (τ ++ σ.zip ρ) H →
  (∀ v G' H', ρ'.length = ρ.length → Ex G G' → Ok X.K B G' ((some v, r) :: (τ ++ σ.zip ρ')) H' → Q v H') → WE X e σ H Q
/-- the same, its value shared -/
def SD (e : Expr) (c : CE) : Prop := ∀ (B : Fr) (G H : Hp) (τ : List Ent) (σ : L2.St) (ρ ρ' : PEnv) (r : Sl) (d : PyData) (Q : VK), σ.length = ρ.length → ev cl c ρ = some (r, ρ') → toD r = some d → Ok X.K B G (τ ++ σ.zip ρ) H →
  (∀ v G' H', ρ'.length = ρ.length → Ex G G' → Ok X.K B G' (τ ++ σ.zip ρ') H' → Rep X.K G' v d → Q v H') → WE X e σ H Q
def ST (tr : TT) (c : CE) : Prop := ∀ (B : Fr) (G H : Hp) (τ : List Ent) (σ : L2.St) (ρ ρ' : PEnv) (r : Sl) (b : Bool) (Q : Bool → Hp → Prop), σ.length = ρ.length → ev cl c ρ = some (r, ρ') → (toD r).bind truthD = some b → Ok X.K B G (τ ++ σ.zip ρ) H →
  (∀ G' H', ρ'.length = ρ.length → Ex G G' → Ok X.K B G' (τ ++ σ.zip ρ') H' → Q b H') → tr σ H Q
def SA (es : List Expr) (c : CE) : Prop := ∀ (B : Fr) (G H : Hp) (τ : List Ent) (σ : L2.St) (ρ ρ' : PEnv) (ds : List PyData) (Q : List V → Hp → Prop), σ.length = ρ.length → evA cl c ρ = some (ds, ρ') → Ok X.K B G (τ ++ σ.zip ρ) H →
  (∀ vs G' H', ρ'.length = ρ.length → Ex G G' → Ok X.K B G' (τ ++ σ.zip ρ') H' → Reps X.K G' vs ds → Q vs H') → WA X es σ H Q
end
section
variable {X : Cx} {cl : Calls} {e a b : Expr} {es : List Expr} {c ca cb cc : CE} {pos : Pos}
theorem SE.sd (h : SE X cl e c) : SD X cl e c := fun B G H τ σ ρ ρ' r d Q hl he hd ok q => h B G H τ σ ρ ρ' r Q hl he ok fun v G' H' l eg k => by
  obtain ⟨G2, e2, k2⟩ := k.share hd
  exact q v G2 H' l (eg.trans e2) k2.tail k2.rep
/-- a plain test -/
theorem SD.st (h : SD X cl e c) (hp : ∀ whole, isTrue e X.env whole = (do let v ← whole; standAt e.pos; holding [v] (truthy v))) : ST X cl (WT X e) c := fun B G H τ σ ρ ρ' r b Q hl he hb ok q => by
  obtain ⟨d, h1, h2⟩ := Option.bind_eq_some_iff.mp hb
  refine WT_of (pt_truth (pe_W X e) hp) ?_
  exact h B G H τ σ ρ ρ' r d _ hl he h1 ok fun v G' H' l eg k rv => ⟨b, tru_of k.sub h2 (rv.one k.sub), q G' H' l eg k⟩
theorem se_k {x : Const} {j : Nat} {d : PyData} (h : match x, d with
    | .none, .none => True
    | .bool p, .bool q => p = q
    | .int p, .int q => p = q
    | .str p, .str q => p = q
    | _, _ => False) : SE X cl (.Constant x j pos) (.k d) := by
  intro B G H τ σ ρ ρ' r Q hl he ok q
  simp only [ev, Option.some.injEq, Prod.mk.injEq] at he
  obtain ⟨rfl, rfl⟩ := he
  have q' : ∀ v, Rep X.K G v d → Q v H := fun v rv => q v G H rfl (Evl.Ex.refl G) (ok.consR rv)
  cases x <;> cases d <;> simp only at h
  · exact WE_of pe_non (q' _ .non)
  · subst h
    exact WE_of pe_bl (q' _ (.bl _))
  · subst h
    exact WE_of pe_int (q' _ (.int _))
  · subst h
    exact WE_of pe_str (q' _ (.str _))
/-- a constant of the module -/
theorem se_c {x : Str} {d : PyData} {v : V} {u : Value} (hg : Gl X x) (hm : X.mg x = some u) (r : RelV v u) (hv : ∀ G, Rep X.K G v d) (hd : (x == ("__debug__" : Str)) = false) : SE X cl (.Name x pos) (.k d) := by
  intro B G H τ σ ρ ρ' r' Q hl he ok q
  simp only [ev, Option.some.injEq, Prod.mk.injEq] at he
  obtain ⟨rfl, rfl⟩ := he
  exact WE_of (pe_glob hg hm r hd) (q _ G H rfl (Evl.Ex.refl G) (ok.consR (hv G)))
theorem se_v {x : Str} {i : Nat} (hN : X.N[i]? = some x) (hv : Vis X.env.scope x) (hd : (x == ("__debug__" : Str)) = false) (hcd : (x == ("__classdict__" : Str)) = false) : SE X cl (.Name x pos) (.v i) := by
  intro B G H τ σ ρ ρ' r Q hl he ok q
  simp only [ev] at he
  obtain ⟨z, G', e1, eg, k⟩ := rdv_ok hl ok he
  exact WE_of (pe_var hN hv hd hcd) ⟨z, e1, q z G' H (rdv_len he) eg k⟩
theorem se_mv {x : Str} {i : Nat} (hN : X.N[i]? = some x) (hv : Vis X.env.scope x) (hd : (x == ("__debug__" : Str)) = false) (hcd : (x == ("__classdict__" : Str)) = false) : SE X cl (.Name x pos) (.mv i) := by
  intro B G H τ σ ρ ρ' r Q hl he ok q
  simp only [ev] at he
  obtain ⟨z, G', e1, eg, k⟩ := rmv_ok hl ok he
  exact WE_of (pe_var hN hv hd hcd) ⟨z, e1, q z G' H (rmv_len he) eg k⟩
/-! operands: an expression, or a name as it lies -/
def R2Of (X : Cx) (o : O2) : R2 := s2 X o
/-- two operands -/
theorem s_op2 {o : O2} {rd : R2} {B : Fr} {G H : Hp} {τ : List Ent} {σ : L2.St} {ρ ρ' : PEnv} {r : Sl} {Q : VK}
    (hrd : ∀ {G H : Hp} {L : List Ent} {x y : V} {d e : PyData} {r : Sl} {Q : VK}, op2 o d e = some r → Ok X.K B G L H → Rep1 X.K G H x d → Rep1 X.K G H y e → Post X B G L r Q → rd x y H Q)
    (ha : SD X cl a ca) (hb : SD X cl b cb) (hl : σ.length = ρ.length) (he : ev cl (.op2 o ca cb) ρ = some (r, ρ')) (ok : Ok X.K B G (τ ++ σ.zip ρ) H)
    (q : ∀ v G' H', ρ'.length = ρ.length → Ex G G' → Ok X.K B G' ((some v, r) :: (τ ++ σ.zip ρ')) H' → Q v H') : tOp rd (WE X a) (WE X b) σ H Q := by
  simp only [ev, bind, Option.bind_eq_some_iff, Option.some.injEq, Prod.exists, Prod.mk.injEq] at he
  obtain ⟨r1, ρ1, e1, d1, t1, r2, ρ2, e2, d2, t2, z, e3, rfl, rfl⟩ := he
  refine ha B G H τ σ ρ ρ1 r1 d1 _ hl e1 t1 ok fun v G1 H1 l1 x1 k1 v1 => ?_
  refine hb B G1 H1 τ σ ρ1 ρ2 r2 d2 _ (by omega) e2 t2 k1 fun u G2 H2 l2 x2 k2 u2 => ?_
  exact hrd e3 k2 ((v1.mono x2).one k2.sub) (u2.one k2.sub) fun v' G' H' eg k' => q v' G' H' (by omega) ((x1.trans x2).trans eg) k'
theorem s_op2v {o : O2} {rd : R2} {i : Nat} {B : Fr} {G H : Hp} {τ : List Ent} {σ : L2.St} {ρ ρ' : PEnv} {r : Sl} {Q : VK}
    (hrd : ∀ {G H : Hp} {L : List Ent} {x y : V} {d e : PyData} {r : Sl} {Q : VK}, op2 o d e = some r → Ok X.K B G L H → Rep1 X.K G H x d → Rep1 X.K G H y e → Post X B G L r Q → rd x y H Q)
    (hb : SD X cl b cb) (hl : σ.length = ρ.length) (he : ev cl (.op2v o i cb) ρ = some (r, ρ')) (ok : Ok X.K B G (τ ++ σ.zip ρ) H)
    (q : ∀ v G' H', ρ'.length = ρ.length → Ex G G' → Ok X.K B G' ((some v, r) :: (τ ++ σ.zip ρ')) H' → Q v H') : tOp rd (tVar i) (WE X b) σ H Q := by
  simp only [ev, bind, Option.bind_eq_some_iff, Option.some.injEq, Prod.exists, Prod.mk.injEq] at he
  obtain ⟨d0, e0, r2, ρ2, e2, d2, t2, d1, p1, z, e3, rfl, rfl⟩ := he
  obtain ⟨v, s0, _⟩ := peek_ok hl ok e0
  refine ⟨v, s0, ?_⟩
  refine hb B G H τ σ ρ ρ2 r2 d2 _ hl e2 t2 ok fun u G2 H2 l2 x2 k2 u2 => ?_
  obtain ⟨v', s1, v1⟩ := peek_ok (by omega) k2 p1
  rw [s0] at s1
  cases s1
  exact hrd e3 k2 v1 (u2.one k2.sub) fun v' G' H' eg k' => q v' G' H' l2 (x2.trans eg) k'
theorem s_op2w {o : O2} {rd : R2} {i : Nat} {B : Fr} {G H : Hp} {τ : List Ent} {σ : L2.St} {ρ ρ' : PEnv} {r : Sl} {Q : VK}
    (hrd : ∀ {G H : Hp} {L : List Ent} {x y : V} {d e : PyData} {r : Sl} {Q : VK}, op2 o d e = some r → Ok X.K B G L H → Rep1 X.K G H x d → Rep1 X.K G H y e → Post X B G L r Q → rd x y H Q)
    (ha : SD X cl a ca) (hl : σ.length = ρ.length) (he : ev cl (.op2w o ca i) ρ = some (r, ρ')) (ok : Ok X.K B G (τ ++ σ.zip ρ) H)
    (q : ∀ v G' H', ρ'.length = ρ.length → Ex G G' → Ok X.K B G' ((some v, r) :: (τ ++ σ.zip ρ')) H' → Q v H') : tOp rd (WE X a) (tVar i) σ H Q := by
  simp only [ev, bind, Option.bind_eq_some_iff, Option.some.injEq, Prod.exists, Prod.mk.injEq] at he
  obtain ⟨r1, ρ1, e1, d1, t1, d2, p2, z, e3, rfl, rfl⟩ := he
  refine ha B G H τ σ ρ ρ1 r1 d1 _ hl e1 t1 ok fun v G1 H1 l1 x1 k1 v1 => ?_
  obtain ⟨u, s1, u1⟩ := peek_ok (by omega) k1 p2
  exact ⟨u, s1, hrd e3 k1 (v1.one k1.sub) u1 fun v' G' H' eg k' => q v' G' H' l1 (x1.trans eg) k'⟩
theorem s_op2x {o : O2} {rd : R2} {i j : Nat} {B : Fr} {G H : Hp} {τ : List Ent} {σ : L2.St} {ρ ρ' : PEnv} {r : Sl} {Q : VK}
    (hrd : ∀ {G H : Hp} {L : List Ent} {x y : V} {d e : PyData} {r : Sl} {Q : VK}, op2 o d e = some r → Ok X.K B G L H → Rep1 X.K G H x d → Rep1 X.K G H y e → Post X B G L r Q → rd x y H Q)
    (hl : σ.length = ρ.length) (he : ev cl (.op2x o i j) ρ = some (r, ρ')) (ok : Ok X.K B G (τ ++ σ.zip ρ) H)
    (q : ∀ v G' H', ρ'.length = ρ.length → Ex G G' → Ok X.K B G' ((some v, r) :: (τ ++ σ.zip ρ')) H' → Q v H') : tOp rd (tVar i) (tVar j) σ H Q := by
  simp only [ev, bind, Option.bind_eq_some_iff, Option.some.injEq, Prod.exists, Prod.mk.injEq] at he
  obtain ⟨d1, p1, d2, p2, z, e3, rfl, rfl⟩ := he
  obtain ⟨v, s0, v1⟩ := peek_ok hl ok p1
  obtain ⟨u, s1, u1⟩ := peek_ok hl ok p2
  exact ⟨v, s0, u, s1, hrd e3 ok v1 u1 fun v' G' H' eg k' => q v' G' H' rfl eg k'⟩
/-! the operators of the text -/
def opB : O2 → Option Operator
  | .add => some .Add
  | .sub => some .Sub
  | .mul => some .Mult
  | .fdiv => some .FloorDiv
  | .mod => some .Mod
  | .shl => some .LShift
  | .shr => some .RShift
  | .band => some .BitAnd
  | .bor => some .BitOr
  | _ => none
def opC : O2 → Option CmpOp
  | .eq => some .Eq
  | .ne => some .NotEq
  | .lt => some .Lt
  | .le => some .LtE
  | .gt => some .Gt
  | .ge => some .GtE
  | .is => some .Is
  | .isnt => some .IsNot
  | .isin => some .In
  | .notin => some .NotIn
  | _ => none
theorem opB_f {o : O2} {op : Operator} (h : opB o = some op) : opf o = binaryOp op ∧ o ≠ .ix := by
  cases o <;> simp only [opB, Option.some.injEq, reduceCtorEq] at h <;> subst h <;> exact ⟨rfl, fun z => by cases z⟩
theorem opC_f {o : O2} {op : CmpOp} (h : opC o = some op) : opf o = compareOp op ∧ o ≠ .ix := by
  cases o <;> simp only [opC, Option.some.injEq, reduceCtorEq] at h <;> subst h <;> exact ⟨rfl, fun z => by cases z⟩
theorem s2B {o : O2} {op : Operator} (h : opB o = some op) : OpR X (binaryOp op) (s2 X o) := fun pins s σ H x y v u Q I rx ry q => by
  rw [← (opB_f h).1]
  exact q pins s σ v u I rx ry
theorem s2C {o : O2} {op : CmpOp} (h : opC o = some op) : OpR X (compareOp op) (s2 X o) := fun pins s σ H x y v u Q I rx ry q => by
  rw [← (opC_f h).1]
  exact q pins s σ v u I rx ry
/-- a place of an operand: its reading, and that the two-place forms read so -/
inductive Opd (X : Cx) (cl : Calls) : Expr → CE ⊕ Nat → Prop
  | e {a : Expr} {c : CE} (h : SD X cl a c) : Opd X cl a (.inl c)
  | v {x : Str} {i : Nat} {pos : Pos} (hN : X.N[i]? = some x) (hv : Vis X.env.scope x) (hd : (x == ("__debug__" : Str)) = false) (hcd : (x == ("__classdict__" : Str)) = false) : Opd X cl (.Name x pos) (.inr i)
def mk2 (o : O2) : CE ⊕ Nat → CE ⊕ Nat → CE
  | .inl a, .inl b => .op2 o a b
  | .inr i, .inl b => .op2v o i b
  | .inl a, .inr j => .op2w o a j
  | .inr i, .inr j => .op2x o i j
theorem s_mk2 {o : O2} {rd : R2} {oa ob : CE ⊕ Nat} (ha : Opd X cl a oa) (hb : Opd X cl b ob) :
    ∃ ta tb, PE X a ta ∧ PE X b tb ∧ ∀ (B : Fr) (G H : Hp) (τ : List Ent) (σ : L2.St) (ρ ρ' : PEnv) (r : Sl) (Q : VK),
      (∀ {G H : Hp} {L : List Ent} {x y : V} {d e : PyData} {r : Sl} {Q : VK}, op2 o d e = some r → Ok X.K B G L H → Rep1 X.K G H x d → Rep1 X.K G H y e → Post X B G L r Q → rd x y H Q) →
      σ.length = ρ.length → ev cl (mk2 o oa ob) ρ = some (r, ρ') → Ok X.K B G (τ ++ σ.zip ρ) H →
      (∀ v G' H', ρ'.length = ρ.length → Ex G G' → Ok X.K B G' ((some v, r) :: (τ ++ σ.zip ρ')) H' → Q v H') → tOp rd ta tb σ H Q := by
  cases ha with
  | e ha =>
    cases hb with
    | e hb => exact ⟨_, _, pe_W X _, pe_W X _, fun B G H τ σ ρ ρ' r Q hrd hl he ok q => s_op2 (fun h => hrd h) ha hb hl he ok q⟩
    | v h1 h2 h3 h4 => exact ⟨_, _, pe_W X _, pe_var h1 h2 h3 h4, fun B G H τ σ ρ ρ' r Q hrd hl he ok q => s_op2w (fun h => hrd h) ha hl he ok q⟩
  | v h1 h2 h3 h4 =>
    cases hb with
    | e hb => exact ⟨_, _, pe_var h1 h2 h3 h4, pe_W X _, fun B G H τ σ ρ ρ' r Q hrd hl he ok q => s_op2v (fun h => hrd h) hb hl he ok q⟩
    | v h1' h2' h3' h4' => exact ⟨_, _, pe_var h1 h2 h3 h4, pe_var h1' h2' h3' h4', fun B G H τ σ ρ ρ' r Q hrd hl he ok q => s_op2x (fun h => hrd h) hl he ok q⟩
variable {oa ob : CE ⊕ Nat} {o : O2}
theorem se_bin (hu : X.A.units + 65 < cLine) {op : Operator} (h : opB o = some op) (ha : Opd X cl a oa) (hb : Opd X cl b ob) : SE X cl (.BinOp a op b pos) (mk2 o oa ob) := by
  intro B G H τ σ ρ ρ' r Q hl he ok q
  obtain ⟨ta, tb, pa, pb, w⟩ := s_mk2 (o := o) (rd := s2 X o) ha hb
  exact WE_of (pe_op (s2B h) pa pb) (w B G H τ σ ρ ρ' r Q (fun h1 h2 h3 h4 h5 => op2_ok hu o _ _ h1 (opB_f h).2 h2 h3 h4 h5) hl he ok q)
theorem se_cmp (hu : X.A.units + 65 < cLine) {op : CmpOp} (h : opC o = some op) (hm : behindInMarks op b = false) (ha : Opd X cl a oa) (hb : Opd X cl b ob) : SE X cl (.Compare a [op] [b] pos) (mk2 o oa ob) := by
  intro B G H τ σ ρ ρ' r Q hl he ok q
  obtain ⟨ta, tb, pa, pb, w⟩ := s_mk2 (o := o) (rd := s2 X o) ha hb
  exact WE_of (pe_cmpR (s2C h) pa pb hm) (w B G H τ σ ρ ρ' r Q (fun h1 h2 h3 h4 h5 => op2_ok hu o _ _ h1 (opC_f h).2 h2 h3 h4 h5) hl he ok q)
theorem se_ix (hs : PlainIx b) (ha : Opd X cl a oa) (hb : Opd X cl b ob) : SE X cl (.Subscript a b pos) (mk2 .ix oa ob) := by
  intro B G H τ σ ρ ρ' r Q hl he ok q
  obtain ⟨ta, tb, pa, pb, w⟩ := s_mk2 (o := .ix) (rd := sIx X) ha hb
  exact WE_of (pe_ix (ix_s X) pa pb hs) (w B G H τ σ ρ ρ' r Q (fun h1 h2 h3 h4 h5 => ix_ok _ _ h1 h2 h3 h4 h5) hl he ok q)
/-- what a comparison gives is a truth value -/
theorem opC_bool {op : CmpOp} (h : opC o = some op) {x y : PyData} {r : Sl} (e : op2 o x y = some r) : ∃ b, r = .sh (.bool b) := by
  cases o <;> simp only [opC, Option.some.injEq, reduceCtorEq] at h <;> cases x <;> cases y <;> simp only [op2, bl, Option.ite_none_right_eq_some, Option.some.injEq, reduceCtorEq] at e <;>
    first
      | exact ⟨_, e.symm⟩
      | exact ⟨_, e.2.symm⟩
theorem mk2_res {r : Sl} {ρ ρ' : PEnv} (he : ev cl (mk2 o oa ob) ρ = some (r, ρ')) : ∃ x y, op2 o x y = some r := by
  cases oa <;> cases ob <;> simp only [mk2, ev, bind, Option.bind_eq_some_iff, Option.some.injEq, Prod.exists, Prod.mk.injEq] at he
  · obtain ⟨_, _, _, _, _, _, _, _, _, _, _, h, rfl, _⟩ := he
    exact ⟨_, _, h⟩
  · obtain ⟨_, _, _, _, _, _, _, _, h, rfl, _⟩ := he
    exact ⟨_, _, h⟩
  · obtain ⟨_, _, _, _, _, _, _, _, _, _, h, rfl, _⟩ := he
    exact ⟨_, _, h⟩
  · obtain ⟨_, _, _, _, _, h, rfl, _⟩ := he
    exact ⟨_, _, h⟩
theorem st_cmp (hu : X.A.units + 65 < cLine) {op : CmpOp} (h : opC o = some op) (hm : behindInMarks op b = false) (ha : Opd X cl a oa) (hb : Opd X cl b ob) : ST X cl (WT X (.Compare a [op] [b] pos)) (mk2 o oa ob) := by
  intro B G H τ σ ρ ρ' r t Q hl he hb' ok q
  obtain ⟨ta, tb, pa, pb, w⟩ := s_mk2 (o := o) (rd := s2 X o) ha hb
  refine WT_of (pt_cmpR (s2C h) pa pb hm) ?_
  refine w B G H τ σ ρ ρ' r _ (fun h1 h2 h3 h4 h5 => op2_ok hu o _ _ h1 (opC_f h).2 h2 h3 h4 h5) hl he ok fun v G' H' l eg k => ?_
  obtain ⟨x, y, e⟩ := mk2_res he
  obtain ⟨b', rfl⟩ := opC_bool h e
  have e2 : b' = t := by simpa [toD, truthD] using hb'
  subst e2
  have rv := k.rep
  cases rv
  exact ⟨_, rfl, q G' H' l eg k.tail⟩
end
end PP
namespace PP
open PySem L2 PySem.Spec PyProof.Rows
/-! ### arguments -/
def notStar : Expr → Bool
  | .Starred .. => false
  | _ => true
theorem star_cons {e : Expr} {es : List Expr} {env : Env} (h : notStar e = true) : starEach (e :: es) env = (false, eval e env) :: starEach es env := by
  cases e <;> first
    | rfl
    | cases h
theorem star_plain {pos : Pos} {env : Env} : ∀ {es : List Expr}, es.all notStar = true → (backTo pos (starEach es env)).any (·.1) = false
  | [], _ => rfl
  | e :: es, h => by
    rw [List.all_cons, Bool.and_eq_true] at h
    rw [star_cons h.1]
    show (false || (backTo pos (starEach es env)).any (·.1)) = false
    rw [star_plain h.2]
    rfl
theorem star_none {pos : Pos} {env : Env} : ∀ {es : List Expr}, es.all notStar = true → (backTo pos (starEach es env)).all (fun x => !x.1) = true
  | [], _ => rfl
  | e :: es, h => by
    rw [List.all_cons, Bool.and_eq_true] at h
    rw [star_cons h.1]
    show (true && (backTo pos (starEach es env)).all (fun x => !x.1)) = true
    rw [star_none h.2]
    rfl
section
variable {X : Cx} {cl : Calls} {e a b : Expr} {es : List Expr} {c ca cb cc : CE} {pos p : Pos} {x : Str} {oa ob : CE ⊕ Nat}
theorem sa_nil : SA X cl [] .nil := by
  intro B G H τ σ ρ ρ' ds Q hl he ok q
  simp only [evA, Option.some.injEq, Prod.mk.injEq] at he
  obtain ⟨rfl, rfl⟩ := he
  exact WA_of pa_nil (q [] G H rfl (Evl.Ex.refl G) ok .nil)
theorem sa_cons (hs : notStar e = true) (ha : SD X cl e ca) (hb : SA X cl es cb) : SA X cl (e :: es) (.cons ca cb) := by
  intro B G H τ σ ρ ρ' ds Q hl he ok q
  simp only [evA, bind, Option.bind_eq_some_iff, Option.some.injEq, Prod.exists, Prod.mk.injEq] at he
  obtain ⟨r, ρ1, e1, d, e2, ds', ρ2, e3, rfl, rfl⟩ := he
  refine WA_of (pa_cons (pe_W X e) (pa_W X es) (star_cons hs)) ?_
  refine ha B G H τ σ ρ ρ1 r d _ hl e1 e2 ok fun v G1 H1 l1 x1 k1 v1 => ?_
  refine hb B G1 H1 τ σ ρ1 ρ2 ds' _ (by omega) e3 k1 fun vs G2 H2 l2 x2 k2 v2 => ?_
  exact q (v :: vs) G2 H2 (by omega) (x1.trans x2) k2 (.cons (v1.mono x2) v2)
/-- one operand -/
def mk1 (o : O1) : CE ⊕ Nat → CE
  | .inl a => .op1 o a
  | .inr i => .op1v o i
theorem s_mk1 {o : O1} {rd : V → Hp → VK → Prop} (ha : Opd X cl a oa) :
    ∃ ta, PE X a ta ∧ ∀ (B : Fr) (G H : Hp) (τ : List Ent) (σ : L2.St) (ρ ρ' : PEnv) (r : Sl) (Q : VK),
      (∀ {G H : Hp} {L : List Ent} {x : V} {d : PyData} {r : Sl} {Q : VK}, op1 o d = some r → Ok X.K B G L H → Rep1 X.K G H x d → Post X B G L r Q → rd x H Q) →
      σ.length = ρ.length → ev cl (mk1 o oa) ρ = some (r, ρ') → Ok X.K B G (τ ++ σ.zip ρ) H →
      (∀ v G' H', ρ'.length = ρ.length → Ex G G' → Ok X.K B G' ((some v, r) :: (τ ++ σ.zip ρ')) H' → Q v H') → ta σ H fun x H1 => rd x H1 Q := by
  cases ha with
  | e ha =>
    refine ⟨_, pe_W X _, fun B G H τ σ ρ ρ' r Q hrd hl he ok q => ?_⟩
    simp only [mk1, ev, bind, Option.bind_eq_some_iff, Option.some.injEq, Prod.exists, Prod.mk.injEq] at he
    obtain ⟨r1, ρ1, e1, d1, t1, z, e3, rfl, rfl⟩ := he
    exact ha B G H τ σ ρ ρ1 r1 d1 _ hl e1 t1 ok fun v G1 H1 l1 x1 k1 v1 => hrd e3 k1 (v1.one k1.sub) fun v' G' H' eg k' => q v' G' H' l1 (x1.trans eg) k'
  | v h1 h2 h3 h4 =>
    refine ⟨_, pe_var h1 h2 h3 h4, fun B G H τ σ ρ ρ' r Q hrd hl he ok q => ?_⟩
    simp only [mk1, ev, bind, Option.bind_eq_some_iff, Option.some.injEq, Prod.exists, Prod.mk.injEq] at he
    obtain ⟨d1, p1, z, e3, rfl, rfl⟩ := he
    obtain ⟨v, s0, v1⟩ := peek_ok hl ok p1
    exact ⟨v, s0, hrd e3 ok v1 fun v' G' H' eg k' => q v' G' H' rfl eg k'⟩
theorem opd_star (ha : Opd X cl a oa) (h : notStar a = true ∨ True) : True := trivial
theorem se_neg (ha : Opd X cl a oa) : SE X cl (.UnaryOp .USub a pos) (mk1 .neg oa) := by
  intro B G H τ σ ρ ρ' r Q hl he ok q
  obtain ⟨ta, pa, w⟩ := s_mk1 (o := .neg) (rd := rU fun i => .int (-i)) ha
  refine WE_of (pe_un un_neg pa) (w B G H τ σ ρ ρ' r Q (fun {G H L x d r Q} h ok rx q => ?_) hl he ok q)
  cases rx <;> simp only [op1, it, Option.some.injEq, reduceCtorEq] at h
  subst h
  exact ⟨_, rfl, post_int ok q⟩
theorem se_not (ha : Opd X cl a oa) : SE X cl (.UnaryOp .Not a pos) (mk1 .not oa) := by
  intro B G H τ σ ρ ρ' r Q hl he ok q
  obtain ⟨ta, pa, w⟩ := s_mk1 (o := .not) (rd := fun x H1 Q => ∃ k, TruV X.K x H1 k ∧ Q (.bl (!k)) H1) ha
  refine WE_of (pe_notT pa) (w B G H τ σ ρ ρ' r Q (fun {G H L x d r Q} h ok rx q => ?_) hl he ok q)
  simp only [op1, Option.map_eq_some_iff] at h
  obtain ⟨b, h1, rfl⟩ := h
  exact ⟨b, tru_of ok.sub h1 rx, post_bl ok q⟩
/-- a truth test of an operand as it lies -/
theorem st_opd (hp : ∀ whole, isTrue a X.env whole = (do let v ← whole; standAt a.pos; holding [v] (truthy v))) (ha : Opd X cl a oa) :
    ∀ (B : Fr) (G H : Hp) (τ : List Ent) (σ : L2.St) (ρ ρ' : PEnv) (r : Sl) (Q : Bool → Hp → Prop) , σ.length = ρ.length → ev cl (mk1 .not oa) ρ = some (r, ρ') → Ok X.K B G (τ ++ σ.zip ρ) H →
      (∀ b G' H', r = .sh (.bool !b) → ρ'.length = ρ.length → Ex G G' → Ok X.K B G' (τ ++ σ.zip ρ') H' → Q b H') → WT X a σ H Q := by
  intro B G H τ σ ρ ρ' r Q hl he ok q
  cases ha with
  | e ha =>
    simp only [mk1, ev, bind, Option.bind_eq_some_iff, Option.some.injEq, Prod.exists, Prod.mk.injEq] at he
    obtain ⟨r1, ρ1, e1, d1, t1, z, e3, rfl, rfl⟩ := he
    simp only [op1, Option.map_eq_some_iff] at e3
    obtain ⟨b, h1, rfl⟩ := e3
    exact SD.st ha hp B G H τ σ ρ ρ1 r1 b Q hl e1 (by rw [t1]; exact h1) ok fun G' H' l eg k => q b G' H' rfl l eg k
  | v h1 h2 h3 h4 =>
    simp only [mk1, ev, bind, Option.bind_eq_some_iff, Option.some.injEq, Prod.exists, Prod.mk.injEq] at he
    obtain ⟨d1, p1, z, e3, rfl, rfl⟩ := he
    simp only [op1, Option.map_eq_some_iff] at e3
    obtain ⟨b, h5, rfl⟩ := e3
    obtain ⟨v, s0, v1⟩ := peek_ok hl ok p1
    exact WT_of (pt_truth (pe_var h1 h2 h3 h4) hp) ⟨v, s0, b, tru_of ok.sub h5 v1, q b G H rfl rfl (Evl.Ex.refl G) ok⟩
/-- an operand as a test -/
theorem st_truth (hp : ∀ whole, isTrue a X.env whole = (do let v ← whole; standAt a.pos; holding [v] (truthy v))) (ha : Opd X cl a oa) : ST X cl (WT X a) (mk1 .truth oa) := by
  intro B G H τ σ ρ ρ' r b Q hl he hb ok q
  cases ha with
  | e ha =>
    simp only [mk1, ev, bind, Option.bind_eq_some_iff, Option.some.injEq, Prod.exists, Prod.mk.injEq] at he
    obtain ⟨r1, ρ1, e1, d1, t1, z, e3, rfl, rfl⟩ := he
    simp only [op1, Option.map_eq_some_iff] at e3
    obtain ⟨b', h1, rfl⟩ := e3
    have e2 : b' = b := by simpa [toD, truthD] using hb
    subst e2
    exact SD.st ha hp B G H τ σ ρ ρ1 r1 b' Q hl e1 (by rw [t1]; exact h1) ok q
  | v h1 h2 h3 h4 =>
    simp only [mk1, ev, bind, Option.bind_eq_some_iff, Option.some.injEq, Prod.exists, Prod.mk.injEq] at he
    obtain ⟨d1, p1, z, e3, rfl, rfl⟩ := he
    simp only [op1, Option.map_eq_some_iff] at e3
    obtain ⟨b', h5, rfl⟩ := e3
    have e2 : b' = b := by simpa [toD, truthD] using hb
    subst e2
    obtain ⟨v, s0, v1⟩ := peek_ok hl ok p1
    exact WT_of (pt_truth (pe_var h1 h2 h3 h4) hp) ⟨v, s0, b', tru_of ok.sub h5 v1, q G H rfl (Evl.Ex.refl G) ok⟩
/-- a built-in called with one operand -/
def bltOf : O1 → Option Str
  | .len => some "len"
  | .sum => some "sum"
  | .abs => some "abs"
  | .tuple => some "tuple"
  | .list => some "list"
  | .min => some "min"
  | .max => some "max"
  | .int => some "int"
  | .all => some "all"
  | .any => some "any"
  | .sorted => some "sorted"
  | _ => none
theorem blt_f1 {o : O1} (h : bltOf o = some x) : ∃ f, f1 o = some f ∧ bootBuiltins x = some f ∧ x ≠ "__name__" ∧ (x == ("__debug__" : Str)) = false ∧ ((∃ id, f = .builtin id) ∨ ∃ T, f = .type T) := by
  cases o <;> simp only [bltOf, Option.some.injEq, reduceCtorEq] at h <;> subst h
  · exact ⟨_, rfl, by decide +kernel, by decide, by decide, .inl ⟨_, rfl⟩⟩
  · exact ⟨_, rfl, by decide +kernel, by decide, by decide, .inl ⟨_, rfl⟩⟩
  · exact ⟨_, rfl, by decide +kernel, by decide, by decide, .inl ⟨_, rfl⟩⟩
  · exact ⟨_, rfl, by decide +kernel, by decide, by decide, .inl ⟨_, rfl⟩⟩
  · exact ⟨_, rfl, by decide +kernel, by decide, by decide, .inr ⟨_, rfl⟩⟩
  · exact ⟨_, rfl, by decide +kernel, by decide, by decide, .inr ⟨_, rfl⟩⟩
  · exact ⟨_, rfl, by decide +kernel, by decide, by decide, .inl ⟨_, rfl⟩⟩
  · exact ⟨_, rfl, by decide +kernel, by decide, by decide, .inl ⟨_, rfl⟩⟩
  · exact ⟨_, rfl, by decide +kernel, by decide, by decide, .inr ⟨_, rfl⟩⟩
  · exact ⟨_, rfl, by decide +kernel, by decide, by decide, .inl ⟨_, rfl⟩⟩
  · exact ⟨_, rfl, by decide +kernel, by decide, by decide, .inl ⟨_, rfl⟩⟩
/-- any built-in or type called -/
theorem pe_callV {f : Value} {t : TA} (hf : (∃ id, f = .builtin id) ∨ ∃ T, f = .type T) (hg : Gl X x) (hm : X.mg x = none) (hv : bootBuiltins x = some f) (hn : x ≠ "__name__") (hdb : (x == ("__debug__" : Str)) = false)
    (hs : (e :: es).all notStar = true) (ha : PA X (e :: es) t) : PE X (.Call (.Name x p) (e :: es) [] pos) (tCB (s1 X f) t) := by
  have hs' := hs
  rw [List.all_cons, Bool.and_eq_true] at hs'
  rcases hf with ⟨id, rfl⟩ | ⟨T, rfl⟩
  · exact pe_callB (s1_r X _) hg hm hv ha hn hdb (star_cons hs'.1) (star_plain hs'.2)
  · exact pe_callTy (s1_r X _) hg hm hv ha hn hdb (star_cons hs'.1) (star_plain hs'.2)
theorem se_b1 {o : O1} (hu : X.A.units + 65 < cLine) (hc : X.calm = true) (hb : bltOf o = some x) (hg : Gl X x) (hm : X.mg x = none) (hs : notStar a = true) (ha : Opd X cl a oa) : SE X cl (.Call (.Name x p) [a] [] pos) (mk1 o oa) := by
  intro B G H τ σ ρ ρ' r Q hl he ok q
  obtain ⟨f, hf, hv, hn, hd, hk⟩ := blt_f1 hb
  obtain ⟨ta, pa, w⟩ := s_mk1 (o := o) (rd := fun y => s1 X f [y]) ha
  refine WE_of (pe_callV (es := []) hk hg hm hv hn hd (by simp [hs]) (pa_cons pa pa_nil (star_cons hs))) ?_
  exact w B G H τ σ ρ ρ' r Q (fun h ok rx q => op1_call hu hc o _ hf h ok rx q) hl he ok q
def isTyN (o : O1) : Option Str := match o with
  | .isint => some "int"
  | .isbool => some "bool"
  | .istuple => some "tuple"
  | .isstr => some "str"
  | _ => none
theorem isTyN_t {o : O1} {y : Str} (h : isTyN o = some y) : ∃ t, isTy o = some t ∧ bootBuiltins y = some (.type t) ∧ y ≠ "__name__" ∧ (y == ("__debug__" : Str)) = false := by
  cases o <;> simp only [isTyN, Option.some.injEq, reduceCtorEq] at h <;> subst h <;> exact ⟨_, rfl, by decide +kernel, by decide, by decide⟩
theorem se_isi {o : O1} {y : Str} {p2 : Pos} (hb : isTyN o = some y) (hg : Gl X "isinstance") (hm : X.mg "isinstance" = none) (hg2 : Gl X y) (hm2 : X.mg y = none) (hs : notStar a = true) (ha : Opd X cl a oa) :
    SE X cl (.Call (.Name "isinstance" p) [a, .Name y p2] [] pos) (mk1 o oa) := by
  intro B G H τ σ ρ ρ' r Q hl he ok q
  obtain ⟨t, ht, hv, hn, hd⟩ := isTyN_t hb
  obtain ⟨ta, pa, w⟩ := s_mk1 (o := o) (rd := fun z => s1 X (.builtin "isinstance") [z, .ty t]) ha
  refine WE_of (pe_callV (f := .builtin "isinstance") (.inl ⟨_, rfl⟩) hg hm (by decide +kernel) (by decide) (by decide) (by simp [hs]; rfl) (pa_cons pa (pa_cons (pe_bltn (v := .ty t) hg2 hm2 hv rfl hn hd) pa_nil (star_cons rfl)) (star_cons hs))) ?_
  exact w B G H τ σ ρ ρ' r Q (fun h ok rx q => op1_isi o t _ ht h ok rx q) hl he ok q
/-! max, min of two -/
theorem se_bi2 {o : B2} (hc : X.calm = true) (hx : o = .min ∧ x = "min" ∨ o = .max ∧ x = "max") (hg : Gl X x) (hm : X.mg x = none) (hs : notStar a = true) (hs2 : notStar b = true) (ha : SD X cl a ca) (hb : SD X cl b cb) :
    SE X cl (.Call (.Name x p) [a, b] [] pos) (.bi2 o ca cb) := by
  intro B G H τ σ ρ ρ' r Q hl he ok q
  simp only [ev, bind, Option.bind_eq_some_iff, Prod.exists] at he
  obtain ⟨r1, ρ1, e1, d1, t1, r2, ρ2, e2, d2, t2, e3⟩ := he
  have pa : PA X [a, b] (tCons (WE X a) (tCons (WE X b) tNil)) := pa_cons (pe_W X a) (pa_cons (pe_W X b) pa_nil (star_cons hs2)) (star_cons hs)
  have key : ∀ (f : Value), (∀ vs H Q, s1 X f vs H Q → s1 X f vs H Q) → (∀ x y H1, (∃ G1, Ex G G1 ∧ Ok X.K B G1 (τ ++ σ.zip ρ2) H1 ∧ Rep X.K G1 x d1 ∧ Rep X.K G1 y d2 ∧ ρ2.length = ρ.length) → s1 X f [x, y] H1 Q) → tCB (s1 X f) (tCons (WE X a) (tCons (WE X b) tNil)) σ H Q := fun f _ hf => by
    refine ha B G H τ σ ρ ρ1 r1 d1 _ hl e1 t1 ok fun v G1 H1 l1 x1 k1 v1 => ?_
    refine hb B G1 H1 τ σ ρ1 ρ2 r2 d2 _ (by omega) e2 t2 k1 fun u G2 H2 l2 x2 k2 u2 => ?_
    exact hf v u H2 ⟨G2, x1.trans x2, k2, v1.mono x2, u2, by omega⟩
  rcases hx with ⟨rfl, hx⟩ | ⟨rfl, hx⟩
  · subst hx
    refine WE_of (pe_callV (f := .builtin "min") (.inl ⟨_, rfl⟩) hg hm (by decide +kernel) (by decide) (by decide) (by simp [hs, hs2]) pa) (key _ (fun _ _ _ h => h) fun x y H1 ⟨G1, x1, k1, rx, ry, l⟩ => ?_)
    cases rx <;> cases ry <;> simp only [Option.some.injEq, Prod.mk.injEq, reduceCtorEq] at e3
    obtain ⟨rfl, rfl⟩ := e3
    exact s1_of (call_min2 hc) ⟨_, _, rfl, q _ G1 H1 l x1 (k1.consR (.int _))⟩
  · subst hx
    refine WE_of (pe_callV (f := .builtin "max") (.inl ⟨_, rfl⟩) hg hm (by decide +kernel) (by decide) (by decide) (by simp [hs, hs2]) pa) (key _ (fun _ _ _ h => h) fun x y H1 ⟨G1, x1, k1, rx, ry, l⟩ => ?_)
    cases rx <;> cases ry <;> simp only [Option.some.injEq, Prod.mk.injEq, reduceCtorEq] at e3
    obtain ⟨rfl, rfl⟩ := e3
    exact s1_of (call_max2 hc) ⟨_, _, rfl, q _ G1 H1 l x1 (k1.consR (.int _))⟩
/-! chains -/
theorem s_chain {o o' : O2} (ho : o ≠ .ix) (ho' : o' ≠ .ix) (hu : X.A.units + 65 < cLine) (hcb : ∀ x y r, op2 o x y = some r → ∃ b, r = .sh (.bool b)) {cE : Expr} (ha : SD X cl a ca) (hb : SD X cl b cb) (hc' : SD X cl cE cc) {B : Fr} {G H : Hp} {τ : List Ent} {σ : L2.St} {ρ ρ' : PEnv} {r : Sl} {Q : VK}
    (hl : σ.length = ρ.length) (he : ev cl (.chain o o' ca cb cc) ρ = some (r, ρ')) (ok : Ok X.K B G (τ ++ σ.zip ρ) H)
    (q : ∀ v G' H', ρ'.length = ρ.length → Ex G G' → Ok X.K B G' ((some v, r) :: (τ ++ σ.zip ρ')) H' → Q v H') : tChain (s2 X o) (s2 X o') (WE X a) (WE X b) (WE X cE) σ H Q := by
  simp only [ev, bind, Option.bind_eq_some_iff, Prod.exists] at he
  obtain ⟨r1, ρ1, e1, d1, t1, r2, ρ2, e2, d2, t2, z, e3, e4⟩ := he
  refine ha B G H τ σ ρ ρ1 r1 d1 _ hl e1 t1 ok fun v G1 H1 l1 x1 k1 v1 => ?_
  refine hb B G1 H1 τ σ ρ1 ρ2 r2 d2 _ (by omega) e2 t2 k1 fun u G2 H2 l2 x2 k2 u2 => ?_
  refine op2_ok hu o d1 d2 e3 ho k2 ((v1.mono x2).one k2.sub) (u2.one k2.sub) fun z' G3 H3 x3 k3 => ?_
  obtain ⟨bb, rfl⟩ := hcb _ _ _ e3
  have rz := k3.rep
  cases rz
  refine ⟨bb, rfl, ?_⟩
  cases bb with
  | false =>
    simp only [Option.some.injEq, Prod.mk.injEq] at e4
    obtain ⟨rfl, rfl⟩ := e4
    rw [if_neg (by decide)]
    exact q _ G3 H3 (by omega) ((x1.trans x2).trans x3) k3
  | true =>
    simp only [Option.bind_eq_some_iff, Option.some.injEq, Prod.exists, Prod.mk.injEq] at e4
    obtain ⟨r3, ρ3, e5, d3, t3, z4, e6, rfl, rfl⟩ := e4
    rw [if_pos rfl]
    refine hc' B G3 H3 τ σ ρ2 ρ3 r3 d3 _ (by omega) e5 t3 k3.tail fun w G4 H4 l4 x4 k4 w4 => ?_
    exact op2_ok hu o' d2 d3 e6 ho' k4 (((u2.mono x3).mono x4).one k4.sub) (w4.one k4.sub) fun v' G' H' eg k' => q v' G' H' (by omega) ((((x1.trans x2).trans x3).trans x4).trans eg) k'
theorem se_chain {o o' : O2} {op op' : CmpOp} {cE : Expr} (hu : X.A.units + 65 < cLine) (h : opC o = some op) (h' : opC o' = some op') (hm : lastMarks [op, op'] [b, cE] = false) (ha : SD X cl a ca) (hb : SD X cl b cb) (hc' : SD X cl cE cc) :
    SE X cl (.Compare a [op, op'] [b, cE] pos) (.chain o o' ca cb cc) := by
  intro B G H τ σ ρ ρ' r Q hl he ok q
  exact WE_of (pe_chain (s2C h) (s2C h') (pe_W X a) (pe_W X b) (pe_W X cE) hm) (s_chain (opC_f h).2 (opC_f h').2 hu (fun _ _ _ e => opC_bool h e) ha hb hc' hl he ok q)
theorem chain_res {o o' : O2} {op' : CmpOp} (h' : opC o' = some op') {r : Sl} {ρ ρ' : PEnv} (he : ev cl (.chain o o' ca cb cc) ρ = some (r, ρ')) : ∃ b, r = .sh (.bool b) := by
  simp only [ev, bind, Option.bind_eq_some_iff, Prod.exists] at he
  obtain ⟨r1, ρ1, e1, d1, t1, r2, ρ2, e2, d2, t2, z, e3, e4⟩ := he
  split at e4
  · simp only [Option.bind_eq_some_iff, Option.some.injEq, Prod.exists, Prod.mk.injEq] at e4
    obtain ⟨r3, ρ3, e5, d3, t3, z4, e6, rfl, rfl⟩ := e4
    exact opC_bool h' e6
  · simp only [Option.some.injEq, Prod.mk.injEq] at e4
    exact ⟨_, e4.1.symm⟩
  · cases e4
theorem st_chain {o o' : O2} {op op' : CmpOp} {cE : Expr} (hu : X.A.units + 65 < cLine) (h : opC o = some op) (h' : opC o' = some op') (hm : lastMarks [op, op'] [b, cE] = false) (ha : SD X cl a ca) (hb : SD X cl b cb) (hc' : SD X cl cE cc) :
    ST X cl (WT X (.Compare a [op, op'] [b, cE] pos)) (.chain o o' ca cb cc) := by
  intro B G H τ σ ρ ρ' r t Q hl he hb' ok q
  refine WT_of (pt_chain (s2C h) (s2C h') (pe_W X a) (pe_W X b) (pe_W X cE) hm) ?_
  refine s_chain (opC_f h).2 (opC_f h').2 hu (fun _ _ _ e => opC_bool h e) ha hb hc' hl he ok fun v G' H' l eg k => ?_
  obtain ⟨b', rfl⟩ := chain_res h' he
  have e2 : b' = t := by simpa [toD, truthD] using hb'
  subst e2
  have rv := k.rep
  cases rv
  exact ⟨_, rfl, q G' H' l eg k.tail⟩
/-! and, or, not, if .. else -/
theorem se_and {es : List Expr} (ha : SD X cl a ca) (hb : SE X cl (.BoolOp .And (b :: es) pos) cb) : SE X cl (.BoolOp .And (a :: b :: es) pos) (.and ca cb) := by
  intro B G H τ σ ρ ρ' r Q hl he ok q
  simp only [ev, bind, Option.bind_eq_some_iff, Prod.exists] at he
  obtain ⟨r1, ρ1, e1, d1, t1, t, e2, e3⟩ := he
  refine WE_of (pe_andT (pe_W X a) (pe_W X _)) ?_
  refine ha B G H τ σ ρ ρ1 r1 d1 _ hl e1 t1 ok fun v G1 H1 l1 x1 k1 v1 => ⟨t, tru_of k1.sub e2 (v1.one k1.sub), ?_⟩
  cases t with
  | true =>
    rw [if_pos rfl] at e3 ⊢
    exact hb B G1 H1 τ σ ρ1 ρ' r Q (by omega) e3 k1 fun v' G' H' l eg k => q v' G' H' (by omega) (x1.trans eg) k
  | false =>
    rw [if_neg (by decide)] at e3 ⊢
    simp only [Option.some.injEq, Prod.mk.injEq] at e3
    obtain ⟨rfl, rfl⟩ := e3
    exact q v G1 H1 l1 x1 (k1.consR v1)
theorem se_or {es : List Expr} (ha : SD X cl a ca) (hb : SE X cl (.BoolOp .Or (b :: es) pos) cb) : SE X cl (.BoolOp .Or (a :: b :: es) pos) (.or ca cb) := by
  intro B G H τ σ ρ ρ' r Q hl he ok q
  simp only [ev, bind, Option.bind_eq_some_iff, Prod.exists] at he
  obtain ⟨r1, ρ1, e1, d1, t1, t, e2, e3⟩ := he
  refine WE_of (pe_orT (pe_W X a) (pe_W X _)) ?_
  refine ha B G H τ σ ρ ρ1 r1 d1 _ hl e1 t1 ok fun v G1 H1 l1 x1 k1 v1 => ⟨t, tru_of k1.sub e2 (v1.one k1.sub), ?_⟩
  cases t with
  | false =>
    rw [if_neg (by decide)] at e3 ⊢
    exact hb B G1 H1 τ σ ρ1 ρ' r Q (by omega) e3 k1 fun v' G' H' l eg k => q v' G' H' (by omega) (x1.trans eg) k
  | true =>
    rw [if_pos rfl] at e3 ⊢
    simp only [Option.some.injEq, Prod.mk.injEq] at e3
    obtain ⟨rfl, rfl⟩ := e3
    exact q v G1 H1 l1 x1 (k1.consR v1)
theorem se_one {op : BoolOp} (ha : SE X cl a ca) : SE X cl (.BoolOp op [a] pos) ca := by
  intro B G H τ σ ρ ρ' r Q hl he ok q
  exact WE_of (pe_one (pe_W X a)) (ha B G H τ σ ρ ρ' r Q hl he ok q)
theorem st_bool {d : PyData} {b : Bool} (h : truthD d = some b) : (toD (.sh d)).bind truthD = some b := h
theorem sw_and {es : List Expr} (ha : ST X cl (WT X a) ca) (hb : ST X cl (WW X (.BoolOp .And (b :: es) pos)) cb) : ST X cl (WW X (.BoolOp .And (a :: b :: es) pos)) (.and ca cb) := by
  intro B G H τ σ ρ ρ' r t Q hl he ht ok q
  simp only [ev, bind, Option.bind_eq_some_iff, Prod.exists] at he
  obtain ⟨r1, ρ1, e1, d1, t1, t', e2, e3⟩ := he
  refine WW_of (pw_and (pt_W X a) (pw_W X _)) ?_
  refine ha B G H τ σ ρ ρ1 r1 t' _ hl e1 (by rw [t1]; exact e2) ok fun G1 H1 l1 x1 k1 => ?_
  cases t' with
  | true =>
    rw [if_pos rfl] at e3 ⊢
    exact hb B G1 H1 τ σ ρ1 ρ' r t Q (by omega) e3 ht k1 fun G' H' l eg k => q G' H' (by omega) (x1.trans eg) k
  | false =>
    rw [if_neg (by decide)] at e3 ⊢
    simp only [Option.some.injEq, Prod.mk.injEq] at e3
    obtain ⟨rfl, rfl⟩ := e3
    have e4 : t = false := by
      have : truthD d1 = some t := ht
      rw [e2] at this
      exact (Option.some.inj this).symm
    subst e4
    exact q G1 H1 l1 x1 k1
theorem sw_or {es : List Expr} (ha : ST X cl (WT X a) ca) (hb : ST X cl (WW X (.BoolOp .Or (b :: es) pos)) cb) : ST X cl (WW X (.BoolOp .Or (a :: b :: es) pos)) (.or ca cb) := by
  intro B G H τ σ ρ ρ' r t Q hl he ht ok q
  simp only [ev, bind, Option.bind_eq_some_iff, Prod.exists] at he
  obtain ⟨r1, ρ1, e1, d1, t1, t', e2, e3⟩ := he
  refine WW_of (pw_or (pt_W X a) (pw_W X _)) ?_
  refine ha B G H τ σ ρ ρ1 r1 t' _ hl e1 (by rw [t1]; exact e2) ok fun G1 H1 l1 x1 k1 => ?_
  cases t' with
  | false =>
    rw [if_neg (by decide)] at e3 ⊢
    exact hb B G1 H1 τ σ ρ1 ρ' r t Q (by omega) e3 ht k1 fun G' H' l eg k => q G' H' (by omega) (x1.trans eg) k
  | true =>
    rw [if_pos rfl] at e3 ⊢
    simp only [Option.some.injEq, Prod.mk.injEq] at e3
    obtain ⟨rfl, rfl⟩ := e3
    have e4 : t = true := by
      have : truthD d1 = some t := ht
      rw [e2] at this
      exact (Option.some.inj this).symm
    subst e4
    exact q G1 H1 l1 x1 k1
theorem sw_one {op : BoolOp} (ha : ST X cl (WT X a) ca) : ST X cl (WW X (.BoolOp op [a] pos)) ca := by
  intro B G H τ σ ρ ρ' r t Q hl he ht ok q
  cases op
  · exact WW_of (pw_and1 (pt_W X a)) (ha B G H τ σ ρ ρ' r t Q hl he ht ok q)
  · exact WW_of (pw_or1 (pt_W X a)) (ha B G H τ σ ρ ρ' r t Q hl he ht ok q)
theorem ST.pt {e : Expr} (h : ST X cl (WW X e) c) : ST X cl (WT X e) c := fun B G H τ σ ρ ρ' r t Q hl he ht ok q =>
  WT_of (pw_W X e).pt (h B G H τ σ ρ ρ' r t Q hl he ht ok q)
/-- not .., as a test -/
theorem st_not (ha : ST X cl (WT X a) ca) : ST X cl (WT X (.UnaryOp .Not a pos)) (.op1 .not ca) := by
  intro B G H τ σ ρ ρ' r t Q hl he ht ok q
  simp only [ev, bind, Option.bind_eq_some_iff, Option.some.injEq, Prod.exists, Prod.mk.injEq] at he
  obtain ⟨r1, ρ1, e1, d1, t1, z, e3, rfl, rfl⟩ := he
  simp only [op1, Option.map_eq_some_iff] at e3
  obtain ⟨b, h1, rfl⟩ := e3
  have e2 : (!b) = t := by simpa [toD, truthD] using ht
  subst e2
  refine WT_of (pt_not (pt_W X a)) ?_
  exact ha B G H τ σ ρ ρ1 r1 b _ hl e1 (by rw [t1]; exact h1) ok fun G' H' l eg k => q G' H' l eg k
theorem se_ite {t : Expr} (hc' : ST X cl (WT X t) cc) (ha : SE X cl a ca) (hb : SE X cl b cb) : SE X cl (.IfExp t a b pos) (.ite cc ca cb) := by
  intro B G H τ σ ρ ρ' r Q hl he ok q
  simp only [ev, bind, Option.bind_eq_some_iff, Prod.exists] at he
  obtain ⟨r1, ρ1, e1, t', e2, e3⟩ := he
  refine WE_of (pe_ifExp (pt_W X t) (pe_W X a) (pe_W X b)) ?_
  refine hc' B G H τ σ ρ ρ1 r1 t' _ hl e1 (Option.bind_eq_some_iff.mpr e2) ok fun G1 H1 l1 x1 k1 => ?_
  cases t' with
  | true =>
    rw [if_pos rfl] at e3 ⊢
    exact ha B G1 H1 τ σ ρ1 ρ' r Q (by omega) e3 k1 fun v' G' H' l eg k => q v' G' H' (by omega) (x1.trans eg) k
  | false =>
    rw [if_neg (by decide)] at e3 ⊢
    exact hb B G1 H1 τ σ ρ1 ρ' r Q (by omega) e3 k1 fun v' G' H' l eg k => q v' G' H' (by omega) (x1.trans eg) k
/-! displays, slices -/
theorem se_tup {j : Nat} (ha : SA X cl es ca) : SE X cl (.Tuple es j pos) (.tup ca) := by
  intro B G H τ σ ρ ρ' r Q hl he ok q
  simp only [ev, bind, Option.bind_eq_some_iff, Prod.exists] at he
  obtain ⟨ds, ρ1, e1, e2⟩ := he
  simp only [Option.ite_none_right_eq_some, Option.some.injEq, Prod.mk.injEq] at e2
  obtain ⟨h1, rfl, rfl⟩ := e2
  refine WE_of (pe_tup (pa_W X es)) ?_
  refine ha B G H τ σ ρ ρ1 ds _ hl e1 ok fun vs G1 H1 l1 x1 k1 v1 => ⟨by rw [v1.length]; exact lim_le h1, fun p hp => ?_⟩
  exact q _ _ _ l1 (x1.trans (ex_new (k1.freshG hp))) (k1.newT hp v1)
theorem se_lst (ha : SA X cl es ca) : SE X cl (.List es pos) (.lst ca) := by
  intro B G H τ σ ρ ρ' r Q hl he ok q
  simp only [ev, bind, Option.bind_eq_some_iff, Prod.exists] at he
  obtain ⟨ds, ρ1, e1, e2⟩ := he
  simp only [Option.ite_none_right_eq_some, Option.some.injEq, Prod.mk.injEq] at e2
  obtain ⟨h1, rfl, rfl⟩ := e2
  refine WE_of (pe_lst (pa_W X es)) ?_
  refine ha B G H τ σ ρ ρ1 ds _ hl e1 ok fun vs G1 H1 l1 x1 k1 v1 => ⟨by rw [v1.length]; exact lim_le h1, fun p hp => ?_⟩
  exact q _ _ _ l1 x1 (k1.newL hp v1)
/-- a bound of a slice -/
inductive SP (X : Cx) (cl : Calls) : Option Expr → CE → Prop
  | none : SP X cl none (.k .none)
  | some {e : Expr} {c : CE} (hn : ∀ d, bnd c d ≠ some none) (h : SD X cl e c) : SP X cl (some e) c
theorem bnd_some {c : CE} {d : PyData} {i : Option Int} (hn : ∀ d, bnd c d ≠ some none) (h : bnd c d = some i) : ∃ j, d = .int j ∧ i = some j := by
  unfold bnd at h
  split at h
  · simp only [Option.some.injEq] at h
    subst h
    exact absurd rfl (hn .none)
  · simp only [Option.some.injEq] at h
    exact ⟨_, rfl, h.symm⟩
  · cases h
theorem sp_ok {oe : Option Expr} (h : SP X cl oe c) : ∃ t, PO X oe t ∧ ∀ (B : Fr) (G H : Hp) (τ : List Ent) (σ : L2.St) (ρ ρ' : PEnv) (r : Sl) (o : Option Int) (Q : Option Int → Hp → Prop), σ.length = ρ.length → ev cl c ρ = some (r, ρ') → (toD r).bind (bnd c) = some o →
    Ok X.K B G (τ ++ σ.zip ρ) H → (∀ G' H', ρ'.length = ρ.length → Ex G G' → Ok X.K B G' (τ ++ σ.zip ρ') H' → Q o H') → t σ H Q := by
  cases h with
  | none =>
    refine ⟨_, po_none, fun B G H τ σ ρ ρ' r o Q hl he hd ok q => ?_⟩
    simp only [ev, Option.some.injEq, Prod.mk.injEq] at he
    obtain ⟨rfl, rfl⟩ := he
    simp only [toD, Option.bind_some, bnd, Option.some.injEq] at hd
    subst hd
    exact q G H rfl (Evl.Ex.refl G) ok
  | some hn h =>
    refine ⟨_, po_some (pe_W X _), fun B G H τ σ ρ ρ' r o Q hl he hd ok q => ?_⟩
    obtain ⟨d, h1, h2⟩ := Option.bind_eq_some_iff.mp hd
    obtain ⟨j, rfl, rfl⟩ := bnd_some hn h2
    refine h B G H τ σ ρ ρ' r _ _ hl he h1 ok fun v G' H' l eg k rv => ?_
    cases rv
    exact ⟨_, rfl, q G' H' l eg k⟩
theorem se_sl {lo hi : Option Expr} {p2 : Pos} {cl' ch : CE} (ha : SD X cl a ca) (h1 : SP X cl lo cl') (h2 : SP X cl hi ch) : SE X cl (.Subscript a (.Slice lo hi none p2) pos) (.sl ca cl' ch) := by
  intro B G H τ σ ρ ρ' r Q hl he ok q
  simp only [ev, bind, Option.bind_eq_some_iff, Option.some.injEq, Prod.exists, Prod.mk.injEq] at he
  obtain ⟨r1, ρ1, e1, d1, t1, r2, ρ2, e2, o2, t2, r3, ρ3, e3, o3, t3, z, e4, rfl, rfl⟩ := he
  obtain ⟨tl, p1, w1⟩ := sp_ok h1
  obtain ⟨th, p2, w2⟩ := sp_ok h2
  refine WE_of (pe_slice sl_any (pe_W X a) p1 p2) ?_
  refine ha B G H τ σ ρ ρ1 r1 d1 _ hl e1 t1 ok fun v G1 H1 l1 x1 k1 v1 => ?_
  refine w1 B G1 H1 τ σ ρ1 ρ2 r2 o2 _ (by omega) e2 (Option.bind_eq_some_iff.mpr t2) k1 fun G2 H2 l2 x2 k2 => ?_
  refine w2 B G2 H2 τ σ ρ2 ρ3 r3 o3 _ (by omega) e3 (Option.bind_eq_some_iff.mpr t3) k2 fun G3 H3 l3 x3 k3 => ?_
  exact slice_ok d1 o2 o3 e4 k3 (((v1.mono x2).mono x3).one k3.sub) fun v' G' H' eg k' => q v' G' H' (by omega) (((x1.trans x2).trans x3).trans eg) k'
theorem se_slv {i : Nat} {lo hi : Option Expr} {p2 : Pos} {cl' ch : CE} (hN : X.N[i]? = some x) (hv : Vis X.env.scope x) (hd : (x == ("__debug__" : Str)) = false) (hcd : (x == ("__classdict__" : Str)) = false) (h1 : SP X cl lo cl') (h2 : SP X cl hi ch) :
    SE X cl (.Subscript (.Name x p) (.Slice lo hi none p2) pos) (.slv i cl' ch) := by
  intro B G H τ σ ρ ρ' r Q hl he ok q
  simp only [ev, bind, Option.bind_eq_some_iff, Option.some.injEq, Prod.exists, Prod.mk.injEq] at he
  obtain ⟨d0, e0, r2, ρ2, e2, o2, t2, r3, ρ3, e3, o3, t3, d1, e5, z, e4, rfl, rfl⟩ := he
  obtain ⟨tl, p1, w1⟩ := sp_ok h1
  obtain ⟨th, p2, w2⟩ := sp_ok h2
  obtain ⟨v, s0, _⟩ := peek_ok hl ok e0
  refine WE_of (pe_slice sl_any (pe_var hN hv hd hcd) p1 p2) ⟨v, s0, ?_⟩
  refine w1 B G H τ σ ρ ρ2 r2 o2 _ hl e2 (Option.bind_eq_some_iff.mpr t2) ok fun G2 H2 l2 x2 k2 => ?_
  refine w2 B G2 H2 τ σ ρ2 ρ3 r3 o3 _ (by omega) e3 (Option.bind_eq_some_iff.mpr t3) k2 fun G3 H3 l3 x3 k3 => ?_
  obtain ⟨v', s1, v1⟩ := peek_ok (by omega) k3 e5
  rw [s0] at s1
  cases s1
  exact slice_ok d1 o2 o3 e4 k3 v1 fun v' G' H' eg k' => q v' G' H' (by omega) ((x2.trans x3).trans eg) k'
theorem se_slsc {i : Nat} {lo hi : Option Expr} {p2 : Pos} {cl' ch : CE} (hN : X.N[i]? = some x) (hv : Vis X.env.scope x) (hd : (x == ("__debug__" : Str)) = false) (hcd : (x == ("__classdict__" : Str)) = false) (h1 : SP X cl lo cl') (h2 : SP X cl hi ch) :
    SE X cl (.Subscript (.Name x p) (.Slice lo hi none p2) pos) (.slsc i cl' ch) := by
  intro B G H τ σ ρ ρ' r Q hl he ok q
  obtain ⟨tl, p1, w1⟩ := sp_ok h1
  obtain ⟨th, p2, w2⟩ := sp_ok h2
  simp only [ev] at he
  split at he
  · rename_i ns ens
    simp only [bind, Option.bind_eq_some_iff, Prod.exists] at he
    obtain ⟨r2, ρ2, e2, o2, t2, r3, ρ3, e3, o3, t3, e4⟩ := he
    split at e4
    · rename_i ms ems
      simp only [Option.map_eq_some_iff, Prod.mk.injEq] at e4
      obtain ⟨z, e5, rfl, rfl⟩ := e4
      obtain ⟨v, s0, en⟩ := zget (τ := τ) hl ens
      obtain ⟨a0, ea, sa⟩ := ok.ent _ _ en
      have ea' : v = some (.ref a0) := ea
      subst ea'
      refine WE_of (pe_slice sl_any (pe_var hN hv hd hcd) p1 p2) ⟨_, s0, ?_⟩
      refine w1 B G H τ σ ρ ρ2 r2 o2 _ hl e2 (Option.bind_eq_some_iff.mpr t2) ok fun G2 H2 l2 x2 k2 => ?_
      refine w2 B G2 H2 τ σ ρ2 ρ3 r3 o3 _ (by omega) e3 (Option.bind_eq_some_iff.mpr t3) k2 fun G3 H3 l3 x3 k3 => ?_
      obtain ⟨v', s1, en'⟩ := zget (σ := σ) (τ := τ) (by omega) ems
      rw [s0] at s1
      cases s1
      obtain ⟨a1, ea1, sa1⟩ := k3.ent _ _ en'
      cases ea1
      exact slice_sc o2 o3 e5 k3 sa1 fun v' G' H' eg k' => q v' G' H' (by omega) ((x2.trans x3).trans eg) k'
    · cases e4
  · cases he
end
end PP
namespace PP
open PySem L2 PySem.Spec PyProof.Rows
/-! ### calls of defs -/
def isIo : Sl → Bool
  | .io _ => true
  | _ => false
def giveBack : Sl → List PyData → Sl
  | .ow _, l => .ow l
  | _, l => .io l
/-- the entries of the arguments -/
def argE (vs : List V) (as : List Sl) : List Ent := (vs.map some).zip as
/-- the lent list, given back -/
def backL (vs : List V) : Option (List PyData) → List Ent
  | some l => [(vs.head?, .io l)]
  | none => []
/-- what a def promises: it does what the pure one does -/
def spF (K : PySem.W.Frag) (cl : Calls) (f n : Nat) : Sp := fun vs H Q _ => vs.length = n ∧ ∃ (B : Fr) (as : List Sl) (r : Sl) (o : Option (List PyData)), vs.length = as.length ∧ B.H0 = H ∧
  (∀ a, B.IO a ↔ ∃ l, as.head? = some (.io l) ∧ vs.head? = some (.ref a)) ∧ Ok K B B.G0 (argE vs as) H ∧ cl f as = some (r, o) ∧
  ∀ v G' H', Ok K B G' ((some v, r) :: backL vs o) H' → Q v H'
section
variable {K : PySem.W.Frag} {B C : Fr} {G G' H H' : Hp} {L E : List Ent}
/-- the caller's slots behind a call that was lent nothing, or the list of slot n -/
theorem Ok.after (h : Ok K B G L H) (hH : C.H0 = H) (hG : C.G0 = G) (h' : Ok K C G' E H') (hio : ∀ a, C.IO a → ∀ (n : Nat) (p : Ent), L[n]? = some p → ownA p ≠ some a) (hi2 : ∀ a, C.IO a → B.H0 a = none ∨ B.IO a) (hi3 : ∀ a, C.IO a → H a ≠ none) (hi4 : ∀ a, C.IO a → G a = none) : Ok K B G' L H' := by
  subst hH hG
  refine ⟨fun a o e i => ?_, h'.sub, fun a o e => ?_, h.g0.trans h'.g0, fun a i => ?_, fun n p e => ?_, h.dis⟩
  · by_cases c : C.IO a
    · rcases hi2 a c with z | z
      · rw [z] at e
        cases e
      · exact absurd z i
    · exact h'.fr a o (h.fr a o e i) c
  · rcases h'.gn a o e with z | z
    · exact h.gn a o z
    · exact .inr (h.fresh0 z)
  · cases e : C.H0 a with
    | none => exact absurd e (h.ios a i)
    | some o =>
      by_cases c : C.IO a
      · exact h'.ios a c
      · rw [h'.fr a o e c]
        simp
  · have k := h.ent n p e
    refine k.stay h'.g0 (fun a oa => ?_) (fun a o oa ha => ?_)
    · cases eg : G' a with
      | none => rfl
      | some o =>
        have w := k.own_of oa
        rcases h'.gn a o eg with z | z
        · rw [w.1] at z
          cases z
        · exact absurd z w.2
    · exact h'.fr a o ha fun c => hio a c n p e oa
/-- what a call gives -/
theorem Ok.result {v : V} {r : Sl} (h : Ok K B G' L H') (ho : ∀ (n : Nat) (p : Ent) (a : Addr), L[n]? = some p → ownA p = some a → C.H0 a ≠ none) (h' : Ok K C G' ((some v, r) :: E) H') (hr : okR r = true) (hf : ∀ a, C.H0 a = none → B.H0 a = none) : Ok K B G' ((some v, r) :: L) H' := by
  have k := h'.head
  cases r with
  | un => cases hr
  | io l => cases hr
  | sc l => cases hr
  | sh d => exact h.consR h'.rep
  | ow l =>
    obtain ⟨a, vs, e, h0, h1, h2, h3⟩ := k
    cases e
    refine h.consO (a := a) ⟨a, vs, rfl, hf a h0, h1, h2, h3⟩ rfl fun n p e o => ho n p a e o h0
  | od m =>
    obtain ⟨a, o, e, h0, h1, h2, h3⟩ := k
    cases e
    refine h.consO (a := a) ⟨a, o, rfl, hf a h0, h1, h2, h3⟩ rfl fun n p e o => ho n p a e o h0
end
/-- the def at f as it may be called here, j defaults written out: dvs -/
structure Callable (X : Cx) (cl : Calls) (x : Str) (f : Nat) (n : Nat) (dvs : List PyData) : Prop where
  ex : ∃ (k : Nat) (a : Addr) (fd : FuncData) (ps : List Str) (vs : List V) (ds : List Value), FnOk X.prog X.w X.K X.mg X.base CX0 k a fd ps (spF X.K cl f n) ∧ Room k X.A ∧ X.mg x = some (.ref a) ∧ PySem.W.keepIn X.K (.ref a) = true ∧ Binds X.K fd ps ds ∧ Vals vs ds ∧ ∀ G, Reps X.K G vs dvs
/-- how the written arguments and the defaults come together -/
def kL : List PyData → CE
  | [] => .nil
  | d :: ds => .cons (.k d) (kL ds)
def appC : CE → CE → CE
  | .nil, t => t
  | .cons a b, t => .cons a (appC b t)
  | c, _ => c
section
variable {X : Cx} {cl : Calls} {e a b : Expr} {es : List Expr} {c ca cb cc : CE} {pos p : Pos} {x : Str}
theorem evA_kL : ∀ (ds : List PyData) (ρ : PEnv), evA cl (kL ds) ρ = some (ds, ρ)
  | [], ρ => by simp only [kL, evA]
  | d :: ds, ρ => by simp only [kL, evA, ev, bind, Option.bind_some, toD, evA_kL ds ρ]
theorem evA_app {ds : List PyData} : ∀ {c : CE} {ρ ρ' : PEnv} {es : List PyData}, evA cl (appC c (kL ds)) ρ = some (es, ρ') → ∃ es', evA cl c ρ = some (es', ρ') ∧ es = es' ++ ds := by
  intro c
  induction c with
  | nil =>
    intro ρ ρ' es h
    simp only [appC, evA_kL, Option.some.injEq, Prod.mk.injEq] at h
    obtain ⟨rfl, rfl⟩ := h
    exact ⟨[], by simp only [evA], rfl⟩
  | cons a b iha ihb =>
    intro ρ ρ' es h
    simp only [appC, evA, bind, Option.bind_eq_some_iff, Option.some.injEq, Prod.exists, Prod.mk.injEq] at h
    obtain ⟨r, ρ1, e1, d, e2, ds', ρ2, e3, rfl, rfl⟩ := h
    obtain ⟨es', h1, rfl⟩ := ihb e3
    refine ⟨d :: es', ?_, rfl⟩
    simp only [evA, bind, e1, Option.bind_some, e2, h1]
  | _ =>
    intro ρ ρ' es h
    simp only [appC, evA] at h
    cases h
theorem argE_sh : ∀ {vs : List V} {ds : List PyData} {K : PySem.W.Frag} {G : Hp}, Reps K G vs ds → ∀ (n : Nat) (p : Ent), (argE vs (ds.map Sl.sh))[n]? = some p → ∃ v d, p = (some v, .sh d) ∧ Rep K G v d
  | _, _, _, _, .nil, n, p, h => by
    simp [argE] at h
  | _, _, _, _, .cons r rs, 0, p, h => by
    simp [argE] at h
    subst h
    exact ⟨_, _, rfl, r⟩
  | _, _, _, _, .cons r rs, n + 1, p, h => argE_sh rs n p (by simpa [argE] using h)
/-- the callee's frame, nothing lent -/
theorem ok_args {K : PySem.W.Frag} {B : Fr} {G H : Hp} {L : List Ent} {vs : List V} {ds : List PyData} (h : Ok K B G L H) (r : Reps K G vs ds) : Ok K ⟨G, H, fun _ => False⟩ G (argE vs (ds.map Sl.sh)) H := by
  refine ⟨fun a o e _ => e, h.sub, fun a o e => .inl e, Evl.Ex.refl G, fun a i => i.elim, fun n p e => ?_, fun m n p q a e1 e2 o1 o2 => ?_⟩
  · obtain ⟨v, d, rfl, rv⟩ := argE_sh r n p e
    exact ⟨v, rfl, rv⟩
  · obtain ⟨v, d, rfl, _⟩ := argE_sh r m p e1
    rw [ownA_sh] at o1
    cases o1
theorem head_sh {ds : List PyData} {l : List PyData} : (ds.map Sl.sh).head? ≠ some (.io l) := by
  cases ds <;> simp
/-- a call: the callee's promise from the caller's slots -/
theorem call_ok {f n : Nat} {B : Fr} {G H : Hp} {L : List Ent} {vs : List V} {ds : List PyData} {r : Sl} {o : Option (List PyData)} {Q : VK} (h : Ok X.K B G L H) (rv : Reps X.K G vs ds) (hn : vs.length = n) (hc : cl f (ds.map Sl.sh) = some (r, o)) (hr : okR r = true)
    (q : ∀ v G' H', Ex G G' → Ok X.K B G' ((some v, r) :: L) H' → Q v H') {E : XK} : spF X.K cl f n vs H Q E := by
  refine ⟨hn, ⟨G, H, fun _ => False⟩, ds.map Sl.sh, r, o, ?_, rfl, fun a => ⟨fun z => z.elim, fun z => z.elim fun l z => absurd z.1 head_sh⟩, ok_args h rv, hc, fun v G' H' k => ?_⟩
  · rw [List.length_map]
    exact rv.length
  · have k2 := h.after (C := ⟨G, H, fun _ => False⟩) rfl rfl k (fun _ z => z.elim) (fun _ z => z.elim) (fun _ z => z.elim) (fun _ z => z.elim)
    exact q v G' H' k.g0 (k2.result (C := ⟨G, H, fun _ => False⟩) (fun n p a e oa => (h.ent n p e |>.own_of oa).2) k hr fun a e => h.fresh0 e)
/-- .. and a list lent: slot i -/
theorem callm_ok {f n i : Nat} {B : Fr} {G H : Hp} {τ : List Ent} {σ : L2.St} {ρ : PEnv} {v0 : V} {vs : List V} {ds : List PyData} {s : Sl} {l l' : List PyData} {r : Sl} {Q : VK} (hl : σ.length = ρ.length) (h : Ok X.K B G (τ ++ σ.zip ρ) H) (hs : ρ[i]? = some s) (hk : s = .ow l ∨ s = .io l) (h0 : σ[i]? = some (some v0)) (rv : Reps X.K G vs ds)
    (hn : (v0 :: vs).length = n) (hc : cl f (.io l :: ds.map Sl.sh) = some (r, some l')) (hr : okR r = true)
    (q : ∀ v G' H', Ex G G' → Ok X.K B G' ((some v, r) :: (τ ++ σ.zip (ρ.set i (giveBack s l')))) H' → Q v H') {E : XK} : spF X.K cl f n (v0 :: vs) H Q E := by
  obtain ⟨v', s0, en⟩ := zget (τ := τ) hl hs
  rw [h0] at s0
  cases s0
  have ke := h.ent _ _ en
  -- the lent list
  obtain ⟨a, xs, hv, ha, hG, hH, hR, hI⟩ : ∃ a xs, v0 = .ref a ∧ ownA (some v0, s) = some a ∧ G a = none ∧ H a = some (.lst xs) ∧ Reps X.K G xs l ∧ (B.H0 a = none ∨ B.IO a) := by
    rcases hk with rfl | rfl
    · obtain ⟨a, xs, e, h1, h2, h3, h4⟩ := ke
      cases e
      exact ⟨a, xs, rfl, rfl, h2, h3, h4, .inl h1⟩
    · obtain ⟨a, xs, e, h1, h2, h3, h4⟩ := ke
      cases e
      exact ⟨a, xs, rfl, rfl, h2, h3, h4, .inr h1⟩
  subst hv
  let C : Fr := ⟨G, H, fun b => b = a⟩
  have hargs : Ok X.K C G (argE (.ref a :: vs) (.io l :: ds.map Sl.sh)) H := by
    have e1 : argE (.ref a :: vs) (.io l :: ds.map Sl.sh) = (some (.ref a), .io l) :: argE vs (ds.map Sl.sh) := rfl
    rw [e1]
    have base : Ok X.K C G (argE vs (ds.map Sl.sh)) H := by
      have k := ok_args h rv
      exact ⟨fun b o e _ => e, h.sub, fun b o e => .inl e, Evl.Ex.refl G, fun b z => by
        have z' : b = a := z
        subst z'
        rw [hH]
        simp, fun n p e => by
          obtain ⟨v, d, rfl, rv'⟩ := argE_sh rv n p e
          exact ⟨v, rfl, rv'⟩, k.dis⟩
    refine base.consO (a := a) ⟨a, xs, rfl, rfl, hG, hH, hR⟩ rfl fun n p e o => ?_
    obtain ⟨v, d, rfl, _⟩ := argE_sh rv n p e
    rw [ownA_sh] at o
    cases o
  have hio : ∀ b, C.IO b ↔ ∃ m, (Sl.io l :: ds.map Sl.sh).head? = some (.io m) ∧ (V.ref a :: vs).head? = some (.ref b) := fun b => by
    constructor
    · intro z
      have z' : b = a := z
      subst z'
      exact ⟨l, rfl, rfl⟩
    · intro z
      obtain ⟨m, h1, h2⟩ := z
      simp at h2
      exact h2.symm
  refine ⟨hn, C, _, r, some l', by simp [rv.length], rfl, hio, hargs, hc, fun v G' H' k => ?_⟩
  · -- back: slot i empty, the rest as it was
    have hi : i < ρ.length := (List.getElem?_eq_some_iff.mp hs).1
    have u := h.setU (n := τ.length + i) (p' := (some (.ref a), .un)) trivial (ownA_un _)
    have apart : ∀ (n : Nat) (p : Ent), ((τ ++ σ.zip ρ).set (τ.length + i) (some (.ref a), .un))[n]? = some p → ownA p ≠ some a := fun n p e o => by
      by_cases z : n = τ.length + i
      · subst z
        rw [List.getElem?_set_self (List.getElem?_eq_some_iff.mp en).1] at e
        cases e
        rw [ownA_un] at o
        cases o
      · rw [List.getElem?_set_ne (Ne.symm z)] at e
        exact z (h.dis _ _ _ _ a e en o ha)
    have k2 := u.after (C := C) rfl rfl k (fun b z n p e o => by
      have z' : b = a := z
      subst z'
      exact apart n p e o) (fun b z => by
      have z' : b = a := z
      subst z'
      exact hI) (fun b z => by
      have z' : b = a := z
      subst z'
      rw [hH]
      simp) (fun b z => by
      have z' : b = a := z
      subst z'
      exact hG)
    -- the list comes back
    have kb := k.tail.head
    obtain ⟨a', ys, e', c1, c2, c3, c4⟩ := kb
    have ea : a' = a := by
      have : (some (V.ref a) : Option V) = some (.ref a') := e'
      cases this
      rfl
    subst ea
    let s' : Sl := giveBack s l'
    have es' : ownA (some (.ref a'), s') = some a' ∧ EntOk X.K B G' H' (some (.ref a'), s') := by
      rcases hk with rfl | rfl
      · refine ⟨rfl, a', ys, rfl, ?_, c2, c3, c4⟩
        obtain ⟨a2, xs2, e2, h1, _⟩ := ke
        cases e2
        exact h1
      · refine ⟨rfl, a', ys, rfl, ?_, c2, c3, c4⟩
        obtain ⟨a2, xs2, e2, h1, _⟩ := ke
        cases e2
        exact h1
    have k3 : Ok X.K B G' ((some (.ref a'), s') :: ((τ ++ σ.zip ρ).set (τ.length + i) (some (.ref a'), .un))) H' := k2.consO es'.2 es'.1 apart
    have k4 := k3.setH (n := τ.length + i)
    rw [List.set_set, zset h0] at k4
    refine q v G' H' k.g0 (k4.result (C := C) (fun n p b e ob => ?_) k hr fun b e => ?_)
    · by_cases z : n = τ.length + i
      · subst z
        have e9 : (τ ++ σ.zip (ρ.set i s'))[τ.length + i]? = some (some (.ref a'), s') := by
          rw [← zset h0, List.getElem?_set_self (List.getElem?_eq_some_iff.mp en).1]
        rw [e9] at e
        cases e
        rw [es'.1] at ob
        cases ob
        show H a' ≠ none
        rw [hH]
        simp
      · rw [← zset h0, List.getElem?_set_ne (Ne.symm z)] at e
        exact (h.ent n p e |>.own_of ob).2
    · exact h.fresh0 e
theorem se_call {f n : Nat} {dvs : List PyData} (hne : es ≠ []) (hC : Callable X cl x f n dvs) (hok : ∀ as r o, cl f as = some (r, o) → okR r = true ∧ as.length = n) (hg : Gl X x) (hdb : (x == ("__debug__" : Str)) = false) (hs : es.all notStar = true) (ha : SA X cl es ca) :
    SE X cl (.Call (.Name x p) es [] pos) (.call f (appC ca (kL dvs))) := by
  intro B G H τ σ ρ ρ' r Q hl he ok q
  simp only [ev, bind, Option.bind_eq_some_iff, Option.some.injEq, Prod.exists, Prod.mk.injEq] at he
  obtain ⟨ds, ρ1, e1, r', o, e2, rfl, rfl⟩ := he
  obtain ⟨ds', e3, rfl⟩ := evA_app e1
  obtain ⟨k, a, fd, ps, vs, dv, F, hr, hm, hk, hb, hv, hrep⟩ := hC.ex
  have main : tCall (spF X.K cl f n) vs E0 (WA X es) σ H Q := by
    refine ha B G H τ σ ρ ρ1 ds' _ hl e3 ok fun us G1 H1 l1 x1 k1 v1 => ?_
    have rr := v1.append (hrep G1)
    obtain ⟨h1, h2⟩ := hok _ _ _ e2
    rw [List.length_map] at h2
    exact call_ok k1 rr (rr.length.trans h2) e2 h1 fun v G' H' eg k => q v G' H' l1 (x1.trans eg) k
  cases es with
  | nil => exact absurd rfl hne
  | cons e es =>
    rw [List.all_cons, Bool.and_eq_true] at hs
    exact WE_of (pe_call F hr hg hm hk hb hv pass0 (pa_W X (e :: es)) hdb (star_cons hs.1) (star_plain hs.2)) main
/-- f(state, ..): slot i lent -/
theorem se_callm {f n i : Nat} {y : Str} {p2 : Pos} {dvs : List PyData} (hN : X.N[i]? = some y) (hv : Vis X.env.scope y) (hd : (y == ("__debug__" : Str)) = false) (hcd : (y == ("__classdict__" : Str)) = false) (hC : Callable X cl x f n dvs) (hok : ∀ as r o, cl f as = some (r, o) → okR r = true ∧ as.length = n) (hg : Gl X x) (hdb : (x == ("__debug__" : Str)) = false) (hs : es.all notStar = true) (ha : SA X cl es ca) :
    SE X cl (.Call (.Name x p) (.Name y p2 :: es) [] pos) (.callm f i (appC ca (kL dvs))) := by
  intro B G H τ σ ρ ρ' r Q hl he ok q
  simp only [ev, bind, Option.bind_eq_some_iff, Prod.exists] at he
  obtain ⟨d0, e0, ds, ρ1, e1, e2⟩ := he
  obtain ⟨ds', e3, rfl⟩ := evA_app e1
  obtain ⟨k, a, fd, ps, vs, dv, F, hr, hm, hk, hb, hv', hrep⟩ := hC.ex
  obtain ⟨v0, s0, _⟩ := peek_ok hl ok e0
  refine WE_of (pe_call F hr hg hm hk hb hv' pass0 (pa_cons (pe_var hN hv hd hcd) (pa_W X es) (star_cons rfl)) hdb (star_cons rfl) (star_plain hs)) ⟨v0, s0, ?_⟩
  refine ha B G H τ σ ρ ρ1 ds' _ hl e3 ok fun us G1 H1 l1 x1 k1 v1 => ?_
  have rr := v1.append (hrep G1)
  split at e2
  · rename_i l es'
    simp only [Option.bind_eq_some_iff, Option.some.injEq, Prod.exists, Prod.mk.injEq] at e2
    obtain ⟨r', o, e4, l', rfl, rfl, rfl⟩ := e2
    obtain ⟨h1, h2⟩ := hok _ _ _ e4
    refine callm_ok (hl.trans l1.symm) k1 es' (.inl rfl) s0 rr ?_ e4 h1 fun v G' H' eg k => q v G' H' (by simp; omega) (x1.trans eg) k
    rw [List.length_cons, rr.length]
    simpa using h2
  · rename_i l es'
    simp only [Option.bind_eq_some_iff, Option.some.injEq, Prod.exists, Prod.mk.injEq] at e2
    obtain ⟨r', o, e4, l', rfl, rfl, rfl⟩ := e2
    obtain ⟨h1, h2⟩ := hok _ _ _ e4
    refine callm_ok (hl.trans l1.symm) k1 es' (.inr rfl) s0 rr ?_ e4 h1 fun v G' H' eg k => q v G' H' (by simp; omega) (x1.trans eg) k
    rw [List.length_cons, rr.length]
    simpa using h2
  · cases e2
/-- f(script) -/
theorem se_callsc {f i : Nat} {y : Str} {p2 : Pos} (hN : X.N[i]? = some y) (hv : Vis X.env.scope y) (hd : (y == ("__debug__" : Str)) = false) (hcd : (y == ("__classdict__" : Str)) = false) (hC : Callable X cl x f 1 []) (hok : ∀ as r o, cl f as = some (r, o) → okR r = true ∧ as.length = 1) (hg : Gl X x) (hdb : (x == ("__debug__" : Str)) = false) :
    SE X cl (.Call (.Name x p) [.Name y p2] [] pos) (.callsc f i) := by
  intro B G H τ σ ρ ρ' r Q hl he ok q
  simp only [ev] at he
  split at he
  · rename_i ns ens
    simp only [bind, Option.bind_eq_some_iff, Option.some.injEq, Prod.exists, Prod.mk.injEq] at he
    obtain ⟨r', o, e2, rfl, rfl⟩ := he
    obtain ⟨k, a, fd, ps, vs, dv, F, hr, hm, hk, hb, hv', hrep⟩ := hC.ex
    cases hrep G
    obtain ⟨v0, s0, en⟩ := zget (τ := τ) hl ens
    obtain ⟨a0, rfl, sa⟩ := ok.ent _ _ en
    refine WE_of (pe_call F hr hg hm hk hb hv' pass0 (pa_cons (pe_var hN hv hd hcd) pa_nil (star_cons rfl)) hdb (star_cons rfl) rfl) ⟨.ref a0, s0, ?_⟩
    have hargs : Ok X.K ⟨G, H, fun _ => False⟩ G (argE [.ref a0] [.sc ns]) H := by
      refine ⟨fun a o e _ => e, ok.sub, fun a o e => .inl e, Evl.Ex.refl G, fun a i => i.elim, fun n p e => ?_, fun m n p q a e1 e2 o1 o2 => ?_⟩
      · cases n with
        | zero =>
          simp [argE] at e
          subst e
          exact ⟨a0, rfl, sa⟩
        | succ n => simp [argE] at e
      · cases m with
        | zero =>
          simp [argE] at e1
          subst e1
          simp [ownA] at o1
        | succ m => simp [argE] at e1
    refine ⟨rfl, ⟨G, H, fun _ => False⟩, [.sc ns], r', o, rfl, rfl, fun a => ⟨fun z => z.elim, fun z => z.elim fun l z => by simp at z⟩, hargs, e2, fun v G' H' k => ?_⟩
    have k2 := ok.after (C := ⟨G, H, fun _ => False⟩) rfl rfl k (fun _ z => z.elim) (fun _ z => z.elim) (fun _ z => z.elim) (fun _ z => z.elim)
    exact q v G' H' rfl k.g0 (k2.result (C := ⟨G, H, fun _ => False⟩) (fun n p a e oa => (ok.ent n p e |>.own_of oa).2) k (hok _ _ _ e2).1 fun a e => ok.fresh0 e)
  · cases he
end
end PP
namespace PP
open PySem L2 PySem.Spec PyProof.Rows
/-! ### targets -/
def WG (X : Cx) (tg : Expr) : TG := fun v σ H Q => ∀ (pins : List (Addr × Obj)) (s : Shared) (u : Value), Inv X pins σ H s → RelV v u → wpAny (model X.prog X.w) X.A (assign tg X.env u) (fun _ s' => ∃ σ' H', Inv X pins σ' H' s' ∧ Q σ' H') X.xe s
def WGs (X : Cx) (ts : List Expr) : TGs := fun vs σ H Q => ∀ (pins : List (Addr × Obj)) (s : Shared) (us : List Value), Inv X pins σ H s → Vals vs us → wpAny (model X.prog X.w) X.A (assignInOrder ((assignEach ts X.env).map (·.2)) us) (fun _ s' => ∃ σ' H', Inv X pins σ' H' s' ∧ Q σ' H') X.xe s
theorem pg_W (X : Cx) (e : Expr) : PG X e (WG X e) := ⟨fun pins s σ H v u Q I r h => h pins s u I r⟩
theorem pgs_W (X : Cx) (e : List Expr) : PGs X e (WGs X e) := ⟨fun pins s σ H v u Q I r h => h pins s u I r⟩
theorem WG_of {X : Cx} {e : Expr} {t : TG} (h : PG X e t) {v : V} {σ : L2.St} {H : Hp} {Q : L2.St → Hp → Prop} (q : t v σ H Q) : WG X e v σ H Q := fun pins s u I r => h.run pins s σ H v u Q I r q
theorem WGs_of {X : Cx} {e : List Expr} {t : TGs} (h : PGs X e t) {v : List V} {σ : L2.St} {H : Hp} {Q : L2.St → Hp → Prop} (q : t v σ H Q) : WGs X e v σ H Q := fun pins s u I r => h.run pins s σ H v u Q I r q
def tgS : Tg → List Nat
  | .nm i => [i]
  | .nil => []
  | .cons a b => tgS a ++ tgS b
  | .tp t => tgS t
  | .ix _ _ => []
theorem each_cons {e : Expr} {es : List Expr} {env : Env} (h : notStar e = true) : assignEach (e :: es) env = (false, assign e env) :: assignEach es env := by
  cases e <;> first
    | rfl
    | cases h
theorem each_len {env : Env} : ∀ {es : List Expr}, es.all notStar = true → (assignEach es env).length = es.length ∧ (assignEach es env).findIdx? (·.1) = none
  | [], _ => ⟨rfl, rfl⟩
  | e :: es, h => by
    rw [List.all_cons, Bool.and_eq_true] at h
    obtain ⟨h1, h2⟩ := each_len (env := env) h.2
    rw [each_cons h.1]
    refine ⟨by rw [List.length_cons, List.length_cons, h1], ?_⟩
    rw [List.findIdx?_cons]
    simp only [h2]
    rfl
def tgLen : Tg → Nat
  | .cons _ b => tgLen b + 1
  | _ => 0
theorem asgnL_len : ∀ {t : Tg} {ds : List PyData} {ρ ρ' : PEnv}, asgn.asgnL t ds ρ = some ρ' → ds.length = tgLen t := by
  intro t
  induction t with
  | nil =>
    intro ds ρ ρ' h
    cases ds with
    | nil => rfl
    | cons d ds => simp [asgn.asgnL] at h
  | cons a b iha ihb =>
    intro ds ρ ρ' h
    cases ds with
    | nil => simp [asgn.asgnL] at h
    | cons d ds =>
      simp only [asgn.asgnL, Option.bind_eq_some_iff] at h
      obtain ⟨ρ1, _, h2⟩ := h
      rw [List.length_cons, ihb h2]
      rfl
  | nm i =>
    intro ds ρ ρ' h
    simp [asgn.asgnL] at h
  | tp t ih =>
    intro ds ρ ρ' h
    simp [asgn.asgnL] at h
  | ix i k =>
    intro ds ρ ρ' h
    simp [asgn.asgnL] at h
/-- the target stores what asgn does; the slots that are not named stay -/
def SG (X : Cx) (tg : Expr) (t : Tg) : Prop := ∀ (B : Fr) (G H : Hp) (τ : List Ent) (σ : L2.St) (ρ ρ' : PEnv) (d : PyData) (v : V) (Q : L2.St → Hp → Prop), σ.length = ρ.length → asgn t d ρ = some ρ' → Ok X.K B G (τ ++ σ.zip ρ) H → Rep X.K G v d →
  (∀ σ' H', σ'.length = ρ'.length → ρ'.length = ρ.length → (∀ i, i ∉ tgS t → σ'[i]? = σ[i]?) → Ok X.K B G (τ ++ σ'.zip ρ') H' → Q σ' H') → WG X tg v σ H Q
def SGs (X : Cx) (ts : List Expr) (t : Tg) : Prop := ∀ (B : Fr) (G H : Hp) (τ : List Ent) (σ : L2.St) (ρ ρ' : PEnv) (ds : List PyData) (vs : List V) (Q : L2.St → Hp → Prop), σ.length = ρ.length → asgn.asgnL t ds ρ = some ρ' → Ok X.K B G (τ ++ σ.zip ρ) H → Reps X.K G vs ds →
  (∀ σ' H', σ'.length = ρ'.length → ρ'.length = ρ.length → (∀ i, i ∉ tgS t → σ'[i]? = σ[i]?) → Ok X.K B G (τ ++ σ'.zip ρ') H' → Q σ' H') → WGs X ts vs σ H Q
section
variable {X : Cx} {cl : Calls} {e a b : Expr} {es : List Expr} {c ca cb cc : CE} {pos p : Pos} {x : Str} {t t2 : Tg}
theorem sg_name {i : Nat} (hN : X.N.Nodup) (hi : X.N[i]? = some x) (hx : Loc X.env.scope x) (hf : X.fn x = true ∨ X.env.scope.names.lookup x = some .local) : SG X (.Name x pos) (.nm i) := by
  intro B G H τ σ ρ ρ' d v Q hl he ok rv q
  have e1 := put_eq (show put ρ i (.sh d) = some ρ' by simpa [asgn] using he)
  subst e1
  refine WG_of (pg_name hN hi hx hf) ?_
  refine q (σ.set i (some v)) H (by simp [hl]) (by simp) (fun j hj => ?_) (put_ok (ok.consR rv))
  have : i ≠ j := fun z => hj (by simp [tgS, z])
  rw [List.getElem?_set_ne this]
theorem sg_tup {j : Nat} (hc : X.calm = true) (hs : es.all notStar = true) (hlen : tgLen t = es.length) (h : SGs X es t) : SG X (.Tuple es j pos) (.tp t) := by
  intro B G H τ σ ρ ρ' d v Q hl he ok rv q
  have hes := (each_len (env := X.env) hs)
  cases rv <;> simp only [asgn, reduceCtorEq] at he
  rename_i a xs ds ha ra
  refine WG_of (pg_tup (n := es.length) hc (pgs_W X es) hes.1 hes.2) ⟨a, xs, rfl, Evl.ex_t ok.sub ha, by rw [ra.length, asgnL_len he, hlen], h B G H τ σ ρ ρ' ds xs Q hl he ok ra q⟩
theorem sgs_nil : SGs X [] .nil := by
  intro B G H τ σ ρ ρ' ds vs Q hl he ok rv q
  cases rv with
  | nil =>
    simp only [asgn.asgnL, Option.some.injEq] at he
    subst he
    exact WGs_of pgs_nil ⟨rfl, q σ H hl rfl (fun _ _ => rfl) ok⟩
  | cons _ _ => simp [asgn.asgnL] at he
theorem sgs_cons (hs : notStar e = true) (h1 : SG X e t) (h2 : SGs X es t2) : SGs X (e :: es) (.cons t t2) := by
  intro B G H τ σ ρ ρ' ds vs Q hl he ok rv q
  cases rv with
  | nil => simp [asgn.asgnL] at he
  | cons r rs =>
    simp only [asgn.asgnL, Option.bind_eq_some_iff] at he
    obtain ⟨ρ1, e1, e2⟩ := he
    refine WGs_of (pgs_cons (pg_W X e) (pgs_W X es) (by rw [each_cons hs]; rfl)) ⟨_, _, rfl, ?_⟩
    refine h1 B G H τ σ ρ ρ1 _ _ _ hl e1 ok r fun σ1 H1 l1 m1 s1 k1 => ?_
    refine h2 B G H1 τ σ1 ρ1 ρ' _ _ Q l1 e2 k1 rs fun σ2 H2 l2 m2 s2 k2 => ?_
    refine q σ2 H2 l2 (by omega) (fun i hi => ?_) k2
    simp only [tgS, List.mem_append, not_or] at hi
    rw [s2 i hi.2, s1 i hi.1]
/-! ### walks -/
/-- J walks over the data l, from any heap behind G1 -/
def Walk (K : PySem.W.Frag) (B : Fr) (G1 : Hp) (l : List PyData) (J : It) : Prop := ∀ (G H : Hp) (L : List Ent) (i : Nat), Ex G1 G → Ok K B G L H →
  (∀ d, l[i]? = some d → J.go i H ∧ ∀ x H', J.yld i H x H' → ∃ G', Ex G G' ∧ Ok K B G' L H' ∧ Rep K G' x d) ∧ (i = l.length → J.stop i H)
def WI (X : Cx) (tg iter : Expr) : TI := fun σ H R => ∀ (pins : List (Addr × Obj)) (s : Shared), Inv X pins σ H s → wpAny (model X.prog X.w) X.A (eval iter X.env) (fun v s1 => wpAny (model X.prog X.w) X.A (pyIter v) (PIE X pins σ tg R) X.xe s1) X.xe s
theorem pi_W (X : Cx) (tg iter : Expr) : PI X tg iter (WI X tg iter) := ⟨fun pins s σ H R I h => h pins s I⟩
theorem WI_of {X : Cx} {tg iter : Expr} {t : TI} (h : PI X tg iter t) {σ : L2.St} {H : Hp} {R : It → Hp → Prop} (q : t σ H R) : WI X tg iter σ H R := fun pins s I => h.run pins s σ H R I q
def SI (X : Cx) (cl : Calls) (tg iter : Expr) (c : CE) : Prop := ∀ (B : Fr) (G H : Hp) (τ : List Ent) (σ : L2.St) (ρ ρ' : PEnv) (r : Sl) (l : List PyData) (R : It → Hp → Prop), σ.length = ρ.length → ev cl c ρ = some (r, ρ') → items r = some l → Ok X.K B G (τ ++ σ.zip ρ) H →
  (∀ J G' H', ρ'.length = ρ.length → Ex G G' → Ok X.K B G' (τ ++ σ.zip ρ') H' → Walk X.K B G' l J → R J H') → WI X tg iter σ H R
section
variable {K : PySem.W.Frag} {B : Fr} {G G1 H : Hp}
theorem walk_list {a : Addr} {xs : List V} {ds : List PyData} (ha : G1 a = some (.lst xs)) (r : Reps K G1 xs ds) : Walk K B G1 ds (Itl K a) := by
  intro G H L i eg ok
  have hs : SqL K H a xs := .inl (.inl (ok.sub _ _ (eg _ _ ha)))
  refine ⟨fun d hd => ?_, fun hi => ⟨xs, hs, by rw [r.length, hi]; exact Nat.le_refl _⟩⟩
  obtain ⟨v, h1, h2⟩ := r.get hd
  refine ⟨⟨xs, v, hs, h1⟩, fun x H' y => ?_⟩
  obtain ⟨e, y⟩ := y
  subst e
  have e2 := y xs hs
  rw [h1] at e2
  cases e2
  exact ⟨G, Evl.Ex.refl G, ok, h2.mono eg⟩
theorem walk_tup {a : Addr} {xs : List V} {ds : List PyData} (ha : SqT K G1 a xs) (r : Reps K G1 xs ds) : Walk K B G1 ds (Itt K a) := by
  intro G H L i eg ok
  have hs : SqT K H a xs := Evl.ex_t ok.sub (Evl.ex_t eg ha)
  refine ⟨fun d hd => ?_, fun hi => ⟨xs, hs, by rw [r.length, hi]; exact Nat.le_refl _⟩⟩
  obtain ⟨v, h1, h2⟩ := r.get hd
  refine ⟨⟨xs, v, hs, h1⟩, fun x H' y => ?_⟩
  obtain ⟨e, y⟩ := y
  subst e
  have e2 := y xs hs
  rw [h1] at e2
  cases e2
  exact ⟨G, Evl.Ex.refl G, ok, h2.mono eg⟩
theorem walk_str {x : Str} : Walk K B G1 (x.cps.toList.map fun c => .str ⟨#[c]⟩) (Its x) := by
  intro G H L i eg ok
  refine ⟨fun d hd => ?_, fun hi => ?_⟩
  · rw [List.getElem?_map, Option.map_eq_some_iff] at hd
    obtain ⟨c, h1, rfl⟩ := hd
    rw [Array.getElem?_toList] at h1
    have h2 : i < x.cps.size := (Array.getElem?_eq_some_iff.mp h1).1
    refine ⟨h2, fun y H' hy => ?_⟩
    obtain ⟨rfl, c', h3, rfl⟩ := hy
    rw [h1] at h3
    cases h3
    exact ⟨G, Evl.Ex.refl G, ok, .str _⟩
  · rw [List.length_map, Array.length_toList] at hi
    show x.cps.size ≤ i
    rw [hi]
    exact Nat.le_refl _
theorem walk_rng {lo : Int} {n : Nat} : Walk K B G1 (rngD lo n) (Itr lo n) := by
  intro G H L i eg ok
  refine ⟨fun d hd => ?_, fun hi => ?_⟩
  · unfold rngD at hd
    rw [List.getElem?_map, Option.map_eq_some_iff] at hd
    obtain ⟨j, h1, rfl⟩ := hd
    have h2 := List.getElem?_eq_some_iff.mp h1
    obtain ⟨h3, h4⟩ := h2
    rw [List.getElem_range] at h4
    subst h4
    rw [List.length_range] at h3
    refine ⟨h3, fun y H' hy => ?_⟩
    obtain ⟨rfl, rfl⟩ := hy
    exact ⟨G, Evl.Ex.refl G, ok, .int _⟩
  · show n ≤ i
    simp [rngD] at hi
    omega
theorem walk_rngC {lo c : Int} {n : Nat} : Walk K B G1 (rngDc lo c n) (Itc lo c n) := by
  intro G H L i eg ok
  refine ⟨fun d hd => ?_, fun hi => ?_⟩
  · unfold rngDc at hd
    rw [List.getElem?_map, Option.map_eq_some_iff] at hd
    obtain ⟨j, h1, rfl⟩ := hd
    have h2 := List.getElem?_eq_some_iff.mp h1
    obtain ⟨h3, h4⟩ := h2
    rw [List.getElem_range] at h4
    subst h4
    rw [List.length_range] at h3
    refine ⟨h3, fun y H' hy => ?_⟩
    obtain ⟨rfl, rfl⟩ := hy
    exact ⟨G, Evl.Ex.refl G, ok, .int _⟩
  · show n ≤ i
    simp [rngDc] at hi
    omega
end
/-- over a list, a tuple, a text -/
theorem pi_any {tg l : Expr} {tl : TE} (hl : PE X l tl) : PI X tg l (fun σ H R => tl σ H fun x H1 => (∃ a, x = .ref a ∧ (∃ xs, SqL X.K H1 a xs) ∧ R (Itl X.K a) H1) ∨ (∃ a, x = .ref a ∧ (∃ xs, SqT X.K H1 a xs) ∧ R (Itt X.K a) H1) ∨ (∃ z, x = .str z ∧ R (Its z) H1)) := by
  refine ⟨fun pins s σ H R I h => ?_⟩
  refine thn (hl.run pins s σ H _ I h) fun v s1 ⟨x, H1, I1, r1, q1⟩ => ?_
  have one : ∀ (b : Addr), (b ∈ [s1.heap.objs.size]) → FpOk X pins H1 b := fun b hb => by
    have e : b = s1.heap.objs.size := by simpa using hb
    subst e
    exact I1.fpOk (Nat.le_refl _) (I1.hok.fresh (Nat.le_refl _))
  rcases q1 with ⟨a, e, ⟨xs, hq⟩, q⟩ | ⟨a, e, ⟨xs, hq⟩, q⟩ | ⟨z, e, q⟩
  · subst e
    cases r1
    obtain ⟨its, rv, p, hz⟩ := I1.list hq
    refine wpAny_pyIter_list p.isList ?_
    exact ⟨s1.heap.objs.size, [s1.heap.objs.size], _, _, H1, rfl, I1.kept (t' := s1.toks) fun b o e => Heap.get?_push_of_some _ e, turn_list a _, ⟨_, Heap.get?_push_size _ rfl, rfl, rfl⟩, one, q⟩
  · subst e
    cases r1
    obtain ⟨its, rv, p, hz⟩ := I1.tuple hq
    refine wpAny_pyIter_tuple (show s1.heap.IsTuple a its.toArray from p) ?_
    exact ⟨s1.heap.objs.size, [s1.heap.objs.size], _, _, H1, rfl, I1.kept (t' := s1.toks) fun b o e => Heap.get?_push_of_some _ e, turn_tuple a _, ⟨_, Heap.get?_push_size _ rfl, rfl, rfl⟩, one, q⟩
  · subst e
    obtain ⟨t, rfl⟩ := r1
    cases ha : z.cps.all (· < 128)
    · exact wpAny_pyIter_wide ha (pi_one (tk := s1.toks) I1 _ (turn_str _ z t "str_iterator" (.inr rfl)) ⟨_, Heap.get?_push_size _ rfl, rfl, rfl⟩ q)
    · exact wpAny_pyIter_ascii ha (pi_one (tk := s1.toks) I1 _ (turn_str _ z t "str_ascii_iterator" (.inl rfl)) ⟨_, Heap.get?_push_size _ rfl, rfl, rfl⟩ q)
theorem items_toD {r : Sl} {l : List PyData} (h : items r = some l) : ∃ d, toD r = some d ∧ ((d = .list l) ∨ (d = .tuple l) ∨ ∃ x : Str, d = .str x ∧ l = x.cps.toList.map fun c => .str ⟨#[c]⟩) := by
  cases r with
  | ow m =>
    simp only [items, Option.some.injEq] at h
    subst h
    exact ⟨_, rfl, .inl rfl⟩
  | sh d =>
    refine ⟨d, rfl, ?_⟩
    cases d <;> simp only [items, Option.some.injEq, reduceCtorEq] at h
    · exact .inr (.inr ⟨_, rfl, h.symm⟩)
    · subst h
      exact .inl rfl
    · subst h
      exact .inr (.inl rfl)
  | _ => simp [items] at h
theorem si_e {tg : Expr} (h : SD X cl e c) : SI X cl tg e c := by
  intro B G H τ σ ρ ρ' r l R hl he hi ok q
  obtain ⟨d, hd, hk⟩ := items_toD hi
  refine WI_of (pi_any (pe_W X e)) ?_
  refine h B G H τ σ ρ ρ' r d _ hl he hd ok fun v G' H' l' eg k rv => ?_
  rcases hk with rfl | rfl | ⟨x, rfl, rfl⟩
  · cases rv with
    | lst ha ra => exact .inl ⟨_, rfl, ⟨_, .inl (.inl (k.sub _ _ ha))⟩, q _ G' H' l' eg k (walk_list ha ra)⟩
  · cases rv with
    | tup ha ra => exact .inr (.inl ⟨_, rfl, ⟨_, Evl.ex_t k.sub ha⟩, q _ G' H' l' eg k (walk_tup ha ra)⟩)
  · cases rv with
    | str _ => exact .inr (.inr ⟨_, rfl, q _ G' H' l' eg k walk_str⟩)
theorem rgOk_c {i : Int} (h : rgOk i = true) : -(2 ^ 62) ≤ i ∧ i < 2 ^ 62 := by
  unfold rgOk at h
  rw [Bool.and_eq_true, decide_eq_true_eq, decide_eq_true_eq] at h
  omega
theorem si_rng1 {tg : Expr} (hg : Gl X "range") (hm : X.mg "range" = none) (hs : notStar a = true) (ha : SD X cl a ca) : SI X cl tg (.Call (.Name "range" p) [a] [] pos) (.rng (.k (.int 0)) ca) := by
  intro B G H τ σ ρ ρ' r l R hl he hi ok q
  simp only [ev, bind, Option.bind_some, Option.bind_eq_some_iff, Prod.exists] at he
  obtain ⟨r2, ρ2, e2, e3⟩ := he
  split at e3
  · rename_i i j ei
    cases ei
    simp only [Option.ite_none_right_eq_some, Option.some.injEq, Prod.mk.injEq, Bool.and_eq_true] at e3
    obtain ⟨⟨h1, h2⟩, rfl, rfl⟩ := e3
    simp only [items, Option.some.injEq] at hi
    subst hi
    refine WI_of (pi_range1 hg hm (pa_cons (pe_W X a) pa_nil (star_cons hs)) (star_cons hs)) ?_
    refine ha B G H τ σ ρ ρ2 _ _ _ hl e2 rfl ok fun v G' H' l' eg k rv => ?_
    cases rv
    have b := rgOk_c h2
    refine ⟨j, rfl, b.1, b.2, ?_⟩
    rw [Int.sub_zero] at q
    exact q _ G' H' l' eg k walk_rng
  · cases e3
theorem si_rng2 {tg : Expr} (hg : Gl X "range") (hm : X.mg "range" = none) (hs : notStar a = true) (hs2 : notStar b = true) (ha : SD X cl a ca) (hb : SD X cl b cb) : SI X cl tg (.Call (.Name "range" p) [a, b] [] pos) (.rng ca cb) := by
  intro B G H τ σ ρ ρ' r l R hl he hi ok q
  simp only [ev, bind, Option.bind_eq_some_iff, Prod.exists] at he
  obtain ⟨r1, ρ1, e1, r2, ρ2, e2, e3⟩ := he
  split at e3
  · rename_i i j
    simp only [Option.ite_none_right_eq_some, Option.some.injEq, Prod.mk.injEq, Bool.and_eq_true] at e3
    obtain ⟨⟨h1, h2⟩, rfl, rfl⟩ := e3
    simp only [items, Option.some.injEq] at hi
    subst hi
    refine WI_of (pi_range2 hg hm (pa_cons (pe_W X a) (pa_cons (pe_W X b) pa_nil (star_cons hs2)) (star_cons hs)) (by rw [star_cons hs, star_cons hs2]; rfl) (star_cons hs2)) ?_
    refine ha B G H τ σ ρ ρ1 _ _ _ hl e1 rfl ok fun v G1 H1 l1 x1 k1 rv => ?_
    refine hb B G1 H1 τ σ ρ1 ρ2 _ _ _ (by omega) e2 rfl k1 fun u G2 H2 l2 x2 k2 ru => ?_
    cases rv
    cases ru
    have b1 := rgOk_c h1
    have b2 := rgOk_c h2
    exact ⟨i, j, rfl, ⟨b1.1, b1.2, b2.1, b2.2⟩, q _ G2 H2 (by omega) (x1.trans x2) k2 walk_rng⟩
  · cases e3
theorem si_rng3 {tg cE : Expr} (hg : Gl X "range") (hm : X.mg "range" = none) (hs : notStar a = true) (hs2 : notStar b = true) (hs3 : notStar cE = true) (ha : SD X cl a ca) (hb : SD X cl b cb) (hc : SD X cl cE cc) : SI X cl tg (.Call (.Name "range" p) [a, b, cE] [] pos) (.rng3 ca cb cc) := by
  intro B G H τ σ ρ ρ' r l R hl he hi ok q
  simp only [ev, bind, Option.bind_eq_some_iff, Prod.exists] at he
  obtain ⟨r1, ρ1, e1, r2, ρ2, e2, r3, ρ3, e3, e4⟩ := he
  split at e4
  · rename_i i j c'
    simp only [Option.ite_none_right_eq_some, Option.some.injEq, Prod.mk.injEq, Bool.and_eq_true, beq_iff_eq] at e4
    obtain ⟨⟨⟨h1, h2⟩, h3⟩, rfl, rfl⟩ := e4
    subst h3
    simp only [items, Option.some.injEq] at hi
    subst hi
    refine WI_of (pi_range3 hg hm (pa_cons (pe_W X a) (pa_cons (pe_W X b) (pa_cons (pe_W X cE) pa_nil (star_cons hs3)) (star_cons hs2)) (star_cons hs)) (star_cons hs) (by rw [star_cons hs2, star_cons hs3]; rfl)) ?_
    refine ha B G H τ σ ρ ρ1 _ _ _ hl e1 rfl ok fun v G1 H1 l1 x1 k1 rv => ?_
    refine hb B G1 H1 τ σ ρ1 ρ2 _ _ _ (by omega) e2 rfl k1 fun u G2 H2 l2 x2 k2 ru => ?_
    refine hc B G2 H2 τ σ ρ2 ρ3 _ _ _ (by omega) e3 rfl k2 fun w G3 H3 l3 x3 k3 rw' => ?_
    cases rv
    cases ru
    cases rw'
    have b1 := rgOk_c h1
    have b2 := rgOk_c h2
    exact ⟨i, j, -1, _, rfl, RgC.neg b1.1 b1.2 b2.1 b2.2, q _ G3 H3 (by omega) ((x1.trans x2).trans x3) k3 walk_rngC⟩
  · cases e4
end
end PP
namespace PP
open PySem L2 PySem.Spec PyProof.Rows
/-! ### slots wiped -/
theorem wipe_len (σ : L2.St) : ∀ vs, (wipe σ vs).length = σ.length := wipe_length σ
theorem wipeE_len (ρ : PEnv) : ∀ vs : List Nat, (wipeE ρ vs).length = ρ.length
  | [] => rfl
  | v :: vs => by
    show ((wipeE ρ vs).set v .un).length = _
    rw [List.length_set, wipeE_len ρ vs]
theorem backE_len (ρ : PEnv) : ∀ (vs : List Nat) (ρ' : PEnv), (backE ρ ρ' vs).length = ρ'.length
  | [], _ => rfl
  | v :: vs, ρ' => by
    show (backE ρ (ρ'.set v _) vs).length = _
    rw [backE_len ρ vs, List.length_set]
theorem wipe_ext : ∀ {vs : List Nat} {σ σ' : L2.St}, σ'.length = σ.length → (∀ i, i ∉ vs → σ'[i]? = σ[i]?) → wipe σ' vs = wipe σ vs := by
  intro vs σ σ' hl h
  apply List.ext_getElem?
  intro i
  by_cases hi : i ∈ vs
  · have key : ∀ (σ : L2.St) (vs : List Nat), i ∈ vs → i < σ.length → (wipe σ vs)[i]? = some none := by
      intro σ vs
      induction vs with
      | nil => intro h; cases h
      | cons v vs ih =>
        intro h hl
        show ((wipe σ vs).set v none)[i]? = _
        by_cases e : v = i
        · subst e
          rw [List.getElem?_set_self (by rw [wipe_len]; exact hl)]
        · rw [List.getElem?_set_ne e]
          rcases List.mem_cons.mp h with h | h
          · exact absurd h.symm e
          · exact ih h hl
    by_cases hb : i < σ.length
    · rw [key σ vs hi hb, key σ' vs hi (by omega)]
    · rw [List.getElem?_eq_none (by rw [wipe_len]; omega), List.getElem?_eq_none (by rw [wipe_len]; omega)]
  · rw [wipe_out hi, wipe_out hi, h i hi]
theorem wipe_idem (σ : L2.St) (vs : List Nat) : wipe (wipe σ vs) vs = wipe σ vs := wipe_ext (wipe_len σ vs) fun i hi => wipe_out hi
section
variable {K : PySem.W.Frag} {B : Fr} {G H : Hp} {τ : List Ent} {σ : L2.St} {ρ : PEnv}
theorem ok_wipe : ∀ {vs : List Nat}, Ok K B G (τ ++ σ.zip ρ) H → Ok K B G (τ ++ (wipe σ vs).zip (wipeE ρ vs)) H
  | [], ok => ok
  | v :: vs, ok => by
    have k := (ok_wipe (vs := vs) ok).setU (n := τ.length + v) (p' := (none, .un)) trivial rfl
    rw [zset2] at k
    exact k
theorem ok_back {ρ1 : PEnv} : ∀ {vs : List Nat} {ρF : PEnv}, vs.Nodup → σ.length = ρF.length → ρ1.length = ρF.length → (∀ v ∈ vs, ∀ (x : Option V) (s : Sl), σ[v]? = some x → ρ1[v]? = some s → EntOk K B G H (x, s) ∧ ownA (x, s) = none) → Ok K B G (τ ++ (wipe σ vs).zip ρF) H → Ok K B G (τ ++ σ.zip (backE ρ1 ρF vs)) H
  | [], ρF, _, _, _, _, ok => ok
  | v :: vs, ρF, nd, hl, h1, hp, ok => by
    have nd' := List.nodup_cons.mp nd
    by_cases hv : v < σ.length
    · have e1 : σ[v]? = some σ[v] := List.getElem?_eq_getElem hv
      have e2 : ρ1[v]? = some (ρ1.getD v .un) := by
        rw [List.getD_eq_getElem?_getD, List.getElem?_eq_getElem (by omega)]
        rfl
      obtain ⟨p1, p2⟩ := hp v List.mem_cons_self _ _ e1 e2
      have k := ok.setU (n := τ.length + v) p1 p2
      rw [zset2] at k
      have e3 : (wipe σ (v :: vs)).set v σ[v] = wipe σ vs := by
        show ((wipe σ vs).set v none).set v σ[v] = wipe σ vs
        rw [List.set_set]
        apply List.ext_getElem?
        intro i
        by_cases e : v = i
        · subst e
          rw [List.getElem?_set_self (by rw [wipe_len]; exact hv), wipe_out nd'.1, e1]
        · rw [List.getElem?_set_ne e]
      rw [e3] at k
      show Ok K B G (τ ++ σ.zip (backE ρ1 (ρF.set v (ρ1.getD v .un)) vs)) H
      exact ok_back (vs := vs) nd'.2 (by simp [hl]) (by simp [h1]) (fun w hw => hp w (List.mem_cons_of_mem _ hw)) k
    · have e4 : (wipe σ (v :: vs)) = wipe σ vs := by
        show (wipe σ vs).set v none = wipe σ vs
        rw [List.set_eq_of_length_le]
        rw [wipe_len]
        omega
      have e5 : ρF.set v (ρ1.getD v .un) = ρF := List.set_eq_of_length_le (by omega)
      rw [e4] at ok
      show Ok K B G (τ ++ σ.zip (backE ρ1 (ρF.set v (ρ1.getD v .un)) vs)) H
      rw [e5]
      exact ok_back nd'.2 hl h1 (fun w hw => hp w (List.mem_cons_of_mem _ hw)) ok
theorem plain_ent {v : Nat} {x : Option V} {s : Sl} (hp : plainSl ρ v = true) (hs : ρ[v]? = some s) (h : EntOk K B G H (x, s)) {G' H' : Hp} (eg : Ex G G') : EntOk K B G' H' (x, s) ∧ ownA (x, s) = none := by
  unfold plainSl at hp
  rw [hs] at hp
  cases s <;> simp at hp
  · exact ⟨trivial, ownA_un x⟩
  · obtain ⟨y, e, r⟩ := h
    exact ⟨⟨y, e, r.mono eg⟩, ownA_sh x _⟩
end
/-! ### comprehensions -/
abbrev Blk (X : Cx) (scope : Scope) (s : Shared) (H : Hp) (C : Addr) (l : List (Str × Addr)) (fp : List Addr) : Cx := X.blk s H scope (compEnvC scope l C X.env) fp
def WPs (X : Cx) (ifs : List Expr) : TT := fun σ H Q => ∀ (pins : List (Addr × Obj)) (s : Shared), Inv X pins σ H s →
    wpAny (model X.prog X.w) X.A (forIn ifs true fun c r => if r = true then do let ok ← isTrue c X.env (eval c X.env); pure (ForInStep.yield ok) else pure (ForInStep.yield r)) (TP X pins σ Q) X.xe s
theorem pts_W (X : Cx) (ifs : List Expr) : PTs X ifs (WPs X ifs) := ⟨fun pins s σ H Q I h => h pins s I⟩
theorem WPs_of {X : Cx} {e : List Expr} {t : TT} (h : PTs X e t) {σ : L2.St} {H : Hp} {Q : Bool → Hp → Prop} (q : t σ H Q) : WPs X e σ H Q := fun pins s I => h.run pins s σ H Q I q
section
variable {X : Cx} {cl : Calls} {e a b elt tg iter : Expr} {es ifs : List Expr} {c ca cb cc ce : CE} {pos p : Pos} {x : Str} {t t2 : Tg}
theorem st_nil : ST X cl (WPs X []) (.k (.bool true)) := by
  intro B G H τ σ ρ ρ' r b Q hl he hb ok q
  simp only [ev, Option.some.injEq, Prod.mk.injEq] at he
  obtain ⟨rfl, rfl⟩ := he
  have e2 : true = b := by simpa [toD, truthD] using hb
  subst e2
  exact WPs_of pts_nil (q G H rfl (Evl.Ex.refl G) ok)
theorem st_one (h : ST X cl (WT X a) ca) : ST X cl (WPs X [a]) ca := fun B G H τ σ ρ ρ' r b Q hl he hb ok q =>
  WPs_of (pts_one (pt_W X a)) (h B G H τ σ ρ ρ' r b Q hl he hb ok q)
theorem comp_rd {scope : Scope} {own : List (Str × Nat)} (hnd : (own.map (·.2)).Nodup) (hi : SI X cl tg iter c) (hsub : ∀ i ∈ tgS t, i ∈ own.map (·.2))
    (hg : ∀ s H C l fp, SG (Blk X scope s H C l fp) tg t) (ht : ∀ s H C l fp, ST (Blk X scope s H C l fp) cl (WPs (Blk X scope s H C l fp) ifs) cc) (he : ∀ s H C l fp, SD (Blk X scope s H C l fp) cl elt ce)
    {B : Fr} {G H : Hp} {τ : List Ent} {σ : L2.St} {ρ ρ' : PEnv} {r : Sl} {Q : VK} (hl : σ.length = ρ.length) (hev : ev cl (.comp c (own.map (·.2)) t cc ce) ρ = some (r, ρ')) (ok : Ok X.K B G (τ ++ σ.zip ρ) H)
    (q : ∀ v G' H', ρ'.length = ρ.length → Ex G G' → Ok X.K B G' ((some v, r) :: (τ ++ σ.zip ρ')) H' → Q v H') :
    tLc (WI X tg iter) (fun v σ H Q => ∀ s H0 C l fp, WG (Blk X scope s H0 C l fp) tg v σ H Q) (fun σ H Q => ∀ s H0 C l fp, WPs (Blk X scope s H0 C l fp) ifs σ H Q) (fun σ H Q => ∀ s H0 C l fp, WE (Blk X scope s H0 C l fp) elt σ H Q) (own.map (·.2)) σ H Q := by
  generalize hvs : own.map (·.2) = vs at *
  simp only [ev, bind, Option.bind_eq_some_iff, Prod.exists] at hev
  obtain ⟨r1, ρ1, e1, l, e2, e3⟩ := hev
  simp only [Option.ite_none_right_eq_some, Bool.and_eq_true, decide_eq_true_eq, Option.bind_eq_some_iff, Option.some.injEq, Prod.exists, Prod.mk.injEq] at e3
  obtain ⟨⟨hz, hpl⟩, accF, ρF, e4, rfl, rfl⟩ := e3
  refine hi B G H τ σ ρ ρ1 r1 l _ hl e1 e2 ok fun J G1 H1 l1 x1 k1 W1 => ?_
  intro D hD
  refine ⟨fun i m H' => i + m = l.length ∧ ∃ G' ρ2 acc, Ex G1 G' ∧ ρ2.length = ρ1.length ∧ compLoop (asgn t) (ev cl cc) (ev cl ce) vs (l.drop i) ρ2 acc = some (accF, ρF) ∧ acc.length ≤ i ∧ Ok X.K B G' ((some (.ref D), .ow acc) :: (τ ++ (wipe σ vs).zip ρ2)) H', ⟨l.length, ?_⟩, fun i m H' hW => ?_⟩
  · refine ⟨by omega, G1, wipeE ρ1 vs, [], Evl.Ex.refl G1, wipeE_len _ _, by rw [List.drop_zero]; exact e4, Nat.zero_le _, ?_⟩
    exact (ok_wipe k1).newL hD .nil
  · obtain ⟨him, G', ρ2, acc, xg, hl2, hc, hacc, k⟩ := hW
    cases hd : l[i]? with
    | none =>
      have hil : l.length ≤ i := List.getElem?_eq_none_iff.mp hd
      have hi' : i = l.length := by omega
      refine .inl ⟨(W1 G' H' _ i xg k).2 hi', ?_⟩
      rw [List.drop_of_length_le hil] at hc
      simp only [compLoop, Option.some.injEq, Prod.mk.injEq] at hc
      obtain ⟨rfl, rfl⟩ := hc
      have k2 : Ok X.K B G' (((some (.ref D), .ow acc) :: τ) ++ (wipe σ vs).zip ρ2) H' := k
      have k3 := ok_back (ρ1 := ρ1) hnd (by omega) (by omega) (fun v hv x s ex es => by
        obtain ⟨x', ex', en⟩ := zget (σ := σ) (τ := τ) (by omega) es
        rw [ex] at ex'
        cases ex'
        exact plain_ent (List.all_eq_true.mp hpl v hv) es (k1.ent _ _ en) xg) k2
      exact q _ G' H' (by rw [backE_len]; omega) (x1.trans xg) k3
    | some d =>
      have hlt : i < l.length := (List.getElem?_eq_some_iff.mp hd).1
      obtain ⟨hgo, hy⟩ := (W1 G' H' _ i xg k).1 d hd
      have hdrop : l.drop i = d :: l.drop (i + 1) := by
        rw [List.drop_eq_getElem_cons hlt]
        congr 1
        exact (List.getElem?_eq_some_iff.mp hd).2
      rw [hdrop] at hc
      simp only [compLoop, bind, Option.bind_eq_some_iff, Prod.exists] at hc
      obtain ⟨ρ3, a3, b4, ρ4, a4, b, a5, a6⟩ := hc
      refine .inr ⟨hgo, fun H' => i + 1 + (m - 1) = l.length ∧ ∃ G' ρ2 acc, Ex G1 G' ∧ ρ2.length = ρ1.length ∧ compLoop (asgn t) (ev cl cc) (ev cl ce) vs (l.drop (i + 1)) ρ2 acc = some (accF, ρF) ∧ acc.length ≤ i + 1 ∧ Ok X.K B G' ((some (.ref D), .ow acc) :: (τ ++ (wipe σ vs).zip ρ2)) H', fun H2 hN => ⟨m - 1, by omega, hN⟩, fun x H2 hx => ?_⟩
      obtain ⟨G2, xg2, k2, rx⟩ := hy x H2 hx
      intro s0 H0 C0 l0 fp0
      have k2' : Ok X.K B G2 (((some (.ref D), .ow acc) :: τ) ++ (wipe σ vs).zip ρ2) H2 := k2
      have hw : (wipe σ vs).length = ρ2.length := by rw [wipe_len]; omega
      refine hg s0 H0 C0 l0 fp0 B G2 H2 _ (wipe σ vs) ρ2 ρ3 d x _ hw a3 k2' rx fun σ2 H3 l3 m3 hst k3 => ?_
      have ew : wipe σ2 vs = wipe σ vs := by
        rw [← wipe_idem σ vs]
        refine wipe_ext (by omega) fun j hj => hst j fun hm => hj (hsub j hm)
      refine ⟨ew, ?_⟩
      intro s1 H1' C1 l1' fp1
      refine ht s1 H1' C1 l1' fp1 B G2 H3 _ σ2 ρ3 ρ4 b4 b _ l3 a4 (Option.bind_eq_some_iff.mpr a5) k3 fun G4 H4 l4 x4 k4 => ?_
      cases b with
      | false =>
        rw [if_neg (by decide)] at a6 ⊢
        refine ⟨by omega, G4, wipeE ρ4 vs, acc, (xg.trans xg2).trans x4, by rw [wipeE_len]; omega, a6, by omega, ?_⟩
        have := ok_wipe (vs := vs) k4
        rw [ew] at this
        exact this
      | true =>
        rw [if_pos rfl] at a6 ⊢
        simp only [Option.bind_eq_some_iff, Prod.exists] at a6
        obtain ⟨r5, ρ5, a7, d5, a8, a9⟩ := a6
        intro s2 H2' C2 l2' fp2
        refine he s2 H2' C2 l2' fp2 B G4 H4 _ σ2 ρ4 ρ5 r5 d5 _ (by omega) a7 a8 k4 fun y G5 H5 l5 x5 k5 ry => ?_
        have k6 := ok_wipe (vs := vs) k5
        rw [ew] at k6
        have k7 : Ok X.K B G5 ((some (.ref D), .ow acc) :: (τ ++ (wipe σ vs).zip (wipeE ρ5 vs))) H5 := k6
        obtain ⟨D', xs, eD, h0, hgD, hHD, hrD⟩ := k7.head
        cases eD
        refine ⟨xs, hHD, ?_, ?_⟩
        · rw [hrD.length]
          refine lim_lt (Nat.lt_of_le_of_lt hacc ?_)
          omega
        · refine ⟨by omega, G5, wipeE ρ5 vs, acc ++ [d5], ((xg.trans xg2).trans x4).trans x5, by rw [wipeE_len]; omega, a9, by simp; omega, ?_⟩
          have k8 := k7.setA (n := 0) (p' := (some (.ref D), .ow (acc ++ [d5]))) (o := .lst (xs ++ [y])) rfl rfl rfl (.inl h0) ⟨D, xs ++ [y], rfl, h0, hgD, upd_same, hrD.append (.cons ry .nil)⟩
          exact k8
theorem se_comp {scope : Scope} {own : List (Str × Nat)} (hc : X.calm = true) (hN : X.N.Nodup) (hf : ∀ x, foldedSetIterable iter X.env x = pure x) (okb : BlkOk X.N X.env.scope scope own) (hnd : (own.map (·.2)).Nodup) (hi : SI X cl tg iter c) (hsub : ∀ i ∈ tgS t, i ∈ own.map (·.2))
    (hg : ∀ s H C l fp, SG (Blk X scope s H C l fp) tg t) (ht : ∀ s H C l fp, ST (Blk X scope s H C l fp) cl (WPs (Blk X scope s H C l fp) ifs) cc) (he : ∀ s H C l fp, SD (Blk X scope s H C l fp) cl elt ce) :
    SE X cl (.ListComp elt [⟨tg, iter, ifs, 0⟩] scope pos) (.comp c (own.map (·.2)) t cc ce) := by
  intro B G H τ σ ρ ρ' r Q hl hev ok q
  refine WE_of (pe_lc hc hN (pi_W X tg iter) okb (g := fun v σ H Q => ∀ s H0 C l fp, WG (Blk X scope s H0 C l fp) tg v σ H Q) (tt := fun σ H Q => ∀ s H0 C l fp, WPs (Blk X scope s H0 C l fp) ifs σ H Q) (te := fun σ H Q => ∀ s H0 C l fp, WE (Blk X scope s H0 C l fp) elt σ H Q)
    (fun s H C l fp => ⟨fun pins s' σ H v u Q I r h => h s _ C l fp pins s' u I r⟩) (fun s H C l fp => ⟨fun pins s' σ H Q I h => h s _ C l fp pins s' I⟩) (fun s H C l fp => ⟨fun pins s' σ H Q I h => h s _ C l fp pins s' I⟩) hf) ?_
  exact comp_rd hnd hi hsub hg ht he hl hev ok q
end
end PP
namespace PP
open PySem L2 PySem.Spec PyProof.Rows
def WS (X : Cx) (st : Stmt) : TS := fun D σ H => ∀ (pins : List (Addr × Obj)) (s : Shared), Inv X pins σ H s → wpAny (model X.prog X.w) X.A (exec st X.env) (L2.SP X pins D) X.xe s
def WSs (X : Cx) (st : List Stmt) : TS := fun D σ H => ∀ (pins : List (Addr × Obj)) (s : Shared), Inv X pins σ H s → wpAny (model X.prog X.w) X.A (execs st X.env) (L2.SP X pins D) X.xe s
theorem ps_W (X : Cx) (e : Stmt) : PS X e (WS X e) := ⟨fun pins s σ H D I h => h pins s I⟩
theorem pss_W (X : Cx) (e : List Stmt) : PSs X e (WSs X e) := ⟨fun pins s σ H D I h => h pins s I⟩
theorem WS_of {X : Cx} {e : Stmt} {t : TS} (h : PS X e t) {D : Ends} {σ : L2.St} {H : Hp} (q : t D σ H) : WS X e D σ H := fun pins s I => h.run pins s σ H D I q
theorem WSs_of {X : Cx} {e : List Stmt} {t : TS} (h : PSs X e t) {D : Ends} {σ : L2.St} {H : Hp} (q : t D σ H) : WSs X e D σ H := fun pins s I => h.run pins s σ H D I q
/-- what a statement's end gives -/
def PostS (K : PySem.W.Frag) (B : Fr) (G : Hp) (τ : List Ent) (n : Nat) (D : Ends) : Out → Prop
  | .nx ρ' => ρ'.length = n → ∀ σ' G' H', σ'.length = ρ'.length → Ex G G' → Ok K B G' (τ ++ σ'.zip ρ') H' → D.nx σ' H'
  | .rt r ρ' => ρ'.length = n → ∀ v (σ' : L2.St) G' H', σ'.length = ρ'.length → Ex G G' → Ok K B G' ((some v, r) :: (τ ++ σ'.zip ρ')) H' → D.rt v H'
theorem PostS.mono {K : PySem.W.Frag} {B : Fr} {G G' : Hp} {τ : List Ent} {n n' : Nat} {D : Ends} {o : Out} (e : Ex G G') (hn : n = n') (h : PostS K B G τ n D o) : PostS K B G' τ n' D o := by
  subst hn
  cases o with
  | nx ρ' => exact fun hl σ' G2 H2 l x k => h hl σ' G2 H2 l (e.trans x) k
  | rt r ρ' => exact fun hl v σ' G2 H2 l x k => h hl v σ' G2 H2 l (e.trans x) k
section
variable (X : Cx) (cl : Calls) (F : Nat)
def SS (st : Stmt) (c : CS) : Prop := ∀ (B : Fr) (G H : Hp) (τ : List Ent) (σ : L2.St) (ρ : PEnv) (o : Out) (D : Ends), σ.length = ρ.length → ex cl F c ρ = some o → Ok X.K B G (τ ++ σ.zip ρ) H → PostS X.K B G τ ρ.length D o → WS X st D σ H
def SSs (st : List Stmt) (c : CS) : Prop := ∀ (B : Fr) (G H : Hp) (τ : List Ent) (σ : L2.St) (ρ : PEnv) (o : Out) (D : Ends), σ.length = ρ.length → ex cl F c ρ = some o → Ok X.K B G (τ ++ σ.zip ρ) H → PostS X.K B G τ ρ.length D o → WSs X st D σ H
end
section
variable {X : Cx} {cl : Calls} {F : Nat} {e a b tg iter : Expr} {es : List Expr} {st : Stmt} {sts sts2 : List Stmt} {c ca cb cc ce : CE} {s1 s2 : CS} {pos p : Pos} {x : Str} {t t2 : Tg}
theorem ss_nil : SSs X cl F [] .pass := by
  intro B G H τ σ ρ o D hl he ok q
  simp only [ex, Option.some.injEq] at he
  subst he
  exact WSs_of pss_nil (q rfl σ G H hl (Evl.Ex.refl G) ok)
theorem ss_cons (h1 : SS X cl F st s1) (h2 : SSs X cl F sts s2) : SSs X cl F (st :: sts) (.seq s1 s2) := by
  intro B G H τ σ ρ o D hl he ok q
  simp only [ex, bind, Option.bind_eq_some_iff] at he
  obtain ⟨o1, e1, e2⟩ := he
  refine WSs_of (pss_cons (ps_W X st) (pss_W X sts)) ?_
  refine h1 B G H τ σ ρ o1 _ hl e1 ok ?_
  cases o1 with
  | nx ρ1 => exact fun hn σ1 G1 H1 l1 x1 k1 => h2 B G1 H1 τ σ1 ρ1 o D l1 e2 k1 (q.mono x1 hn.symm)
  | rt r ρ1 =>
    simp only [Option.some.injEq] at e2
    subst e2
    exact q
theorem ss_pass : SS X cl F (.Pass pos) .pass := by
  intro B G H τ σ ρ o D hl he ok q
  simp only [ex, Option.some.injEq] at he
  subst he
  exact WS_of ps_pass (q rfl σ G H hl (Evl.Ex.refl G) ok)
theorem ss_never : SS X cl F st .fail := by
  intro B G H τ σ ρ o D hl he ok q
  simp [ex] at he
def isComp : Expr → Bool
  | .ListComp .. => true
  | .SetComp .. => true
  | .DictComp .. => true
  | _ => false
theorem swaps_plain {t : Option Expr} {l : Nat} {env : Env} (h : isComp e = false) : swapsWith e t l env = pure false := by
  cases e <;> first
    | rfl
    | cases h
theorem ss_drop (hn : isComp e = false) (h : SD X cl e c) (hd : ∀ ρ ρ' r, ev cl c ρ = some (r, ρ') → ∃ d, toD r = some d) : SS X cl F (.Expr e pos) (.drop c) := by
  intro B G H τ σ ρ o D hl he ok q
  simp only [ex, bind, Option.bind_eq_some_iff, Option.some.injEq, Prod.exists] at he
  obtain ⟨r, ρ1, e1, rfl⟩ := he
  obtain ⟨d, hd⟩ := hd _ _ _ e1
  refine WS_of (ps_expr (pe_W X e) (swaps_plain hn)) ?_
  exact h B G H τ σ ρ ρ1 r d _ hl e1 hd ok fun v G' H' l eg k _ => q l σ G' H' (by omega) eg k
theorem ss_ret (h : SE X cl e c) : SS X cl F (.Return (some e) pos) (.ret c) := by
  intro B G H τ σ ρ o D hl he ok q
  simp only [ex, bind, Option.bind_eq_some_iff, Option.some.injEq, Prod.exists] at he
  obtain ⟨r, ρ1, e1, rfl⟩ := he
  exact WS_of (ps_ret (pe_W X e)) (h B G H τ σ ρ ρ1 r _ hl e1 ok fun v G' H' l eg k => q l v σ G' H' (by omega) eg k)
theorem ss_if (hc : ST X cl (WT X e) c) (h1 : SSs X cl F sts s1) (h2 : SSs X cl F sts2 s2) : SS X cl F (.If e sts sts2 pos) (.ite c s1 s2) := by
  intro B G H τ σ ρ o D hl he ok q
  simp only [ex, tst, bind, Option.bind_eq_some_iff, Option.some.injEq, Prod.exists, Prod.mk.injEq] at he
  obtain ⟨t, ρ1, ⟨r, ρ2, e1, t', e2, rfl, rfl⟩, e3⟩ := he
  refine WS_of (ps_if (pt_W X e) (pss_W X sts) (pss_W X sts2)) ?_
  refine hc B G H τ σ ρ ρ2 r t' _ hl e1 (Option.bind_eq_some_iff.mpr e2) ok fun G1 H1 l1 x1 k1 => ?_
  cases t' with
  | true =>
    rw [if_pos rfl] at e3 ⊢
    exact h1 B G1 H1 τ σ ρ2 o D (by omega) e3 k1 (q.mono x1 l1.symm)
  | false =>
    rw [if_neg (by decide)] at e3 ⊢
    exact h2 B G1 H1 τ σ ρ2 o D (by omega) e3 k1 (q.mono x1 l1.symm)
theorem put_len {ρ ρ' : PEnv} {i : Nat} {s : Sl} (h : put ρ i s = some ρ') : ρ'.length = ρ.length := by
  rw [put_eq h]
  simp
/-- name = e -/
theorem ss_set {i : Nat} {p2 : Pos} (hN : X.N.Nodup) (hi : X.N[i]? = some x) (hx : Loc X.env.scope x) (hf : X.fn x = true ∨ X.env.scope.names.lookup x = some .local) (hs : swapsWith e (some (.Name x p2)) pos.line X.env = pure false) (h : SE X cl e c) :
    SS X cl F (.Assign [.Name x p2] e pos) (.asg (.nm i) c) := by
  intro B G H τ σ ρ o D hl he ok q
  simp only [ex, bind, Option.bind_eq_some_iff, Option.map_eq_some_iff, Prod.exists] at he
  obtain ⟨r, ρ1, e1, ρ2, e2, rfl⟩ := he
  refine WS_of (ps_set hN hi hx (pe_W X e) hs hf) ?_
  refine h B G H τ σ ρ ρ1 r _ hl e1 ok fun v G' H' l eg k => ?_
  have e3 := put_len e2
  have e4 := put_eq e2
  subst e4
  exact q (by omega) _ G' H' (by simp; omega) eg (put_ok k)
/-- name = [..] on one line -/
theorem ss_setLc {i : Nat} {p2 : Pos} {elt : Expr} {ifs : List Expr} {scope : Scope} {own : List (Str × Nat)} (hN : X.N.Nodup) (hi : X.N[i]? = some x) (hx : X.env.scope.names.lookup x = some .local) (hs : swapsWith (.ListComp elt [⟨tg, iter, ifs, 0⟩] scope p) (some (.Name x p2)) pos.line X.env = pure true)
    (hc : X.calm = true) (hf : ∀ x, foldedSetIterable iter X.env x = pure x) (okb : BlkOk X.N X.env.scope scope own) (hnd : (own.map (·.2)).Nodup) (hI : SI X cl tg iter c) (hsub : ∀ i ∈ tgS t, i ∈ own.map (·.2))
    (hg : ∀ s H C l fp, SG (Blk X scope s H C l fp) tg t) (ht : ∀ s H C l fp, ST (Blk X scope s H C l fp) cl (WPs (Blk X scope s H C l fp) ifs) cc) (he : ∀ s H C l fp, SD (Blk X scope s H C l fp) cl elt ce) :
    SS X cl F (.Assign [.Name x p2] (.ListComp elt [⟨tg, iter, ifs, 0⟩] scope p) pos) (.asg (.nm i) (.comp c (own.map (·.2)) t cc ce)) := by
  intro B G H τ σ ρ o D hl hex ok q
  rw [ex] at hex
  simp only [bind, Option.bind_eq_some_iff, Option.map_eq_some_iff, Prod.exists] at hex
  obtain ⟨r, ρ1, e1, ρ2, e2, rfl⟩ := hex
  refine WS_of (ps_setLc hc hN hi hx hs (pi_W X tg iter) okb (g := fun v σ H Q => ∀ s H0 C l fp, WG (Blk X scope s H0 C l fp) tg v σ H Q) (tt := fun σ H Q => ∀ s H0 C l fp, WPs (Blk X scope s H0 C l fp) ifs σ H Q) (te := fun σ H Q => ∀ s H0 C l fp, WE (Blk X scope s H0 C l fp) elt σ H Q)
    (fun s H C l fp => ⟨fun pins s' σ H v u Q I r h => h s _ C l fp pins s' u I r⟩) (fun s H C l fp => ⟨fun pins s' σ H Q I h => h s _ C l fp pins s' I⟩) (fun s H C l fp => ⟨fun pins s' σ H Q I h => h s _ C l fp pins s' I⟩) hf) ?_
  refine comp_rd hnd hI hsub hg ht he hl e1 ok fun v G' H' l eg k => ?_
  have e3 := put_len e2
  have e4 := put_eq e2
  subst e4
  exact q (by omega) _ G' H' (by simp; omega) eg (put_ok k)
/-- (a, b, ..) = e -/
theorem ss_asgT {j : Nat} {p2 : Pos} (hs : swapsWithSole [.Tuple es j p2] e pos.line X.env = pure false) (hw : swappedStores [.Tuple es j p2] e X.env = pure none) (hg : SG X (.Tuple es j p2) (.tp t)) (h : SD X cl e c) :
    SS X cl F (.Assign [.Tuple es j p2] e pos) (.asg (.tp t) c) := by
  intro B G H τ σ ρ o D hl he ok q
  simp only [ex, bind, Option.bind_eq_some_iff, Option.map_eq_some_iff, Prod.exists] at he
  obtain ⟨r, ρ1, e1, d, e2, ρ2, e3, rfl⟩ := he
  refine WS_of (ps_asg (pe_W X e) (pg_W X _) hs hw rfl) ?_
  refine h B G H τ σ ρ ρ1 r d _ hl e1 e2 ok fun v G' H' l eg k rv => ?_
  exact hg B G' H' τ σ ρ1 ρ2 d v _ (by omega) e3 k rv fun σ' H2 l2 m2 _ k2 => q (by omega) σ' G' H2 l2 eg k2
def notSlice : Expr → Bool
  | .Slice .. => false
  | _ => true
theorem plainIx (h : notSlice a = true) : PlainIx a := by
  intro o i
  cases a <;> first
    | rfl
    | cases h
theorem asg_sub {o : Expr} {env : Env} (h : notSlice a = true) (v : Value) : assign (.Subscript o a p) env v = (do
    let ov ← holding [v] (eval o env)
    let iv ← holding [v, ov] (eval a env)
    standAt p
    holding [v, ov, iv] (setItem ov iv v)
    release [v, ov, iv] []) := by
  cases a <;> first
    | rfl
    | cases h
/-! a, b = x, y with plain local names -/
theorem set_cm {α : Type} (l : List α) (u v : α) {i j : Nat} (h : i ≠ j) : (l.set i u).set j v = (l.set j v).set i u := List.set_comm _ _ h
theorem ss_par2 {i j : Nat} {y : Str} {px py pt : Pos} {kt k2 : Nat} {pt2 : Pos} (hc : X.calm = true) (hN : X.N.Nodup) (hi : X.N[i]? = some x) (hj : X.N[j]? = some y) (hij : i ≠ j)
    (hx : X.env.scope.names.lookup x = some .local) (hy : X.env.scope.names.lookup y = some .local) (hs1 : notStar a = true) (hs2 : notStar b = true) (ha : SE X cl a ca) (hb : SE X cl b cb)
    (hw : swappedStores [.Tuple [.Name x px, .Name y py] kt pt] (.Tuple [a, b] k2 pt2) X.env = pure (some [x, y])) :
    SS X cl F (.Assign [.Tuple [.Name x px, .Name y py] kt pt] (.Tuple [a, b] k2 pt2) pos) (.par (.cons (.nm i) (.cons (.nm j) .nil)) (.cons ca (.cons cb .nil))) := by
  intro B G H τ σ ρ o D hl he ok q
  simp only [ex, evP, bind, Option.bind_eq_some_iff, Option.map_eq_some_iff, Option.some.injEq, Prod.exists, Prod.mk.injEq] at he
  obtain ⟨rs, ρ', ⟨r1, ρ1, e1, rs2, ρ2', ⟨r2, ρ2, e2, rs3, ρ3, ⟨rfl, rfl⟩, rfl, rfl⟩, rfl, rfl⟩, ρF, e3, rfl⟩ := he
  simp only [putP, Option.bind_eq_some_iff, Option.some.injEq] at e3
  obtain ⟨ρ4, e4, ρ5, e5, rfl⟩ := e3
  have g4 := put_eq e4
  subst g4
  have g5 := put_eq e5
  subst g5
  refine WS_of (ps_par hc hN hi hj hij hx hy (pa_cons (pe_W X a) (pa_cons (pe_W X b) pa_nil (star_cons hs2)) (star_cons hs1)) hw rfl) ?_
  refine ha B G H τ σ ρ ρ1 r1 _ hl e1 ok fun v G1 H1 l1 x1 k1 => ?_
  refine hb B G1 H1 ((some v, r1) :: τ) σ ρ1 _ r2 _ (by omega) e2 k1 fun u G2 H2 l2 x2 k2 => ⟨v, u, rfl, ?_⟩
  refine q (by simp; omega) _ G2 H2 (by simp; omega) (x1.trans x2) ?_
  have k3 : Ok X.K B G2 ((some u, r2) :: ((some v, r1) :: (τ ++ σ.zip ρ2))) H2 := k2
  have k4 := k3.setH (n := τ.length + j + 1)
  have k5 : Ok X.K B G2 ((some v, r1) :: (τ ++ σ.zip ρ2).set (τ.length + j) (some u, r2)) H2 := k4
  rw [zset2] at k5
  have k6 := put_ok (i := i) k5
  rw [set_cm σ _ _ (Ne.symm hij), set_cm ρ2 _ _ (Ne.symm hij)] at k6
  exact k6
theorem ss_par3 {i j l : Nat} {y z : Str} {cE : Expr} {px py pz pt : Pos} {kt k2 : Nat} {pt2 : Pos} (hc : X.calm = true) (hN : X.N.Nodup) (hi : X.N[i]? = some x) (hj : X.N[j]? = some y) (hl' : X.N[l]? = some z) (hij : i ≠ j) (hil : i ≠ l) (hjl : j ≠ l)
    (hx : X.env.scope.names.lookup x = some .local) (hy : X.env.scope.names.lookup y = some .local) (hz : X.env.scope.names.lookup z = some .local) (hs1 : notStar a = true) (hs2 : notStar b = true) (hs3 : notStar cE = true) (ha : SE X cl a ca) (hb : SE X cl b cb) (hcE : SE X cl cE cc)
    (hw : swappedStores [.Tuple [.Name x px, .Name y py, .Name z pz] kt pt] (.Tuple [a, b, cE] k2 pt2) X.env = pure (some [x, y, z])) :
    SS X cl F (.Assign [.Tuple [.Name x px, .Name y py, .Name z pz] kt pt] (.Tuple [a, b, cE] k2 pt2) pos) (.par (.cons (.nm i) (.cons (.nm j) (.cons (.nm l) .nil))) (.cons ca (.cons cb (.cons cc .nil)))) := by
  intro B G H τ σ ρ o D hl he ok q
  simp only [ex, evP, bind, Option.bind_eq_some_iff, Option.map_eq_some_iff, Option.some.injEq, Prod.exists, Prod.mk.injEq] at he
  obtain ⟨rs, ρ', ⟨r1, ρ1, e1, rs2, ρ2', ⟨r2, ρ2, e2, rs3, ρ3', ⟨r3, ρ3, e3, rs4, ρ4', ⟨rfl, rfl⟩, rfl, rfl⟩, rfl, rfl⟩, rfl, rfl⟩, ρF, e4, rfl⟩ := he
  simp only [putP, Option.bind_eq_some_iff, Option.some.injEq] at e4
  obtain ⟨ρ5, e5, ρ6, e6, ρ7, e7, rfl⟩ := e4
  have g5 := put_eq e5
  subst g5
  have g6 := put_eq e6
  subst g6
  have g7 := put_eq e7
  subst g7
  refine WS_of (L2.ps_par3 hc hN hi hj hl' hij hil hjl hx hy hz (pa_cons (pe_W X a) (pa_cons (pe_W X b) (pa_cons (pe_W X cE) pa_nil (star_cons hs3)) (star_cons hs2)) (star_cons hs1)) hw rfl) ?_
  refine ha B G H τ σ ρ ρ1 r1 _ hl e1 ok fun v G1 H1 l1 x1 k1 => ?_
  refine hb B G1 H1 ((some v, r1) :: τ) σ ρ1 _ r2 _ (by omega) e2 k1 fun u G2 H2 l2 x2 k2 => ?_
  refine hcE B G2 H2 ((some u, r2) :: ((some v, r1) :: τ)) σ ρ2 _ r3 _ (by omega) e3 k2 fun w G3 H3 l3 x3 k3 => ⟨v, u, w, rfl, ?_⟩
  refine q (by simp; omega) _ G3 H3 (by simp; omega) ((x1.trans x2).trans x3) ?_
  have k4 : Ok X.K B G3 ((some w, r3) :: ((some u, r2) :: ((some v, r1) :: (τ ++ σ.zip ρ3)))) H3 := k3
  have k5 := k4.setH (n := τ.length + l + 2)
  have k6 : Ok X.K B G3 ((some u, r2) :: ((some v, r1) :: (τ ++ σ.zip ρ3).set (τ.length + l) (some w, r3))) H3 := k5
  rw [zset2] at k6
  have k7 := k6.setH (n := τ.length + j + 1)
  have k8 : Ok X.K B G3 ((some v, r1) :: (τ ++ (σ.set l (some w)).zip (ρ3.set l r3)).set (τ.length + j) (some u, r2)) H3 := k7
  rw [zset2] at k8
  have k9 := put_ok (i := i) k8
  rw [set_cm (σ.set l (some w)) _ _ (Ne.symm hij), set_cm (ρ3.set l r3) _ _ (Ne.symm hij), set_cm σ _ _ (Ne.symm hil), set_cm ρ3 _ _ (Ne.symm hil), set_cm (σ.set i (some v)) _ _ (Ne.symm hjl), set_cm (ρ3.set i r1) _ _ (Ne.symm hjl)] at k9
  exact k9
/-! stores into a list of one's own -/
theorem upd_ok {B : Fr} {G H : Hp} {τ : List Ent} {σ : L2.St} {ρ ρ' : PEnv} {i : Nat} {f : List PyData → Option (List PyData)} (hl : σ.length = ρ.length) (ok : Ok X.K B G (τ ++ σ.zip ρ) H) (h : upd ρ i f = some ρ') :
    ∃ a xs l l', σ[i]? = some (some (.ref a)) ∧ H a = some (.lst xs) ∧ Reps X.K G xs l ∧ f l = some l' ∧ ρ'.length = ρ.length ∧ ∀ xs', Reps X.K G xs' l' → Ok X.K B G (τ ++ σ.zip ρ') (L2.upd H a (.lst xs')) := by
  unfold upd at h
  split at h
  · rename_i l el
    simp only [Option.map_eq_some_iff] at h
    obtain ⟨l', h1, rfl⟩ := h
    obtain ⟨v, s0, en⟩ := zget (τ := τ) hl el
    obtain ⟨a, xs, rfl, h0, hG, hH, hR⟩ := ok.ent _ _ en
    refine ⟨a, xs, l, l', s0, hH, hR, h1, by simp, fun xs' r' => ?_⟩
    have k := ok.setA (n := τ.length + i) (p' := (some (.ref a), .ow l')) (o := .lst xs') en rfl rfl (.inl h0) ⟨a, xs', rfl, h0, hG, upd_same, r'⟩
    rw [zset s0] at k
    exact k
  · rename_i l el
    simp only [Option.map_eq_some_iff] at h
    obtain ⟨l', h1, rfl⟩ := h
    obtain ⟨v, s0, en⟩ := zget (τ := τ) hl el
    obtain ⟨a, xs, rfl, h0, hG, hH, hR⟩ := ok.ent _ _ en
    refine ⟨a, xs, l, l', s0, hH, hR, h1, by simp, fun xs' r' => ?_⟩
    have k := ok.setA (n := τ.length + i) (p' := (some (.ref a), .io l')) (o := .lst xs') en rfl rfl (.inr h0) ⟨a, xs', rfl, h0, hG, upd_same, r'⟩
    rw [zset s0] at k
    exact k
  · cases h
theorem listAt_ok {B : Fr} {G H : Hp} {τ : List Ent} {σ : L2.St} {ρ : PEnv} {i : Nat} {l : List PyData} (hl : σ.length = ρ.length) (ok : Ok X.K B G (τ ++ σ.zip ρ) H) (h : listAt ρ i = some l) : ∃ a xs, σ[i]? = some (some (.ref a)) ∧ H a = some (.lst xs) := by
  unfold listAt at h
  split at h
  · rename_i m em
    obtain ⟨v, s0, en⟩ := zget (τ := τ) hl em
    obtain ⟨a, xs, rfl, h0, hG, hH, hR⟩ := ok.ent _ _ en
    exact ⟨a, xs, s0, hH⟩
  · rename_i m em
    obtain ⟨v, s0, en⟩ := zget (τ := τ) hl em
    obtain ⟨a, xs, rfl, h0, hG, hH, hR⟩ := ok.ent _ _ en
    exact ⟨a, xs, s0, hH⟩
  · cases h
theorem setAt_ok {B : Fr} {G H : Hp} {τ : List Ent} {σ : L2.St} {ρ ρ' : PEnv} {i : Nat} {z : Int} {d : PyData} {v : V} (hl : σ.length = ρ.length) (ok : Ok X.K B G (τ ++ σ.zip ρ) H) (rv : Rep X.K G v d) (h : setAt ρ i z d = some ρ') :
    ∃ a, σ[i]? = some (some (.ref a)) ∧ ρ'.length = ρ.length ∧ ∀ Q : Hp → Prop, (∀ H', Ok X.K B G (τ ++ σ.zip ρ') H' → Q H') → rSetL (.ref a) (.int z) v H Q := by
  obtain ⟨a, xs, l, l', s0, hH, hR, hf, hn, hk⟩ := upd_ok hl ok h
  simp only [Option.map_eq_some_iff] at hf
  obtain ⟨j, h1, rfl⟩ := hf
  refine ⟨a, s0, hn, fun Q q => ⟨a, xs, z, j, rfl, rfl, hH, by rw [hR.length]; exact h1, q _ (hk _ (hR.set rv j))⟩⟩
theorem ss_seti {i : Nat} {p2 p3 : Pos} (hns : notSlice a = true) (hN : X.N[i]? = some x) (hv : Vis X.env.scope x) (hd : (x == ("__debug__" : Str)) = false) (hcd : (x == ("__classdict__" : Str)) = false) (hs : swapsWithSole [.Subscript (.Name x p3) a p2] e pos.line X.env = pure false) (ha : SD X cl a ca) (h : SD X cl e c) (hw : swappedStores [.Subscript (.Name x p3) a p2] e X.env = pure none := by rfl) :
    SS X cl F (.Assign [.Subscript (.Name x p3) a p2] e pos) (.seti i ca c) := by
  intro B G H τ σ ρ o D hl he ok q
  simp only [ex, bind, Option.bind_eq_some_iff, Prod.exists] at he
  obtain ⟨r, ρ1, e1, d, e2, d0, e0, r2, ρ2, e3, y, e4, e5⟩ := he
  cases y <;> simp only [Option.map_eq_some_iff, reduceCtorEq] at e5
  rename_i z
  obtain ⟨ρ3, e6, rfl⟩ := e5
  refine WS_of (ps_asg (pe_W X e) (pg_sub (pe_var hN hv hd hcd) (pe_W X a) set_list (ha := fun v => asg_sub hns v)) hs hw rfl) ?_
  refine h B G H τ σ ρ ρ1 r d _ hl e1 e2 ok fun v G1 H1 l1 x1 k1 rv => ?_
  obtain ⟨v0, s0, _⟩ := peek_ok (by omega) k1 e0
  refine ⟨v0, s0, ?_⟩
  refine ha B G1 H1 τ σ ρ1 ρ2 r2 _ _ (by omega) e3 e4 k1 fun u G2 H2 l2 x2 k2 ru => ?_
  cases ru
  obtain ⟨a', s1, hn, key⟩ := setAt_ok (by omega) k2 (rv.mono x2) e6
  rw [s0] at s1
  cases s1
  exact key _ fun H' k => q (by omega) σ G2 H' (by omega) (x1.trans x2) k
/-- state[k] as a target -/
theorem sg_ix {i : Nat} {k : Int} {j : Nat} {p2 p3 : Pos} (hN : X.N[i]? = some x) (hv : Vis X.env.scope x) (hd : (x == ("__debug__" : Str)) = false) (hcd : (x == ("__classdict__" : Str)) = false) : SG X (.Subscript (.Name x p3) (.Constant (.int k) j p2) pos) (.ix i k) := by
  intro B G H τ σ ρ ρ' d v Q hl he ok rv q
  simp only [asgn] at he
  obtain ⟨a, s0, hn, key⟩ := setAt_ok hl ok rv he
  refine WG_of (pg_sub (pe_var hN hv hd hcd) pe_int set_list) ⟨_, s0, ?_⟩
  exact key _ fun H' k => q σ H' (by omega) hn (fun _ _ => rfl) k
theorem ss_app {i : Nat} {p2 p3 p4 : Pos} (hN : X.N[i]? = some x) (hv : Vis X.env.scope x) (hd : (x == ("__debug__" : Str)) = false) (hcd : (x == ("__classdict__" : Str)) = false) (hs : notStar e = true) (hline : (p3.endLine == p4.line) = true) (h : SD X cl e c) :
    SS X cl F (.Expr (.Call (.Attribute (.Name x p2) "append" p3) [e] [] p4) pos) (.app i c) := by
  intro B G H τ σ ρ o D hl he ok q
  simp only [ex, bind, Option.bind_eq_some_iff, Option.map_eq_some_iff, Prod.exists] at he
  obtain ⟨l0, e0, r, ρ1, e1, d, e2, ρ2, e3, rfl⟩ := he
  obtain ⟨a0, xs0, s0, hH0⟩ := listAt_ok hl ok e0
  have hfew : ((backTo p4 (starEach [e] X.env)).all (fun x => !x.1) && (backToKw p4 (keywordEach [] X.env)).all (fun x => x.1.isSome)
      && decide ([e].length + ([] : List Keyword).length + (if ([] : List Keyword).isEmpty then 0 else 1) < 30)) = true := by
    rw [star_none (by simp [hs])]
    rfl
  refine WS_of (ps_expr (pe_bm PySem.F.plainAttrs_list PySem.F.slot_list_append PySem.F.type_list_append mt_append (pe_var hN hv hd hcd) (pa_cons (pe_W X e) pa_nil (star_cons hs)) (hfew := hfew) (hline := hline) (hs := star_cons hs) (hplain := by rfl)) rfl) ⟨_, s0, Or.inl ⟨rfl, _, .inl (.inl hH0)⟩, ?_⟩
  refine h B G H τ σ ρ ρ1 r d _ hl e1 e2 ok fun v G' H' l eg k rv => ?_
  obtain ⟨a, xs, m, m', s1, hH, hR, hf, hn, hk⟩ := upd_ok (by omega) k e3
  rw [s0] at s1
  cases s1
  simp only [Option.ite_none_right_eq_some, Option.some.injEq] at hf
  obtain ⟨h1, rfl⟩ := hf
  refine ⟨a0, xs, v, rfl, rfl, hH, by rw [hR.length]; exact lim_lt h1, ?_⟩
  exact q (by omega) σ G' _ (by omega) eg (hk _ (hR.append (.cons rv .nil)))
theorem ss_ext {i : Nat} {p2 p3 p4 : Pos} (hN : X.N[i]? = some x) (hv : Vis X.env.scope x) (hd : (x == ("__debug__" : Str)) = false) (hcd : (x == ("__classdict__" : Str)) = false) (hs : notStar e = true) (hline : (p3.endLine == p4.line) = true) (h : SD X cl e c) :
    SS X cl F (.Expr (.Call (.Attribute (.Name x p2) "extend" p3) [e] [] p4) pos) (.ext i c) := by
  intro B G H τ σ ρ o D hl he ok q
  simp only [ex, bind, Option.bind_eq_some_iff, Prod.exists] at he
  obtain ⟨l0, e0, r, ρ1, e1, d, e2, e3⟩ := he
  cases d <;> simp only [Option.map_eq_some_iff, reduceCtorEq] at e3
  rename_i mm
  obtain ⟨ρ2, e3, rfl⟩ := e3
  obtain ⟨a0, xs0, s0, hH0⟩ := listAt_ok hl ok e0
  have hfew : ((backTo p4 (starEach [e] X.env)).all (fun x => !x.1) && (backToKw p4 (keywordEach [] X.env)).all (fun x => x.1.isSome)
      && decide ([e].length + ([] : List Keyword).length + (if ([] : List Keyword).isEmpty then 0 else 1) < 30)) = true := by
    rw [star_none (by simp [hs])]
    rfl
  refine WS_of (ps_expr (pe_bm PySem.F.plainAttrs_list PySem.F.slot_list_extend PySem.F.type_list_extend mt_extend (pe_var hN hv hd hcd) (pa_cons (pe_W X e) pa_nil (star_cons hs)) (hfew := hfew) (hline := hline) (hs := star_cons hs) (hplain := by rfl)) rfl) ⟨_, s0, Or.inl ⟨rfl, _, .inl (.inl hH0)⟩, ?_⟩
  refine h B G H τ σ ρ ρ1 r _ _ hl e1 e2 ok fun v G' H' l eg k rv => ?_
  obtain ⟨a, xs, m, m', s1, hH, hR, hf, hn, hk⟩ := upd_ok (by omega) k e3
  rw [s0] at s1
  cases s1
  simp only [Option.ite_none_right_eq_some, Option.some.injEq] at hf
  obtain ⟨h1, rfl⟩ := hf
  cases rv with
  | lst hb rb =>
    refine ⟨a0, _, xs, _, rfl, rfl, hH, k.sub _ _ hb, by rw [hR.length, rb.length]; exact lim_le h1, ?_⟩
    exact q (by omega) σ G' _ (by omega) eg (hk _ (hR.append rb))
/-! loops -/
theorem ss_for (hp : PassesOwn (model X.prog X.w) X.A X.env X.xe) (hc : X.calm = true) (hf : ∀ x, foldedSetIterable iter X.env x = pure x) (hi : SI X cl tg iter c) (hg : SG X tg t) (hb : SSs X cl F sts s1) : SS X cl F (.For tg iter sts [] pos) (.for t c s1) := by
  intro B G H τ σ ρ o D hl he ok q
  simp only [ex, bind, Option.bind_eq_some_iff, Prod.exists] at he
  obtain ⟨r, ρ1, e1, l, e2, e3⟩ := he
  refine WS_of (ps_for hp hc (pi_W X tg iter) (pg_W X tg) (pss_W X sts) hf) ?_
  refine hi B G H τ σ ρ ρ1 r l _ hl e1 e2 ok fun J G1 H1 l1 x1 k1 W1 => ?_
  refine ⟨fun i m σ' H' => i + m = l.length ∧ ∃ G' ρ', Ex G1 G' ∧ σ'.length = ρ'.length ∧ ρ'.length = ρ.length ∧ forLoop (asgn t) (ex cl F s1) (l.drop i) ρ' = some o ∧ Ok X.K B G' (τ ++ σ'.zip ρ') H', ⟨l.length, by omega, G1, ρ1, Evl.Ex.refl G1, by omega, l1, by rw [List.drop_zero]; exact e3, k1⟩, fun i m σ' H' hW => ?_⟩
  obtain ⟨him, G', ρ', xg, hl2, hl3, hc', k⟩ := hW
  cases hd : l[i]? with
  | none =>
    have hil : l.length ≤ i := List.getElem?_eq_none_iff.mp hd
    refine .inl ⟨(W1 G' H' _ i xg k).2 (by omega), ?_⟩
    rw [List.drop_of_length_le hil] at hc'
    simp only [forLoop, Option.some.injEq] at hc'
    subst hc'
    exact q hl3 σ' G' H' hl2 (x1.trans xg) k
  | some d =>
    have hlt : i < l.length := (List.getElem?_eq_some_iff.mp hd).1
    obtain ⟨hgo, hy⟩ := (W1 G' H' _ i xg k).1 d hd
    have hdrop : l.drop i = d :: l.drop (i + 1) := by
      rw [List.drop_eq_getElem_cons hlt]
      congr 1
      exact (List.getElem?_eq_some_iff.mp hd).2
    rw [hdrop] at hc'
    simp only [forLoop, bind, Option.bind_eq_some_iff] at hc'
    obtain ⟨ρ2, a1, o2, a2, a3⟩ := hc'
    refine .inr ⟨hgo, fun σ' H' => i + 1 + (m - 1) = l.length ∧ ∃ G' ρ', Ex G1 G' ∧ σ'.length = ρ'.length ∧ ρ'.length = ρ.length ∧ forLoop (asgn t) (ex cl F s1) (l.drop (i + 1)) ρ' = some o ∧ Ok X.K B G' (τ ++ σ'.zip ρ') H', fun σ2 H2 hN => ⟨m - 1, by omega, hN⟩, fun x H2 hx => ?_⟩
    obtain ⟨G2, xg2, k2, rx⟩ := hy x H2 hx
    refine hg B G2 H2 τ σ' ρ' ρ2 d x _ hl2 a1 k2 rx fun σ3 H3 l3 m3 _ k3 => ?_
    refine hb B G2 H3 τ σ3 ρ2 o2 _ l3 a2 k3 ?_
    cases o2 with
    | nx ρ4 => exact fun hn σ5 G5 H5 l5 x5 k5 => ⟨by omega, G5, ρ4, (xg.trans xg2).trans x5, l5, by omega, a3, k5⟩
    | rt r ρ4 =>
      simp only [Option.some.injEq] at a3
      subst a3
      exact fun hn v σ5 G5 H5 l5 x5 k5 => q (by omega) v σ5 G5 H5 l5 (((x1.trans xg).trans xg2).trans x5) k5
theorem ss_while (hp : PassesOwn (model X.prog X.w) X.A X.env X.xe) (hc : ST X cl (WT X e) c) (hb : SSs X cl F sts s1) : SS X cl F (.While e sts [] pos) (.while c s1) := by
  intro B G H τ σ ρ o D hl he ok q
  simp only [ex] at he
  refine WS_of (ps_while hp (pt_W X e) (pss_W X sts)) ?_
  refine ⟨fun m σ' H' => ∃ G' ρ', Ex G G' ∧ σ'.length = ρ'.length ∧ ρ'.length = ρ.length ∧ whileLoop (tst cl c) (ex cl F s1) m ρ' = some o ∧ Ok X.K B G' (τ ++ σ'.zip ρ') H', ⟨F, G, ρ, Evl.Ex.refl G, hl, rfl, he, ok⟩, fun m σ' H' hW => ?_⟩
  obtain ⟨G', ρ', xg, hl2, hl3, hw, k⟩ := hW
  cases m with
  | zero => simp [whileLoop] at hw
  | succ m =>
    simp only [whileLoop, tst, bind, Option.bind_eq_some_iff, Option.some.injEq, Prod.exists, Prod.mk.injEq] at hw
    obtain ⟨t, ρ1, ⟨r, ρ2, e1, t', e2, rfl, rfl⟩, e3⟩ := hw
    refine hc B G' H' τ σ' ρ' ρ2 r t' _ hl2 e1 (Option.bind_eq_some_iff.mpr e2) k fun G1 H1 l1 x1 k1 => ?_
    cases t' with
    | false =>
      rw [if_neg (by decide)] at e3
      simp only [Option.some.injEq] at e3
      subst e3
      exact q (by omega) σ' G1 H1 (by omega) (xg.trans x1) k1
    | true =>
      rw [if_pos rfl] at e3
      simp only [Option.bind_eq_some_iff] at e3
      obtain ⟨o2, a2, a3⟩ := e3
      refine ⟨fun σ2 H2 => ∃ G' ρ', Ex G G' ∧ σ2.length = ρ'.length ∧ ρ'.length = ρ.length ∧ whileLoop (tst cl c) (ex cl F s1) m ρ' = some o ∧ Ok X.K B G' (τ ++ σ2.zip ρ') H2, fun σ2 H2 hN => ⟨m, by omega, hN⟩, ?_⟩
      refine hb B G1 H1 τ σ' ρ2 o2 _ (by omega) a2 k1 ?_
      cases o2 with
      | nx ρ4 => exact fun hn σ5 G5 H5 l5 x5 k5 => ⟨G5, ρ4, (xg.trans x1).trans x5, l5, by omega, a3, k5⟩
      | rt r ρ4 =>
        simp only [Option.some.injEq] at a3
        subst a3
        exact fun hn v σ5 G5 H5 l5 x5 k5 => q (by omega) v σ5 G5 H5 l5 ((xg.trans x1).trans x5) k5
end
end PP
namespace PP
open PySem L2 PySem.Spec PyProof.Rows
/-! ### from the text to the core -/
structure FI where
  ix : Nat
  n : Nat
  dfl : List PyData
  io : Bool
  sc : Bool
structure Sta where
  N : List Str
  sc : Scope
  raw : Option Scope
  fns : List (Str × FI)
  cons : List (Str × PyData)
  sp : Option Nat
def idx (N : List Str) (x : Str) : Option Nat := N.findIdx? (· == x)
theorem idx_get {N : List Str} {x : Str} {i : Nat} (h : idx N x = some i) : N[i]? = some x := by
  obtain ⟨h1, h2, _⟩ := List.findIdx?_eq_some_iff_getElem.mp h
  rw [List.getElem?_eq_getElem h1]
  exact congrArg some (beq_iff_eq.mp h2)
def dbg (x : Str) : Bool := (x == ("__debug__" : Str)) || (x == ("__classdict__" : Str))
def locK (S : Sta) (x : Str) : Bool := match S.sc.names.lookup x with
  | some .local => true
  | some .cell => true
  | some .free => true
  | _ => false
def glK (S : Sta) (x : Str) : Bool := match S.sc.names.lookup x with
  | some .globalImplicit => true
  | _ => false
/-- may the name be stored to here -/
def stOk (S : Sta) (x : Str) : Bool := match S.sc.names.lookup x, S.raw with
  | some .local, _ => true
  | some .cell, none => true
  | some .cell, some sc => sc.names.lookup x == some .cell
  | _, _ => false
def bltNames : List Str := ["len", "sum", "abs", "tuple", "list", "min", "max", "int", "all", "any", "isinstance", "range", "bool", "str", "enumerate", "zip", "sorted", "set"]
structure Dyn (X : Cx) (S : Sta) (cl : Calls) : Prop where
  hN : X.N = S.N
  hsc : X.env.scope = S.sc
  calm : X.calm = true
  nd : S.N.Nodup
  hu : X.A.units + 65 < cLine
  kind : S.sc.kind = .function
  fnC : ∀ x, match S.raw with
    | none => X.fn x = true
    | some sc => X.fn x = (sc.names.lookup x == some .cell)
  blt : ∀ x ∈ bltNames, X.mg x = none
  con : ∀ x d, S.cons.lookup x = some d → ∃ v u, X.mg x = some u ∧ RelV v u ∧ ∀ G, Rep X.K G v d
  fns : ∀ x i, S.fns.lookup x = some i → (∀ j, j ≤ i.dfl.length → Callable X cl x i.ix i.n (i.dfl.drop j)) ∧ ∀ as r o, cl i.ix as = some (r, o) → okR r = true ∧ as.length = i.n
def ofB : Operator → Option O2
  | .Add => some .add
  | .Sub => some .sub
  | .Mult => some .mul
  | .FloorDiv => some .fdiv
  | .Mod => some .mod
  | .LShift => some .shl
  | .RShift => some .shr
  | .BitAnd => some .band
  | .BitOr => some .bor
  | _ => none
def ofC : CmpOp → Option O2
  | .Eq => some .eq
  | .NotEq => some .ne
  | .Lt => some .lt
  | .LtE => some .le
  | .Gt => some .gt
  | .GtE => some .ge
  | .Is => some .is
  | .IsNot => some .isnt
  | .In => some .isin
  | .NotIn => some .notin
theorem ofB_ok {op : Operator} {o : O2} (h : ofB op = some o) : opB o = some op := by
  cases op <;> simp only [ofB, Option.some.injEq, reduceCtorEq] at h <;> subst h <;> rfl
theorem ofC_ok {op : CmpOp} {o : O2} (h : ofC op = some o) : opC o = some op := by
  cases op <;> simp only [ofC, Option.some.injEq, reduceCtorEq] at h <;> subst h <;> rfl
def o1s : List O1 := [.sorted, .len, .sum, .abs, .tuple, .list, .min, .max, .int, .all, .any]
def ofF (x : Str) : Option O1 := o1s.find? fun o => bltOf o == some x
theorem ofF_ok {x : Str} {o : O1} (h : ofF x = some o) : bltOf o = some x := by
  have := List.find?_some h
  exact eq_of_beq this
theorem bltOf_mem {x : Str} {o : O1} (h : bltOf o = some x) : x ∈ bltNames := by
  cases o <;> simp only [bltOf, Option.some.injEq, reduceCtorEq] at h <;> subst h <;> decide
def ofTy (x : Str) : Option O1 := [O1.isint, .isbool, .istuple, .isstr].find? fun o => isTyN o == some x
theorem ofTy_ok {x : Str} {o : O1} (h : ofTy x = some o) : isTyN o = some x := by
  have := List.find?_some h
  exact eq_of_beq this
theorem isTyN_mem {x : Str} {o : O1} (h : isTyN o = some x) : x ∈ bltNames := by
  cases o <;> simp only [isTyN, Option.some.injEq, reduceCtorEq] at h <;> subst h <;> decide
def nmM : B2 → Str
  | .min => "min"
  | .max => "max"
def ofM (x : Str) : Option B2 := if x = ("min" : Str) then some .min else if x = ("max" : Str) then some .max else none
/-- a block's own names with their slots -/
def ownOf (N : List Str) (scope : Scope) : List (Str × Nat) := scope.names.filterMap fun y => match y.2 with
  | .local => (idx N y.1).map fun i => (y.1, i)
  | .cell => (idx N y.1).map fun i => (y.1, i)
  | _ => none
def Sta.blk (S : Sta) (scope : Scope) : Sta := { S with sc := relS scope S.sc, raw := some scope, sp := none }
def isPlainT : Expr → Bool
  | .UnaryOp .Not _ _ => false
  | .BoolOp .. => false
  | .IfExp .. => false
  | .Compare .. => false
  | _ => true
theorem plainT {e : Expr} (h : isPlainT e = true) : ∀ (env : Env) (whole : Sem Value), isTrue e env whole = (do let v ← whole; standAt e.pos; holding [v] (truthy v)) := by
  intro env whole
  cases e <;> first
    | rfl
    | (rename_i op _ _; cases op <;> first | rfl | cases h)
    | cases h
def notSet : Expr → Bool
  | .Set .. => false
  | _ => true
theorem folded {e : Expr} {env : Env} (h : notSet e = true) : ∀ x, foldedSetIterable e env x = pure x := by
  intro x
  cases e <;> first
    | rfl
    | cases h
def compTg : Nat → Sta → Expr → Option Tg
  | 0, _, _ => none
  | n + 1, S, .Name x _ => if stOk S x && !dbg x then (idx S.N x).map Tg.nm else none
  | n + 1, S, .Tuple es _ _ => if es.all notStar then (compTgs n S es).bind fun t => if tgLen t == es.length then some (.tp t) else none else none
  | n + 1, S, .Subscript (.Name x _) (.Constant (.int k) _ _) _ => if locK S x && !dbg x then (idx S.N x).map fun i => .ix i k else none
  | _, _, _ => none
where compTgs : Nat → Sta → List Expr → Option Tg
  | 0, _, _ => none
  | _ + 1, _, [] => some .nil
  | n + 1, S, e :: es => (compTg n S e).bind fun a => (compTgs n S es).map fun b => .cons a b
/-- arguments of a call: the defaults that fill up -/
def fillOf (i : FI) (m : Nat) : Option (List PyData) := if i.n ≤ m + i.dfl.length && decide (m ≤ i.n) then some (i.dfl.drop (m + i.dfl.length - i.n)) else none
mutual
def compE : Nat → Sta → Expr → Option CE
  | 0, _, _ => none
  | n + 1, S, e => match e with
    | .Constant .none _ _ => some (.k .none)
    | .Constant (.bool b) _ _ => some (.k (.bool b))
    | .Constant (.int b) _ _ => some (.k (.int b))
    | .Constant (.str b) _ _ => some (.k (.str b))
    | .Name x _ => if dbg x then none else if locK S x then (idx S.N x).map CE.v else if glK S x then (S.cons.lookup x).map CE.k else none
    | .BinOp a op b _ => (ofB op).bind fun o => (compO n S a).bind fun oa => (compO n S b).map fun ob => mk2 o oa ob
    | .UnaryOp .USub a _ => (compO n S a).map (mk1 .neg)
    | .UnaryOp .Not a _ => (compO n S a).map (mk1 .not)
    | .BoolOp op es _ => compB n S op es
    | .IfExp t a b _ => (compT n S t).bind fun ct => (compE n S a).bind fun ca => (compE n S b).map fun cb => .ite ct ca cb
    | .Compare a [op] [b] _ => if behindInMarks op b then none else (ofC op).bind fun o => (compO n S a).bind fun oa => (compO n S b).map fun ob => mk2 o oa ob
    | .Compare a [op, op'] [b, c] _ => if lastMarks [op, op'] [b, c] then none else (ofC op).bind fun o => (ofC op').bind fun o' => (compE n S a).bind fun ca => (compE n S b).bind fun cb => (compE n S c).map fun cc => .chain o o' ca cb cc
    | .Subscript a (.Slice lo hi none _) _ => (compP n S lo).bind fun cl => (compP n S hi).bind fun ch => match a with
      | .Name x _ => if locK S x && !dbg x then (idx S.N x).map fun i => if S.sp == some i then .slsc i cl ch else .slv i cl ch else none
      | _ => (compE n S a).map fun ca => .sl ca cl ch
    | .Subscript a b _ => if notSlice b then (compO n S a).bind fun oa => (compO n S b).map fun ob => mk2 .ix oa ob else none
    | .Tuple es _ _ => (compA n S es).map CE.tup
    | .List es _ => (compA n S es).map CE.lst
    | .ListComp elt [⟨tg, it, ifs, k⟩] scope _ => if k == 0 then (compC n S elt tg it ifs scope).map fun q => .comp q.1 ((ownOf S.N scope).map (·.2)) q.2.1 q.2.2.1 q.2.2.2 else none
    | .Call (.Name f _) args [] _ => if dbg f then none else if glK S f then compK n S f args else none
    | _ => none
def compO : Nat → Sta → Expr → Option (CE ⊕ Nat)
  | 0, _, _ => none
  | n + 1, S, e => match e with
    | .Name x _ => if dbg x then none else if locK S x then (idx S.N x).map Sum.inr else (compE n S e).map Sum.inl
    | e => (compE n S e).map Sum.inl
def compP : Nat → Sta → Option Expr → Option CE
  | 0, _, _ => none
  | n + 1, S, oe => match oe with
    | none => some (.k .none)
    | some e => (compE n S e).bind fun c => match c with
      | .k .none => none
      | c => some c
def compA : Nat → Sta → List Expr → Option CE
  | 0, _, _ => none
  | n + 1, S, es => match es with
    | [] => some .nil
    | e :: es => if notStar e then (compE n S e).bind fun a => (compA n S es).map fun b => .cons a b else none
def compB : Nat → Sta → BoolOp → List Expr → Option CE
  | 0, _, _, _ => none
  | n + 1, S, op, es => match es with
    | [a] => compE n S a
    | a :: b :: r => (compE n S a).bind fun ca => (compB n S op (b :: r)).map fun cb => match op with
      | .And => .and ca cb
      | .Or => .or ca cb
    | [] => none
def compT : Nat → Sta → Expr → Option CE
  | 0, _, _ => none
  | n + 1, S, e => match e with
    | .UnaryOp .Not a _ => (compT n S a).map fun c => .op1 .not c
    | .BoolOp op es _ => compW n S op es
    | .Compare a [op] [b] _ => if behindInMarks op b then none else (ofC op).bind fun o => (compO n S a).bind fun oa => (compO n S b).map fun ob => mk2 o oa ob
    | .Compare a [op, op'] [b, c] _ => if lastMarks [op, op'] [b, c] then none else (ofC op).bind fun o => (ofC op').bind fun o' => (compE n S a).bind fun ca => (compE n S b).bind fun cb => (compE n S c).map fun cc => .chain o o' ca cb cc
    | e => if isPlainT e then (compO n S e).map (mk1 .truth) else none
def compW : Nat → Sta → BoolOp → List Expr → Option CE
  | 0, _, _, _ => none
  | n + 1, S, op, es => match es with
    | [a] => compT n S a
    | a :: b :: r => (compT n S a).bind fun ca => (compW n S op (b :: r)).map fun cb => match op with
      | .And => .and ca cb
      | .Or => .or ca cb
    | [] => none
def compI : Nat → Sta → Expr → Option CE
  | 0, _, _ => none
  | n + 1, S, e => match e with
    | .Call (.Name f _) [a] [] _ => if f = ("range" : Str) then (if glK S "range" && notStar a then (compE n S a).map fun ca => .rng (.k (.int 0)) ca else none) else compE n S e
    | .Call (.Name f _) [a, b] [] _ => if f = ("range" : Str) then (if glK S "range" && notStar a && notStar b then (compE n S a).bind fun ca => (compE n S b).map fun cb => .rng ca cb else none) else compE n S e
    | .Call (.Name f _) [a, b, c] [] _ => if f = ("range" : Str) then (if glK S "range" && notStar a && notStar b && notStar c then (compE n S a).bind fun ca => (compE n S b).bind fun cb => (compE n S c).map fun cc => .rng3 ca cb cc else none) else compE n S e
    | e => compE n S e
/-- a comprehension: what is walked, the target, the tests, the element -/
def compC : Nat → Sta → Expr → Expr → Expr → List Expr → Scope → Option (CE × Tg × CE × CE)
  | 0, _, _, _, _, _, _ => none
  | n + 1, S, elt, tg, it, ifs, scope =>
    if notSet it && blkC S.N S.sc scope (ownOf S.N scope) && decide (((ownOf S.N scope).map (·.2)).Nodup) && (match (relS scope S.sc).kind with | .function => true | _ => false) then
      (compI n S it).bind fun ci => (compTg n (S.blk scope) tg).bind fun t => if (tgS t).all (fun i => ((ownOf S.N scope).map (·.2)).contains i) then
        (match ifs with
          | [] => some (CE.k (.bool true))
          | [c] => compT n (S.blk scope) c
          | _ => (none : Option CE)).bind fun cc => (compE n (S.blk scope) elt).map fun ce => (ci, t, cc, ce)
      else none
    else none
/-- a call by name -/
def compK : Nat → Sta → Str → List Expr → Option CE
  | 0, _, _, _ => none
  | n + 1, S, f, args => match S.fns.lookup f with
    | some i =>
      if i.sc then match args with
        | [.Name y _] => if locK S y && !dbg y && i.n == 1 && i.dfl.isEmpty then (idx S.N y).map fun j => .callsc i.ix j else none
        | _ => none
      else if i.io then match args with
        | .Name y _ :: es => if locK S y && !dbg y && es.all notStar then (idx S.N y).bind fun j => (compA n S es).bind fun ca => (fillOf i (es.length + 1)).map fun d => .callm i.ix j (appC ca (kL d)) else none
        | _ => none
      else if args.isEmpty || !args.all notStar then none else (compA n S args).bind fun ca => (fillOf i args.length).map fun d => .call i.ix (appC ca (kL d))
    | none => match args with
      | [a] => if notStar a then (ofF f).bind fun o => (compO n S a).map (mk1 o) else none
      | [a, b] =>
        if f = ("isinstance" : Str) then match b with
          | .Name y _ => if glK S y && notStar a then (ofTy y).bind fun o => (compO n S a).map (mk1 o) else none
          | _ => none
        else if notStar a && notStar b then (ofM f).bind fun o => (compE n S a).bind fun ca => (compE n S b).map fun cb => .bi2 o ca cb else none
      | _ => none
end
end PP
namespace PP
open PySem L2 PySem.Spec PyProof.Rows
section
variable {X : Cx} {S : Sta} {cl : Calls} {x : Str}
theorem Dyn.vis (D : Dyn X S cl) (h : locK S x = true) : Vis X.env.scope x := by
  unfold locK at h
  rw [D.hsc]
  unfold Vis
  split at h
  · exact .inl (by assumption)
  · exact .inr (.inl (by assumption))
  · exact .inr (.inr (by assumption))
  · cases h
theorem Dyn.gl (D : Dyn X S cl) (h : glK S x = true) : Gl X x := by
  unfold glK at h
  show X.env.scope.names.lookup x = _
  rw [D.hsc]
  split at h
  · assumption
  · cases h
theorem Dyn.st (D : Dyn X S cl) (h : stOk S x = true) : L2.Loc X.env.scope x ∧ (X.fn x = true ∨ X.env.scope.names.lookup x = some .local) := by
  unfold stOk at h
  have f := D.fnC x
  rw [D.hsc]
  unfold L2.Loc
  split at h
  · exact ⟨.inl (by assumption), .inr (by assumption)⟩
  · rename_i h1 h2
    rw [h2] at f
    exact ⟨.inr h1, .inl f⟩
  · rename_i sc h1 h2
    rw [h2] at f
    exact ⟨.inr h1, .inl (by rw [f]; exact h)⟩
  · cases h
theorem dbg_no (h : dbg x = false) : (x == ("__debug__" : Str)) = false ∧ (x == ("__classdict__" : Str)) = false := by
  unfold dbg at h
  rw [Bool.or_eq_false_iff] at h
  exact h
theorem Dyn.blk (D : Dyn X S cl) {scope : Scope} (hk : (relS scope S.sc).kind = .function) (s : Shared) (H : Hp) (C : Addr) (l : List (Str × Addr)) (fp : List Addr) : Dyn (Blk X scope s H C l fp) (S.blk scope) cl where
  hN := D.hN
  hsc := by
    show relS scope X.env.scope = relS scope S.sc
    rw [D.hsc]
  calm := D.calm
  nd := D.nd
  hu := D.hu
  kind := hk
  fnC := fun x => rfl
  blt := D.blt
  con := D.con
  fns := fun x i h => ⟨fun j hj => by
    obtain ⟨k, a, fd, ps, vs, ds, r⟩ := ((D.fns x i h).1 j hj).ex
    exact ⟨k, a, fd, ps, vs, ds, r⟩, (D.fns x i h).2⟩
end
theorem compTg_ok {X : Cx} {S : Sta} {cl : Calls} (D : Dyn X S cl) : ∀ (n : Nat), (∀ (e : Expr) (t : Tg), compTg n S e = some t → SG X e t) ∧ (∀ (es : List Expr) (t : Tg), es.all notStar = true → compTg.compTgs n S es = some t → SGs X es t) := by
  intro n
  induction n with
  | zero => exact ⟨fun e t h => by simp [compTg] at h, fun es t _ h => by simp [compTg.compTgs] at h⟩
  | succ n ih =>
    refine ⟨fun e t h => ?_, fun es t hs h => ?_⟩
    · unfold compTg at h
      split at h
      · cases h
      · rename_i x p hn
        simp only [Option.ite_none_right_eq_some, Bool.and_eq_true, Bool.not_eq_true', Option.map_eq_some_iff] at h
        obtain ⟨⟨h1, h2⟩, i, h3, rfl⟩ := h
        obtain ⟨a, b⟩ := D.st h1
        have hN := idx_get h3
        rw [← D.hN] at hN
        exact sg_name (by rw [D.hN]; exact D.nd) hN a b
      · rename_i es k p hn
        simp only [Option.ite_none_right_eq_some, Option.bind_eq_some_iff, beq_iff_eq, Option.some.injEq] at h
        obtain ⟨h1, t', h2, h3, rfl⟩ := h
        cases hn
        exact sg_tup D.calm h1 h3 (ih.2 es t' h1 h2)
      · rename_i x p1 k j p2 p hn
        simp only [Option.ite_none_right_eq_some, Bool.and_eq_true, Bool.not_eq_true', Option.map_eq_some_iff] at h
        obtain ⟨⟨h1, h2⟩, i, h3, rfl⟩ := h
        have hN := idx_get h3
        rw [← D.hN] at hN
        exact sg_ix hN (D.vis h1) (dbg_no h2).1 (dbg_no h2).2
      · cases h
    · unfold compTg.compTgs at h
      split at h
      · cases h
      · simp only [Option.some.injEq] at h
        subst h
        exact sgs_nil
      · rename_i e es hn
        cases hn
        simp only [Option.bind_eq_some_iff, Option.map_eq_some_iff] at h
        obtain ⟨a, h1, b, h2, rfl⟩ := h
        rw [List.all_cons, Bool.and_eq_true] at hs
        exact sgs_cons hs.1 (ih.1 e a h1) (ih.2 es b hs.2 h2)
structure COk (cl : Calls) (n : Nat) : Prop where
  E : ∀ X S e c, Dyn X S cl → compE n S e = some c → SE X cl e c
  O : ∀ X S e c, Dyn X S cl → compO n S e = some c → Opd X cl e c
  P : ∀ X S e c, Dyn X S cl → compP n S e = some c → SP X cl e c
  A : ∀ X S es c, Dyn X S cl → compA n S es = some c → SA X cl es c
  B : ∀ X S op es c pos, Dyn X S cl → compB n S op es = some c → SE X cl (.BoolOp op es pos) c
  T : ∀ X S e c, Dyn X S cl → compT n S e = some c → ST X cl (WT X e) c
  W : ∀ X S op es c pos, Dyn X S cl → compW n S op es = some c → ST X cl (WW X (.BoolOp op es pos)) c
  I : ∀ X S e c tg, Dyn X S cl → compI n S e = some c → SI X cl tg e c
  C : ∀ X S elt tg it ifs scope c t cc ce, Dyn X S cl → compC n S elt tg it ifs scope = some (c, t, cc, ce) → (∀ x, foldedSetIterable it X.env x = pure x) ∧ BlkOk X.N X.env.scope scope (ownOf S.N scope) ∧ ((ownOf S.N scope).map (·.2)).Nodup ∧ SI X cl tg it c ∧ (∀ i ∈ tgS t, i ∈ (ownOf S.N scope).map (·.2)) ∧
    (∀ s H C l fp, SG (Blk X scope s H C l fp) tg t) ∧ (∀ s H C l fp, ST (Blk X scope s H C l fp) cl (WPs (Blk X scope s H C l fp) ifs) cc) ∧ ∀ s H C l fp, SD (Blk X scope s H C l fp) cl elt ce
  Kk : ∀ X S f args c p pos, Dyn X S cl → dbg f = false → glK S f = true → compK n S f args = some c → SE X cl (.Call (.Name f p) args [] pos) c
theorem fill_ok {X : Cx} {S : Sta} {cl : Calls} (D : Dyn X S cl) {f : Str} {i : FI} (h : S.fns.lookup f = some i) {m : Nat} {d : List PyData} (hf : fillOf i m = some d) : Callable X cl f i.ix i.n d := by
  unfold fillOf at hf
  simp only [Option.ite_none_right_eq_some, Bool.and_eq_true, decide_eq_true_eq, Option.some.injEq] at hf
  obtain ⟨⟨h1, h2⟩, rfl⟩ := hf
  exact (D.fns f i h).1 _ (by omega)
theorem ofM_ok {f : Str} {o : B2} (h : ofM f = some o) : o = .min ∧ f = "min" ∨ o = .max ∧ f = "max" := by
  unfold ofM at h
  split at h
  · cases h
    exact .inl ⟨rfl, by assumption⟩
  · split at h
    · cases h
      exact .inr ⟨rfl, by assumption⟩
    · cases h
theorem comp_ok (cl : Calls) : ∀ n, COk cl n := by
  intro n
  induction n with
  | zero => constructor <;> intros <;> rename_i h <;> first | (simp [compE] at h; done) | (simp [compO] at h; done) | (simp [compP] at h; done) | (simp [compA] at h; done) | (simp [compB] at h; done) | (simp [compT] at h; done) | (simp [compW] at h; done) | (simp [compI] at h; done) | (simp [compC] at h; done) | (simp [compK] at h; done)
  | succ n ih =>
    have nm : ∀ {X : Cx} {S : Sta} {x : Str} {i : Nat}, Dyn X S cl → idx S.N x = some i → X.N[i]? = some x := fun D h => by
      rw [D.hN]
      exact idx_get h
    constructor
    case E =>
      intro X S e c D h
      unfold compE at h
      split at h
      · cases h
        exact se_k trivial
      · cases h
        exact se_k rfl
      · cases h
        exact se_k rfl
      · cases h
        exact se_k rfl
      · rename_i x p
        split at h
        · cases h
        · rename_i hd
          have hd' := dbg_no (by simpa using hd)
          split at h
          · rename_i hl
            simp only [Option.map_eq_some_iff] at h
            obtain ⟨i, h1, rfl⟩ := h
            exact se_v (nm D h1) (D.vis hl) hd'.1 hd'.2
          · split at h
            · rename_i hg
              simp only [Option.map_eq_some_iff] at h
              obtain ⟨d, h1, rfl⟩ := h
              obtain ⟨v, u, h2, h3, h4⟩ := D.con _ _ h1
              exact se_c (D.gl hg) h2 h3 h4 hd'.1
            · cases h
      · simp only [Option.bind_eq_some_iff, Option.map_eq_some_iff] at h
        obtain ⟨o, h1, oa, h2, ob, h3, rfl⟩ := h
        exact se_bin D.hu (ofB_ok h1) (ih.O _ _ _ _ D h2) (ih.O _ _ _ _ D h3)
      · simp only [Option.map_eq_some_iff] at h
        obtain ⟨oa, h1, rfl⟩ := h
        exact se_neg (ih.O _ _ _ _ D h1)
      · simp only [Option.map_eq_some_iff] at h
        obtain ⟨oa, h1, rfl⟩ := h
        exact se_not (ih.O _ _ _ _ D h1)
      · exact ih.B _ _ _ _ _ _ D h
      · simp only [Option.bind_eq_some_iff, Option.map_eq_some_iff] at h
        obtain ⟨ct, h1, ca, h2, cb, h3, rfl⟩ := h
        exact se_ite (ih.T _ _ _ _ D h1) (ih.E _ _ _ _ D h2) (ih.E _ _ _ _ D h3)
      · split at h
        · cases h
        · rename_i hm
          simp only [Option.bind_eq_some_iff, Option.map_eq_some_iff] at h
          obtain ⟨o, h1, oa, h2, ob, h3, rfl⟩ := h
          exact se_cmp D.hu (ofC_ok h1) (by simpa using hm) (ih.O _ _ _ _ D h2) (ih.O _ _ _ _ D h3)
      · split at h
        · cases h
        · rename_i hm
          simp only [Option.bind_eq_some_iff, Option.map_eq_some_iff] at h
          obtain ⟨o, h1, o', h2, ca, h3, cb, h4, cc, h5, rfl⟩ := h
          exact se_chain D.hu (ofC_ok h1) (ofC_ok h2) (by simpa using hm) (ih.E _ _ _ _ D h3).sd (ih.E _ _ _ _ D h4).sd (ih.E _ _ _ _ D h5).sd
      · simp only [Option.bind_eq_some_iff] at h
        obtain ⟨c1, h1, c2, h2, h3⟩ := h
        split at h3
        · simp only [Option.ite_none_right_eq_some, Bool.and_eq_true, Bool.not_eq_true', Option.map_eq_some_iff] at h3
          obtain ⟨⟨h4, h5⟩, i, h6, h7⟩ := h3
          have hd' := dbg_no h5
          split at h7
          · subst h7
            exact se_slsc (nm D h6) (D.vis h4) hd'.1 hd'.2 (ih.P _ _ _ _ D h1) (ih.P _ _ _ _ D h2)
          · subst h7
            exact se_slv (nm D h6) (D.vis h4) hd'.1 hd'.2 (ih.P _ _ _ _ D h1) (ih.P _ _ _ _ D h2)
        · simp only [Option.map_eq_some_iff] at h3
          obtain ⟨ca, h4, rfl⟩ := h3
          exact se_sl (ih.E _ _ _ _ D h4).sd (ih.P _ _ _ _ D h1) (ih.P _ _ _ _ D h2)
      · split at h
        · rename_i hs
          simp only [Option.bind_eq_some_iff, Option.map_eq_some_iff] at h
          obtain ⟨oa, h2, ob, h3, rfl⟩ := h
          exact se_ix (plainIx hs) (ih.O _ _ _ _ D h2) (ih.O _ _ _ _ D h3)
        · cases h
      · simp only [Option.map_eq_some_iff] at h
        obtain ⟨c, h1, rfl⟩ := h
        exact se_tup (ih.A _ _ _ _ D h1)
      · simp only [Option.map_eq_some_iff] at h
        obtain ⟨c, h1, rfl⟩ := h
        exact se_lst (ih.A _ _ _ _ D h1)
      · simp only [Option.ite_none_right_eq_some, Option.map_eq_some_iff, Prod.exists, beq_iff_eq] at h
        obtain ⟨h0, ci, t, cc, ce, h1, rfl⟩ := h
        subst h0
        obtain ⟨a1, a2, a3, a4, a5, a6, a7, a8⟩ := ih.C _ _ _ _ _ _ _ _ _ _ _ D h1
        exact se_comp D.calm (by rw [D.hN]; exact D.nd) a1 a2 a3 a4 a5 a6 a7 a8
      · split at h
        · cases h
        · rename_i hd
          simp only [Option.ite_none_right_eq_some] at h
          exact ih.Kk _ _ _ _ _ _ _ D (by simpa using hd) h.1 h.2
      · cases h
    case O =>
      intro X S e c D h
      unfold compO at h
      split at h
      · rename_i x p
        split at h
        · cases h
        · rename_i hd
          have hd' := dbg_no (by simpa using hd)
          split at h
          · rename_i hl
            simp only [Option.map_eq_some_iff] at h
            obtain ⟨i, h1, rfl⟩ := h
            exact .v (nm D h1) (D.vis hl) hd'.1 hd'.2
          · simp only [Option.map_eq_some_iff] at h
            obtain ⟨c', h1, rfl⟩ := h
            exact .e (ih.E _ _ _ _ D h1).sd
      · simp only [Option.map_eq_some_iff] at h
        obtain ⟨c', h1, rfl⟩ := h
        exact .e (ih.E _ _ _ _ D h1).sd
    case P =>
      intro X S e c D h
      unfold compP at h
      split at h
      · cases h
        exact .none
      · simp only [Option.bind_eq_some_iff] at h
        obtain ⟨c', h1, h2⟩ := h
        split at h2
        · cases h2
        · rename_i hn
          cases h2
          refine .some (fun d z => ?_) (ih.E _ _ _ _ D h1).sd
          unfold bnd at z
          split at z
          · exact hn rfl
          · cases z
          · cases z
    case A =>
      intro X S es c D h
      unfold compA at h
      split at h
      · cases h
        exact sa_nil
      · simp only [Option.ite_none_right_eq_some, Option.bind_eq_some_iff, Option.map_eq_some_iff] at h
        obtain ⟨hs, a, h1, b, h2, rfl⟩ := h
        exact sa_cons hs (ih.E _ _ _ _ D h1).sd (ih.A _ _ _ _ D h2)
    case B =>
      intro X S op es c pos D h
      unfold compB at h
      split at h
      · exact se_one (ih.E _ _ _ _ D h)
      · simp only [Option.bind_eq_some_iff, Option.map_eq_some_iff] at h
        obtain ⟨ca, h1, cb, h2, rfl⟩ := h
        cases op
        · exact se_and (ih.E _ _ _ _ D h1).sd (ih.B _ _ _ _ _ _ D h2)
        · exact se_or (ih.E _ _ _ _ D h1).sd (ih.B _ _ _ _ _ _ D h2)
      · cases h
    case T =>
      intro X S e c D h
      unfold compT at h
      split at h
      · simp only [Option.map_eq_some_iff] at h
        obtain ⟨ca, h1, rfl⟩ := h
        exact st_not (ih.T _ _ _ _ D h1)
      · exact (ih.W _ _ _ _ _ _ D h).pt
      · split at h
        · cases h
        · rename_i hm
          simp only [Option.bind_eq_some_iff, Option.map_eq_some_iff] at h
          obtain ⟨o, h1, oa, h2, ob, h3, rfl⟩ := h
          exact st_cmp D.hu (ofC_ok h1) (by simpa using hm) (ih.O _ _ _ _ D h2) (ih.O _ _ _ _ D h3)
      · split at h
        · cases h
        · rename_i hm
          simp only [Option.bind_eq_some_iff, Option.map_eq_some_iff] at h
          obtain ⟨o, h1, o', h2, ca, h3, cb, h4, cc, h5, rfl⟩ := h
          exact st_chain D.hu (ofC_ok h1) (ofC_ok h2) (by simpa using hm) (ih.E _ _ _ _ D h3).sd (ih.E _ _ _ _ D h4).sd (ih.E _ _ _ _ D h5).sd
      · split at h
        · rename_i hp
          simp only [Option.map_eq_some_iff] at h
          obtain ⟨oa, h1, rfl⟩ := h
          exact st_truth (fun w => plainT hp _ w) (ih.O _ _ _ _ D h1)
        · cases h
    case W =>
      intro X S op es c pos D h
      unfold compW at h
      split at h
      · exact sw_one (ih.T _ _ _ _ D h)
      · simp only [Option.bind_eq_some_iff, Option.map_eq_some_iff] at h
        obtain ⟨ca, h1, cb, h2, rfl⟩ := h
        cases op
        · exact sw_and (ih.T _ _ _ _ D h1) (ih.W _ _ _ _ _ _ D h2)
        · exact sw_or (ih.T _ _ _ _ D h1) (ih.W _ _ _ _ _ _ D h2)
      · cases h
    case I =>
      intro X S e c tg D h
      have hr : glK S "range" = true → Gl X "range" ∧ X.mg "range" = none := fun z => ⟨D.gl z, D.blt _ (by decide)⟩
      unfold compI at h
      split at h
      · split at h
        · rename_i hf
          subst hf
          simp only [Option.ite_none_right_eq_some, Bool.and_eq_true, Option.map_eq_some_iff] at h
          obtain ⟨⟨h0, hs⟩, ca, h1, rfl⟩ := h
          exact si_rng1 (hr h0).1 (hr h0).2 hs (ih.E _ _ _ _ D h1).sd
        · exact si_e (ih.E _ _ _ _ D h).sd
      · split at h
        · rename_i hf
          subst hf
          simp only [Option.ite_none_right_eq_some, Bool.and_eq_true, Option.bind_eq_some_iff, Option.map_eq_some_iff] at h
          obtain ⟨⟨⟨h0, hs⟩, hs2⟩, ca, h1, cb, h2, rfl⟩ := h
          exact si_rng2 (hr h0).1 (hr h0).2 hs hs2 (ih.E _ _ _ _ D h1).sd (ih.E _ _ _ _ D h2).sd
        · exact si_e (ih.E _ _ _ _ D h).sd
      · split at h
        · rename_i hf
          subst hf
          simp only [Option.ite_none_right_eq_some, Bool.and_eq_true, Option.bind_eq_some_iff, Option.map_eq_some_iff] at h
          obtain ⟨⟨⟨⟨h0, hs⟩, hs2⟩, hs3⟩, ca, h1, cb, h2, cc, h3, rfl⟩ := h
          exact si_rng3 (hr h0).1 (hr h0).2 hs hs2 hs3 (ih.E _ _ _ _ D h1).sd (ih.E _ _ _ _ D h2).sd (ih.E _ _ _ _ D h3).sd
        · exact si_e (ih.E _ _ _ _ D h).sd
      · exact si_e (ih.E _ _ _ _ D h).sd
    case C =>
      intro X S elt tg it ifs scope c t cc ce D h
      unfold compC at h
      simp only [Option.ite_none_right_eq_some, Bool.and_eq_true, decide_eq_true_eq, Option.bind_eq_some_iff, Option.map_eq_some_iff, Prod.mk.injEq, List.all_eq_true] at h
      obtain ⟨⟨⟨⟨h1, h2⟩, h3⟩, h4⟩, ci, h5, t', h6, h7, cc', h8, ce', h9, rfl, rfl, rfl, rfl⟩ := h
      have hk : (relS scope S.sc).kind = .function := by
        split at h4
        · assumption
        · cases h4
      refine ⟨folded h1, ?_, h3, ih.I _ _ _ _ tg D h5, fun i hi => ?_, fun s H C l fp => (compTg_ok (D.blk hk s H C l fp) n).1 _ _ h6, fun s H C l fp => ?_, fun s H C l fp => (ih.E _ _ _ _ (D.blk hk s H C l fp) h9).sd⟩
      · rw [D.hN, D.hsc]
        exact blkOk_by h2
      · simpa using h7 i hi
      · split at h8
        · cases h8
          exact st_nil
        · exact st_one (ih.T _ _ _ _ (D.blk hk s H C l fp) h8)
        · cases h8
    case Kk =>
      intro X S f args c p pos D hd hg h
      have hd' := dbg_no hd
      have hb : ∀ y, y ∈ bltNames → X.mg y = none := D.blt
      unfold compK at h
      split at h
      · rename_i i hi
        have hok := (D.fns f i hi).2
        split at h
        · split at h
          · simp only [Option.ite_none_right_eq_some, Bool.and_eq_true, Bool.not_eq_true', Option.map_eq_some_iff, beq_iff_eq, List.isEmpty_iff] at h
            obtain ⟨⟨⟨⟨h1, h2⟩, h3⟩, h4⟩, j, h5, rfl⟩ := h
            have hd2 := dbg_no h2
            have hC := (D.fns f i hi).1 0 (Nat.zero_le _)
            rw [h3, h4] at hC
            rw [h3] at hok
            exact se_callsc (nm D h5) (D.vis h1) hd2.1 hd2.2 hC hok (D.gl hg) hd'.1
          · cases h
        · split at h
          · split at h
            · simp only [Option.ite_none_right_eq_some, Bool.and_eq_true, Bool.not_eq_true', Option.map_eq_some_iff, Option.bind_eq_some_iff] at h
              obtain ⟨⟨⟨h1, h2⟩, h3⟩, j, h4, ca, h5, d, h6, rfl⟩ := h
              have hd2 := dbg_no h2
              exact se_callm (nm D h4) (D.vis h1) hd2.1 hd2.2 (fill_ok D hi h6) hok (D.gl hg) hd'.1 h3 (ih.A _ _ _ _ D h5)
            · cases h
          · split at h
            · cases h
            · rename_i hne
              simp only [Option.bind_eq_some_iff, Option.map_eq_some_iff] at h
              obtain ⟨ca, h1, d, h2, rfl⟩ := h
              simp only [Bool.or_eq_true, Bool.not_eq_true', not_or, Bool.not_eq_true, Bool.not_eq_false] at hne
              exact se_call (by simpa using hne.1) (fill_ok D hi h2) hok (D.gl hg) hd'.1 hne.2 (ih.A _ _ _ _ D h1)
      · split at h
        · simp only [Option.ite_none_right_eq_some, Option.bind_eq_some_iff, Option.map_eq_some_iff] at h
          obtain ⟨hs, o, h1, oa, h2, rfl⟩ := h
          have h3 := ofF_ok h1
          exact se_b1 D.hu D.calm h3 (D.gl hg) (hb _ (bltOf_mem h3)) hs (ih.O _ _ _ _ D h2)
        · split at h
          · rename_i hf
            subst hf
            split at h
            · simp only [Option.ite_none_right_eq_some, Bool.and_eq_true, Option.bind_eq_some_iff, Option.map_eq_some_iff] at h
              obtain ⟨⟨hs1, hs2⟩, o, h1, oa, h2, rfl⟩ := h
              have h3 := ofTy_ok h1
              exact se_isi h3 (D.gl hg) (hb _ (by decide)) (D.gl hs1) (hb _ (isTyN_mem h3)) hs2 (ih.O _ _ _ _ D h2)
            · cases h
          · simp only [Option.ite_none_right_eq_some, Bool.and_eq_true, Option.bind_eq_some_iff, Option.map_eq_some_iff] at h
            obtain ⟨⟨hs1, hs2⟩, o, h1, ca, h2, cb, h3, rfl⟩ := h
            have h4 := ofM_ok h1
            refine se_bi2 D.calm h4 (D.gl hg) (hb _ ?_) hs1 hs2 (ih.E _ _ _ _ D h2).sd (ih.E _ _ _ _ D h3).sd
            rcases h4 with ⟨_, h4⟩ | ⟨_, h4⟩ <;> rw [h4] <;> decide
        · cases h
end PP
namespace PP
open PySem L2 PySem.Spec PyProof.Rows
theorem sw_gen {elt : Expr} {gs : List Comprehension} {scope : Scope} {p py : Pos} {y : Str} {l : Nat} {env : Env} : swapsWith (.ListComp elt gs scope p) (some (.Name y py)) l env = pure (env.blockKind == .function && env.kindOf y == some .local && py.line == p.line && !(scope.names.any fun (n, k) => n == y && (k == .local || k == .cell))) := rfl
def tsNames (sc : Scope) (ts : List Expr) (line : Nat) : List Str := ts.filterMap fun
    | .Name id pos => if sc.names.lookup id == some .local && pos.line == line then some id else none
    | _ => none
def isStarE : Expr → Bool
  | .Starred .. => true
  | _ => false
theorem isStarE_no {a : Expr} (h : notStar a = true) : isStarE a = false := by
  cases a <;> first
    | rfl
    | cases h
def nsw (sc : Scope) (ts vs : List Expr) : Bool :=
  !(ts.length == 2 || ts.length == 3) || vs.length != ts.length || vs.any isStarE ||
    (tsNames sc ts ((ts.head?.map (·.pos.line)).getD 0)).length != ts.length || (tsNames sc ts ((ts.head?.map (·.pos.line)).getD 0)).eraseDups.length != (tsNames sc ts ((ts.head?.map (·.pos.line)).getD 0)).length || vs.all (foldedForSure 8)
theorem sw_eq {ts vs : List Expr} {k k2 : Nat} {p p2 : Pos} {env : Env} (hk : env.scope.kind = .function) : swappedStores [.Tuple ts k p] (.Tuple vs k2 p2) env =
    if (!(ts.length == 2 || ts.length == 3) || vs.length != ts.length) = true then pure none else if vs.any isStarE = true then pure none else
    if ((tsNames env.scope ts ((ts.head?.map (·.pos.line)).getD 0)).length != ts.length || (tsNames env.scope ts ((ts.head?.map (·.pos.line)).getD 0)).eraseDups.length != (tsNames env.scope ts ((ts.head?.map (·.pos.line)).getD 0)).length) = true then pure none else
    if vs.all (foldedForSure 8) = true then pure none else if vs.all (constantsAlone 8) = true then (do unsupported "assign.tuple-of-constant-expressions:order-of-the-stores"; pure (some (tsNames env.scope ts ((ts.head?.map (·.pos.line)).getD 0)))) else pure (some (tsNames env.scope ts ((ts.head?.map (·.pos.line)).getD 0))) := by
  have hb : env.blockKind = .function := by unfold Env.blockKind; rw [hk]; rfl
  have hn : ∀ b : Bool, (b || (ScopeKind.function != ScopeKind.function)) = b := fun b => by cases b <;> rfl
  unfold swappedStores
  simp only [hb, hn]
  rfl
theorem nsw_ok {ts vs : List Expr} {k k2 : Nat} {p p2 : Pos} {env : Env} (hk : env.scope.kind = .function) (h : nsw env.scope ts vs = true) : swappedStores [.Tuple ts k p] (.Tuple vs k2 p2) env = pure none := by
  rw [sw_eq hk]
  unfold nsw at h
  simp only [Bool.or_eq_true] at h
  split
  · rfl
  · rename_i h1
    simp only [Bool.or_eq_true, not_or] at h1
    split
    · rfl
    · rename_i h2
      split
      · rfl
      · rename_i h3
        simp only [Bool.or_eq_true, not_or] at h3
        split
        · rfl
        · rename_i h4
          rcases h with ((((h | h) | h) | h) | h) | h
          · exact absurd h h1.1
          · exact absurd h h1.2
          · exact absurd h h2
          · exact absurd h h3.1
          · exact absurd h h3.2
          · exact absurd h h4
theorem sw_no {ts : List Expr} {k : Nat} {p : Pos} {e : Expr} {env : Env} (h : ∀ vs k2 p2, e ≠ .Tuple vs k2 p2) : swappedStores [.Tuple ts k p] e env = pure none := by
  cases e <;> first
    | rfl
    | exact absurd rfl (h _ _ _)
theorem sws_tup {ts : List Expr} {k : Nat} {p : Pos} {e : Expr} {l : Nat} {env : Env} : swapsWithSole [.Tuple ts k p] e l env = pure false := by
  cases e <;> rfl
theorem swapped {ts vs : List Expr} {k k2 : Nat} {p p2 : Pos} {env : Env} {ns : List Str} (hk : env.scope.kind = .function) (hl : (!(ts.length == 2 || ts.length == 3) || vs.length != ts.length) = false) (hn : tsNames env.scope ts ((ts.head?.map (·.pos.line)).getD 0) = ns) (hln : ns.length = ts.length) (hd : (ns.eraseDups.length != ns.length) = false)
    (hf : vs.all (foldedForSure 8) = false) (hc : vs.all (constantsAlone 8) = false) (hs : vs.any isStarE = false) : swappedStores [.Tuple ts k p] (.Tuple vs k2 p2) env = pure (some ns) := by
  have e1 : (ns.length != ts.length) = false := by rw [hln]; simp
  rw [sw_eq hk, hn, hl, hf, hc, hs, e1, hd]
  rfl
theorem sws_sub {o i e : Expr} {p : Pos} {l : Nat} {env : Env} (h : isComp e = false) : swapsWithSole [.Subscript o i p] e l env = pure false := by
  cases e <;> first
    | rfl
    | cases h
def swC (S : Sta) (x : Str) (p2 p : Pos) (scope : Scope) : Bool := (S.sc.names.lookup x == some .local) && p2.line == p.line && !(scope.names.any fun (n, k) => n == x && (k == .local || k == .cell))
def par2 (S : Sta) (x y : Str) (px py : Pos) (a b : Expr) : Bool := decide (tsNames S.sc [.Name x px, .Name y py] px.line = [x, y]) && !([a, b].all (foldedForSure 8)) && !([a, b].all (constantsAlone 8)) && notStar a && notStar b && (S.sc.names.lookup x == some .local) && (S.sc.names.lookup y == some .local) && !(x == y)
def par3 (S : Sta) (x y z : Str) (px py pz : Pos) (a b c : Expr) : Bool := decide (tsNames S.sc [.Name x px, .Name y py, .Name z pz] px.line = [x, y, z]) && !([a, b, c].all (foldedForSure 8)) && !([a, b, c].all (constantsAlone 8)) && notStar a && notStar b && notStar c && (S.sc.names.lookup x == some .local) && (S.sc.names.lookup y == some .local) && (S.sc.names.lookup z == some .local) && !(x == y) && !(x == z) && !(y == z)
mutual
def compS : Nat → Sta → Stmt → Option CS
  | 0, _, _ => none
  | n + 1, S, st => match st with
    | .Pass _ => some .pass
    | .Raise _ _ _ => some .fail
    | .Return (some e) _ => match e with
      | .Name x _ => if locK S x && !dbg x then (idx S.N x).map fun i => .ret (.mv i) else (compE n S e).map CS.ret
      | e => (compE n S e).map CS.ret
    | .If e a b _ => (compT n S e).bind fun c => (compSs n S a).bind fun s1 => (compSs n S b).map fun s2 => .ite c s1 s2
    | .For tg it b [] _ => if notSet it then (compI n S it).bind fun c => (compTg n S tg).bind fun t => (compSs n S b).map fun s1 => .for t c s1 else none
    | .While e b [] _ => (compT n S e).bind fun c => (compSs n S b).map fun s1 => .while c s1
    | .Expr e _ => match e with
      | .Call (.Attribute (.Name x _) m p3) [a] [] p4 => if locK S x && !dbg x && notStar a && p3.endLine == p4.line then
          (if m = ("append" : Str) then (idx S.N x).bind fun i => (compE n S a).map fun c => .app i c
          else if m = ("extend" : Str) then (idx S.N x).bind fun i => (compE n S a).map fun c => .ext i c else none) else none
      | .Call (.Name f _) args [] _ => if dbg f then none else if glK S f && (S.fns.lookup f).isSome then (compK n S f args).map CS.drop else none
      | _ => none
    | .Assign [.Name x p2] e _ => if stOk S x && !dbg x then (idx S.N x).bind fun i => match e with
      | .Name y _ => if locK S y && !dbg y then (idx S.N y).map fun j => .asg (.nm i) (.mv j) else (compE n S e).map fun c => .asg (.nm i) c
      | .ListComp elt [⟨tg, it, ifs, k⟩] scope p => if k == 0 then
          (if swC S x p2 p scope then (compC n S elt tg it ifs scope).map fun q => .asg (.nm i) (.comp q.1 ((ownOf S.N scope).map (·.2)) q.2.1 q.2.2.1 q.2.2.2) else (compE n S e).map fun c => .asg (.nm i) c) else none
      | e => if isComp e then none else (compE n S e).map fun c => .asg (.nm i) c
      else none
    | .Assign [.Tuple ts k p2] e _ => match e with
      | .Tuple vs _ _ => if nsw S.sc ts vs then (compTg n S (.Tuple ts k p2)).bind fun t => (compE n S e).bind fun c => (match t with
          | .tp _ => some (.asg t c)
          | _ => none)
        else (match ts, vs with
          | [.Name x px, .Name y py], [a, b] => if par2 S x y px py a b then (idx S.N x).bind fun i => (idx S.N y).bind fun j => (compE n S a).bind fun ca => (compE n S b).map fun cb => .par (.cons (.nm i) (.cons (.nm j) .nil)) (.cons ca (.cons cb .nil)) else none
          | [.Name x px, .Name y py, .Name z pz], [a, b, c] => if par3 S x y z px py pz a b c then (idx S.N x).bind fun i => (idx S.N y).bind fun j => (idx S.N z).bind fun l => (compE n S a).bind fun ca => (compE n S b).bind fun cb => (compE n S c).map fun cc => .par (.cons (.nm i) (.cons (.nm j) (.cons (.nm l) .nil))) (.cons ca (.cons cb (.cons cc .nil))) else none
          | _, _ => none)
      | e => (compTg n S (.Tuple ts k p2)).bind fun t => (compE n S e).bind fun c => (match t with
          | .tp _ => some (.asg t c)
          | _ => none)
    | .Assign [.Subscript (.Name x _) a _] e _ => if locK S x && !dbg x && notSlice a && !isComp e then (idx S.N x).bind fun i => (compE n S a).bind fun ca => (compE n S e).map fun c => .seti i ca c else none
    | _ => none
def compSs : Nat → Sta → List Stmt → Option CS
  | 0, _, _ => none
  | n + 1, S, sts => match sts with
    | [] => some .pass
    | st :: r => (compS n S st).bind fun a => (compSs n S r).map fun b => .seq a b
end
section
variable {X : Cx} {S : Sta} {cl : Calls} {F : Nat}
theorem call_toD {f : Nat} {c : CE} {ρ ρ' : PEnv} {r : Sl} (hok : ∀ as r o, cl f as = some (r, o) → okR r = true) (h : ev cl (.call f c) ρ = some (r, ρ')) : ∃ d, toD r = some d := by
  simp only [ev, bind, Option.bind_eq_some_iff, Option.some.injEq, Prod.exists, Prod.mk.injEq] at h
  obtain ⟨ds, ρ1, e1, r', o, e2, rfl, rfl⟩ := h
  have := hok _ _ _ e2
  cases r' <;> first
    | exact ⟨_, rfl⟩
    | cases this
theorem callm_toD {f i : Nat} {c : CE} {ρ ρ' : PEnv} {r : Sl} (hok : ∀ as r o, cl f as = some (r, o) → okR r = true) (h : ev cl (.callm f i c) ρ = some (r, ρ')) : ∃ d, toD r = some d := by
  simp only [ev, bind, Option.bind_eq_some_iff, Option.some.injEq, Prod.exists, Prod.mk.injEq] at h
  obtain ⟨d0, e0, ds, ρ1, e1, e2⟩ := h
  have fin : ∀ r' : Sl, okR r' = true → ∃ d, toD r' = some d := fun r' z => by
    cases r' <;> first
      | exact ⟨_, rfl⟩
      | cases z
  split at e2
  · simp only [Option.bind_eq_some_iff, Option.some.injEq, Prod.exists, Prod.mk.injEq] at e2
    obtain ⟨r', o, e3, l', e4, rfl, rfl⟩ := e2
    exact fin _ (hok _ _ _ e3)
  · simp only [Option.bind_eq_some_iff, Option.some.injEq, Prod.exists, Prod.mk.injEq] at e2
    obtain ⟨r', o, e3, l', e4, rfl, rfl⟩ := e2
    exact fin _ (hok _ _ _ e3)
  · cases e2
theorem callsc_toD {f i : Nat} {ρ ρ' : PEnv} {r : Sl} (hok : ∀ as r o, cl f as = some (r, o) → okR r = true) (h : ev cl (.callsc f i) ρ = some (r, ρ')) : ∃ d, toD r = some d := by
  simp only [ev] at h
  split at h
  · simp only [bind, Option.bind_eq_some_iff, Option.some.injEq, Prod.exists, Prod.mk.injEq] at h
    obtain ⟨r', o, e3, rfl, rfl⟩ := h
    have := hok _ _ _ e3
    cases r' <;> first
      | exact ⟨_, rfl⟩
      | cases this
  · cases h
theorem compK_toD {n : Nat} {f : Str} {args : List Expr} {c : CE} (D : Dyn X S cl) (hf : (S.fns.lookup f).isSome = true) (h : compK n S f args = some c) {ρ ρ' : PEnv} {r : Sl} (he : ev cl c ρ = some (r, ρ')) : ∃ d, toD r = some d := by
  cases n with
  | zero => simp [compK] at h
  | succ n =>
    unfold compK at h
    split at h
    · rename_i i hi
      have hok : ∀ as r o, cl i.ix as = some (r, o) → okR r = true := fun as r o z => ((D.fns f i hi).2 as r o z).1
      split at h
      · split at h
        · simp only [Option.ite_none_right_eq_some, Option.map_eq_some_iff] at h
          obtain ⟨_, j, _, rfl⟩ := h
          exact callsc_toD hok he
        · cases h
      · split at h
        · split at h
          · simp only [Option.ite_none_right_eq_some, Option.map_eq_some_iff, Option.bind_eq_some_iff] at h
            obtain ⟨_, j, _, ca, _, d, _, rfl⟩ := h
            exact callm_toD hok he
          · cases h
        · split at h
          · cases h
          · simp only [Option.bind_eq_some_iff, Option.map_eq_some_iff] at h
            obtain ⟨ca, h1, d, h2, rfl⟩ := h
            exact call_toD hok he
    · rename_i hi
      rw [hi] at hf
      cases hf
theorem compS_ok (D : Dyn X S cl) (hraw : S.raw = none) (hp : PassesOwn (model X.prog X.w) X.A X.env X.xe) : ∀ n, (∀ st c, compS n S st = some c → SS X cl F st c) ∧ (∀ sts c, compSs n S sts = some c → SSs X cl F sts c) := by
  intro n
  induction n with
  | zero => exact ⟨fun st c h => by simp [compS] at h, fun st c h => by simp [compSs] at h⟩
  | succ n ih =>
    have nm : ∀ {x : Str} {i : Nat}, idx S.N x = some i → X.N[i]? = some x := fun h => by
      rw [D.hN]
      exact idx_get h
    have nd : X.N.Nodup := by
      rw [D.hN]
      exact D.nd
    have C := comp_ok cl n
    have TG := (compTg_ok D n).1
    have hk : X.env.scope.kind = .function := by
      rw [D.hsc]
      exact D.kind
    refine ⟨fun st c h => ?_, fun sts c h => ?_⟩
    · unfold compS at h
      split at h
      · cases h
        exact ss_pass
      · cases h
        exact ss_never
      · split at h
        · split at h
          · rename_i hl
            simp only [Bool.and_eq_true, Bool.not_eq_true'] at hl
            simp only [Option.map_eq_some_iff] at h
            obtain ⟨i, h1, rfl⟩ := h
            have hd := dbg_no hl.2
            exact ss_ret (se_mv (nm h1) (D.vis hl.1) hd.1 hd.2)
          · simp only [Option.map_eq_some_iff] at h
            obtain ⟨c, h1, rfl⟩ := h
            exact ss_ret (C.E _ _ _ _ D h1)
        · simp only [Option.map_eq_some_iff] at h
          obtain ⟨c, h1, rfl⟩ := h
          exact ss_ret (C.E _ _ _ _ D h1)
      · simp only [Option.bind_eq_some_iff, Option.map_eq_some_iff] at h
        obtain ⟨c, h1, s1, h2, s2, h3, rfl⟩ := h
        exact ss_if (C.T _ _ _ _ D h1) (ih.2 _ _ h2) (ih.2 _ _ h3)
      · simp only [Option.ite_none_right_eq_some, Option.bind_eq_some_iff, Option.map_eq_some_iff] at h
        obtain ⟨h0, c, h1, t, h2, s1, h3, rfl⟩ := h
        exact ss_for hp D.calm (folded h0) (C.I _ _ _ _ _ D h1) (TG _ _ h2) (ih.2 _ _ h3)
      · simp only [Option.bind_eq_some_iff, Option.map_eq_some_iff] at h
        obtain ⟨c, h1, s1, h2, rfl⟩ := h
        exact ss_while hp (C.T _ _ _ _ D h1) (ih.2 _ _ h2)
      · split at h
        · simp only [Option.ite_none_right_eq_some, Bool.and_eq_true, Bool.not_eq_true'] at h
          obtain ⟨⟨⟨⟨h1, h2⟩, h3⟩, h4⟩, h5⟩ := h
          have hd := dbg_no h2
          split at h5
          · rename_i hm
            subst hm
            simp only [Option.bind_eq_some_iff, Option.map_eq_some_iff] at h5
            obtain ⟨i, h6, c, h7, rfl⟩ := h5
            exact ss_app (nm h6) (D.vis h1) hd.1 hd.2 h3 h4 (C.E _ _ _ _ D h7).sd
          · split at h5
            · rename_i hm
              subst hm
              simp only [Option.bind_eq_some_iff, Option.map_eq_some_iff] at h5
              obtain ⟨i, h6, c, h7, rfl⟩ := h5
              exact ss_ext (nm h6) (D.vis h1) hd.1 hd.2 h3 h4 (C.E _ _ _ _ D h7).sd
            · cases h5
        · split at h
          · cases h
          · rename_i hd
            simp only [Option.ite_none_right_eq_some, Bool.and_eq_true, Option.map_eq_some_iff] at h
            obtain ⟨⟨h1, h2⟩, c, h3, rfl⟩ := h
            exact ss_drop rfl (C.Kk _ _ _ _ _ _ _ D (by simpa using hd) h1 h3).sd fun ρ ρ' r he => compK_toD D h2 h3 he
        · cases h
      · simp only [Option.ite_none_right_eq_some, Bool.and_eq_true, Bool.not_eq_true', Option.bind_eq_some_iff] at h
        obtain ⟨⟨h1, h2⟩, i, h3, h4⟩ := h
        obtain ⟨hL, hF⟩ := D.st h1
        split at h4
        · split at h4
          · rename_i hl
            simp only [Option.map_eq_some_iff] at h4
            obtain ⟨j, h5, rfl⟩ := h4
            have hd := dbg_no hl.2
            exact ss_set nd (nm h3) hL hF rfl (se_mv (nm h5) (D.vis hl.1) hd.1 hd.2)
          · simp only [Option.map_eq_some_iff] at h4
            obtain ⟨c, h5, rfl⟩ := h4
            exact ss_set nd (nm h3) hL hF rfl (C.E _ _ _ _ D h5)
        · rename_i x p2 pos e elt tg it ifs k scope p
          simp only [Option.ite_none_right_eq_some, beq_iff_eq] at h4
          obtain ⟨h0, h4⟩ := h4
          subst h0
          have hb : X.env.blockKind = .function := by unfold Env.blockKind; rw [hk]; rfl
          have e0 : swapsWith (.ListComp elt [⟨tg, it, ifs, 0⟩] scope p) (some (.Name x p2)) pos.line X.env = pure (swC S x p2 p scope) := by
            rw [sw_gen, hb]
            unfold swC Env.kindOf
            rw [D.hsc]
            rfl
          split at h4
          · rename_i hs
            simp only [Option.map_eq_some_iff, Prod.exists] at h4
            obtain ⟨ci, t, cc, ce, h5, rfl⟩ := h4
            obtain ⟨a1, a2, a3, a4, a5, a6, a7, a8⟩ := C.C _ _ _ _ _ _ _ _ _ _ _ D h5
            have hx : X.env.scope.names.lookup x = some .local := by
              rw [D.hsc]
              unfold swC at hs
              simp only [Bool.and_eq_true, beq_iff_eq] at hs
              exact hs.1.1
            exact ss_setLc nd (nm h3) hx (by rw [e0, hs]) D.calm a1 a2 a3 a4 a5 a6 a7 a8
          · rename_i hs
            simp only [Option.map_eq_some_iff] at h4
            obtain ⟨c, h5, rfl⟩ := h4
            exact ss_set nd (nm h3) hL hF (by rw [e0]; simp only [Bool.not_eq_true] at hs; rw [hs]) (C.E _ _ _ _ D h5)
        · split at h4
          · cases h4
          · rename_i hc
            simp only [Option.map_eq_some_iff] at h4
            obtain ⟨c, h5, rfl⟩ := h4
            exact ss_set nd (nm h3) hL hF (swaps_plain (by simpa using hc)) (C.E _ _ _ _ D h5)
      · split at h
        · split at h
          · rename_i hn
            simp only [Option.bind_eq_some_iff] at h
            obtain ⟨t, h1, c, h2, h3⟩ := h
            split at h3
            · cases h3
              exact ss_asgT sws_tup (nsw_ok hk (by rw [D.hsc]; exact hn)) (TG _ _ h1) (C.E _ _ _ _ D h2).sd
            · cases h3
          · split at h
            · rename_i x px y py a b _
              simp only [Option.ite_none_right_eq_some, Option.bind_eq_some_iff, Option.map_eq_some_iff] at h
              obtain ⟨h0, i, h1, j, h2, ca, h3, cb, h4, rfl⟩ := h
              unfold par2 at h0
              simp only [Bool.and_eq_true, decide_eq_true_eq, Bool.not_eq_true', beq_iff_eq] at h0
              obtain ⟨⟨⟨⟨⟨⟨⟨b1, b2⟩, b3⟩, b4⟩, b5⟩, b6⟩, b7⟩, b8⟩ := h0
              have hne : ¬ x = y := by simpa using b8
              have hij : i ≠ j := fun z => by
                subst z
                have e1 := nm h1
                rw [nm h2] at e1
                exact hne (Option.some.inj e1).symm
              refine ss_par2 D.calm nd (nm h1) (nm h2) hij (by rw [D.hsc]; exact b6) (by rw [D.hsc]; exact b7) b4 b5 (C.E _ _ _ _ D h3) (C.E _ _ _ _ D h4) ?_
              refine swapped hk rfl (by rw [D.hsc]; exact b1) rfl ?_ b2 b3 (by simp [isStarE_no b4, isStarE_no b5])
              simp [List.eraseDups_cons, hne, Ne.symm hne]
            · rename_i x px y py z pz a b c _
              simp only [Option.ite_none_right_eq_some, Option.bind_eq_some_iff, Option.map_eq_some_iff] at h
              obtain ⟨h0, i, h1, j, h2, l, h2', ca, h3, cb, h4, cc, h5, rfl⟩ := h
              unfold par3 at h0
              simp only [Bool.and_eq_true, decide_eq_true_eq, Bool.not_eq_true', beq_iff_eq] at h0
              obtain ⟨⟨⟨⟨⟨⟨⟨⟨⟨⟨⟨b1, b2⟩, b3⟩, b4⟩, b5⟩, b6⟩, b7⟩, b8⟩, b9⟩, b10⟩, b11⟩, b12⟩ := h0
              have n1 : ¬ x = y := by simpa using b10
              have n2 : ¬ x = z := by simpa using b11
              have n3 : ¬ y = z := by simpa using b12
              have ap : ∀ {u v : Str} {i j : Nat}, idx S.N u = some i → idx S.N v = some j → ¬ u = v → i ≠ j := fun h1 h2 hne z => by
                subst z
                have e1 := nm h1
                rw [nm h2] at e1
                exact hne (Option.some.inj e1).symm
              refine ss_par3 D.calm nd (nm h1) (nm h2) (nm h2') (ap h1 h2 n1) (ap h1 h2' n2) (ap h2 h2' n3) (by rw [D.hsc]; exact b7) (by rw [D.hsc]; exact b8) (by rw [D.hsc]; exact b9) b4 b5 b6 (C.E _ _ _ _ D h3) (C.E _ _ _ _ D h4) (C.E _ _ _ _ D h5) ?_
              refine swapped hk rfl (by rw [D.hsc]; exact b1) rfl ?_ b2 b3 (by simp [isStarE_no b4, isStarE_no b5, isStarE_no b6])
              have q1 := Ne.symm n1
              have q2 := Ne.symm n2
              have q3 := Ne.symm n3
              simp [List.eraseDups_cons, List.filter_cons, n1, n2, n3, q1, q2, q3]
            · cases h
        · rename_i hno
          simp only [Option.bind_eq_some_iff] at h
          obtain ⟨t, h1, c, h2, h3⟩ := h
          split at h3
          · cases h3
            exact ss_asgT sws_tup (sw_no fun vs k2 p2 z => hno _ _ _ z) (TG _ _ h1) (C.E _ _ _ _ D h2).sd
          · cases h3
      · simp only [Option.ite_none_right_eq_some, Bool.and_eq_true, Bool.not_eq_true', Option.bind_eq_some_iff, Option.map_eq_some_iff] at h
        obtain ⟨⟨⟨⟨h1, h2⟩, h3⟩, h4⟩, i, h5, ca, h6, c, h7, rfl⟩ := h
        have hd := dbg_no h2
        exact ss_seti h3 (nm h5) (D.vis h1) hd.1 hd.2 (sws_sub h4) (C.E _ _ _ _ D h6).sd (C.E _ _ _ _ D h7).sd
      · cases h
    · unfold compSs at h
      split at h
      · cases h
        exact ss_nil
      · simp only [Option.bind_eq_some_iff, Option.map_eq_some_iff] at h
        obtain ⟨a, h1, b, h2, rfl⟩ := h
        exact ss_cons (ih.1 _ _ h1) (ih.2 _ _ h2)
end
end PP
namespace PP
open PySem L2 PySem.Spec PyProof.Rows
section
variable {K : PySem.W.Frag} {B : Fr} {G H : Hp} {L : List Ent}
theorem ok_pad {v : Option V} : ∀ (m : Nat), Ok K B G L H → Ok K B G (L ++ List.replicate m (none, .un)) H
  | m, ok => by
    have lt : ∀ {n : Nat} {p : Ent}, (L ++ List.replicate m ((none : Option V), Sl.un))[n]? = some p → L[n]? = some p ∨ p = (none, .un) := fun {n p} e => by
      by_cases h : n < L.length
      · rw [List.getElem?_append_left h] at e
        exact .inl e
      · rw [List.getElem?_append_right (by omega), List.getElem?_replicate] at e
        split at e
        · cases e
          exact .inr rfl
        · cases e
    refine ⟨ok.fr, ok.sub, ok.gn, ok.g0, ok.ios, fun n p e => ?_, fun i j p q a e1 e2 o1 o2 => ?_⟩
    · rcases lt e with z | z
      · exact ok.ent n p z
      · subst z
        trivial
    · rcases lt e1 with z | z
      · rcases lt e2 with w | w
        · exact ok.dis i j p q a z w o1 o2
        · subst w
          simp [ownA] at o2
      · subst z
        simp [ownA] at o1
theorem ok_head2 {p q : Ent} {r : List Ent} (h : Ok K B G (p :: q :: r) H) : Ok K B G [p, q] H := by
  refine h.sub' (fun n => n) (fun m n _ _ e => e) fun n hn => ?_
  match n with
  | 0 => rfl
  | 1 => rfl
  | n + 2 => simp at hn; omega
theorem ok_head1 {p : Ent} {r : List Ent} (h : Ok K B G (p :: r) H) : Ok K B G [p] H := by
  refine h.sub' (fun n => n) (fun m n _ _ e => e) fun n hn => ?_
  match n with
  | 0 => rfl
  | n + 1 => simp at hn
end
def start' (vs : List V) (n : Nat) : L2.St := vs.map some ++ List.replicate (n - vs.length) none
theorem zip_pad {vs : List V} {as : List Sl} (n : Nat) (h : vs.length = as.length) : (start' vs n).zip (as ++ List.replicate (n - as.length) .un) = argE vs as ++ List.replicate (n - as.length) ((none : Option V), Sl.un) := by
  unfold start' argE
  rw [List.zip_append (by simp [h]), h]
  congr 1
  generalize n - as.length = m
  induction m with
  | zero => rfl
  | succ m ih =>
    rw [List.replicate_succ, List.replicate_succ, List.replicate_succ, List.zip_cons_cons, ih]
/-- a def of the text, ready to be called: its address, its data, its defaults -/
structure DefA (K : PySem.W.Frag) (mg : Str → Option Value) (x : Str) (st : Stmt) (N ps : List Str) (dfl : List PyData) : Prop where
  ex : ∃ (f : Addr) (fd : FuncData) (dvs : List V), FunD K x x (defArgs st) (defBody st) (defScope st) dvs [] f fd ∧ mg x = some (.ref f) ∧ FnScope N ps (defScope st) ∧
    ∀ j, j ≤ dfl.length → ∃ (vs : List V) (ds : List Value), Vals vs ds ∧ Binds K fd ps ds ∧ ∀ G, Reps K G vs (dfl.drop j)
/-- all that is told of one def -/
structure FD where
  x : Str
  st : Stmt
  N : List Str
  ps : List Str
  fi : FI
  body : CS
def FD.sta (d : FD) (fns : List (Str × FI)) (cons : List (Str × PyData)) : Sta := ⟨d.N, defScope d.st, none, fns, cons, if d.fi.sc then some 0 else none⟩
def fnsOf (ds : List FD) : List (Str × FI) := ds.map fun d => (d.x, d.fi)
def tabOf (ds : List FD) : List Fn := ds.map fun d => ⟨d.ps.length, d.N.length, d.fi.io, d.body⟩
/-- the static look at one def -/
def FD.ok (d : FD) (i : Nat) (fns : List (Str × FI)) (cons : List (Str × PyData)) : Prop :=
  d.fi.ix = i ∧ d.fi.n = d.ps.length ∧ compSs 60 (d.sta fns cons) (defBody d.st) = some d.body ∧ d.N.Nodup ∧ (defScope d.st).kind = .function
theorem okR_run {F : Nat} {Γ : List Fn} {k f : Nat} {as : List Sl} {r : Sl} {o : Option (List PyData)} (h : run F Γ k f as = some (r, o)) : okR r = true ∧ ∃ fn, Γ[f]? = some fn ∧ as.length = fn.ps := by
  cases k with
  | zero => simp [run] at h
  | succ k =>
    simp only [run, bind, Option.bind_eq_some_iff] at h
    obtain ⟨fn, h1, h2⟩ := h
    simp only [Option.ite_none_right_eq_some, beq_iff_eq, Option.bind_eq_some_iff] at h2
    obtain ⟨h3, o', h4, h5⟩ := h2
    refine ⟨?_, fn, h1, h3⟩
    cases o' <;> simp only [endRun, Option.ite_none_right_eq_some] at h5
    · obtain ⟨h6, h7⟩ := h5
      split at h7
      · split at h7
        · cases h7
          exact h6
        · cases h7
      · cases h7
        exact h6
    · obtain ⟨h6, h7⟩ := h5
      split at h7
      · split at h7
        · cases h7
          exact h6
        · cases h7
      · cases h7
        exact h6
section
variable {P : Program} {w : World} {K : PySem.W.Frag} {mg : Str → Option Value} {base : Heap} {F : Nat} {ds : List FD} {cons : List (Str × PyData)}
/-- how a body's end answers the promise -/
theorem end_ok {B : Fr} {G H : Hp} {vs : List V} {as : List Sl} {v : V} {r r' : Sl} {io : Bool} {ρ' : PEnv} {σ' : L2.St} {o : Option (List PyData)} (hl : σ'.length = ρ'.length) (hio : ∀ a, B.IO a ↔ ∃ l, as.head? = some (.io l) ∧ vs.head? = some (.ref a)) (he : endRun io r ρ' = some (r', o)) (k : Ok K B G ((some v, r) :: σ'.zip ρ') H) : r' = r ∧ Ok K B G ((some v, r) :: backL vs o) H := by
  unfold endRun at he
  simp only [Option.ite_none_right_eq_some] at he
  obtain ⟨h1, h2⟩ := he
  split at h2
  · split at h2
    · rename_i l ρ2
      cases h2
      cases σ' with
      | nil => simp at hl
      | cons v0 σ2 =>
        refine ⟨rfl, ?_⟩
        have k2 : Ok K B G ((some v, r) :: (v0, .io l) :: σ2.zip ρ2) H := k
        have k3 := ok_head2 k2
        obtain ⟨a, xs, e, hI, _⟩ := k3.ent 1 _ rfl
        obtain ⟨m, h3, h4⟩ := (hio a).mp hI
        have e2 : v0 = some (.ref a) := e
        subst e2
        show Ok K B G ((some v, r) :: [(vs.head?, .io l)]) H
        rw [h4]
        exact k3
    · cases h2
  · cases h2
    exact ⟨rfl, ok_head1 k⟩
theorem fn_ok {k : Nat} {d : FD} {i : Nat} (hd : ds[i]? = some d) (hok : d.ok i (fnsOf ds) cons) (hblt : ∀ x ∈ bltNames, mg x = none)
    (hcon : ∀ x v, cons.lookup x = some v → ∃ u z, mg x = some z ∧ RelV u z ∧ ∀ G, Rep K G u v)
    (hA : ∀ (j : Nat) (e : FD), ds[j]? = some e → DefA K mg e.x e.st e.N e.ps e.fi.dfl) (hfd : ∀ (j : Nat) (e : FD), ds[j]? = some e → e.fi.ix = j ∧ e.fi.n = e.ps.length)
    (ih : ∀ (j : Nat) (e : FD) (f : Addr) (fd : FuncData) (dvs : List V), ds[j]? = some e → FunD K e.x e.x (defArgs e.st) (defBody e.st) (defScope e.st) dvs [] f fd → FnScope e.N e.ps (defScope e.st) → FnOk P w K mg base CX0 k f fd e.ps (spF K (run F (tabOf ds) k) j e.ps.length))
    {f : Addr} {fd : FuncData} {dvs : List V} (FDf : FunD K d.x d.x (defArgs d.st) (defBody d.st) (defScope d.st) dvs [] f fd) (Sc : FnScope d.N d.ps (defScope d.st)) :
    FnOk P w K mg base CX0 (k + 1) f fd d.ps (spF K (run F (tabOf ds) (k + 1)) i d.ps.length) := by
  obtain ⟨h1, h2, hcomp, hnd, hkind⟩ := hok
  refine FDf.ok Sc (fun vs H Q E h => h.1) (fun cdv A outer s H vs Q E hr h => ?_)
  obtain ⟨hvl, B, as, r, o, hal, hH, hio, ok, hrun, post⟩ := h
  -- the pure run
  have hΓ : (tabOf ds)[i]? = some ⟨d.ps.length, d.N.length, d.fi.io, d.body⟩ := by
    unfold tabOf
    rw [List.getElem?_map, hd]
    rfl
  simp only [run, bind, hΓ, Option.bind_some] at hrun
  simp only [Option.ite_none_right_eq_some, beq_iff_eq, Option.bind_eq_some_iff] at hrun
  obtain ⟨hps, out, hex, hend⟩ := hrun
  -- the context
  let X : Cx := (cxOf CX0 P w K mg base d.N d.x (defScope d.st) f cdv A outer s H E).nox
  have hrX : Room k X.A := hr
  have D : Dyn X (d.sta (fnsOf ds) cons) (run F (tabOf ds) k) := {
    hN := rfl
    hsc := rfl
    calm := rfl
    nd := hnd
    hu := by
      have := hrX.un
      omega
    kind := hkind
    fnC := fun x => rfl
    blt := hblt
    con := fun x v hx => by
      obtain ⟨u, z, a1, a2, a3⟩ := hcon x v hx
      exact ⟨u, z, a1, a2, a3⟩
    fns := fun x fi hx => by
      have hx' : (fnsOf ds).lookup x = some fi := hx
      obtain ⟨j, e, hj, hex', hfi⟩ : ∃ (j : Nat) (e : FD), ds[j]? = some e ∧ e.x = x ∧ e.fi = fi := by
        have key : ∀ (ds : List FD), (fnsOf ds).lookup x = some fi → ∃ (j : Nat) (e : FD), ds[j]? = some e ∧ e.x = x ∧ e.fi = fi := by
          intro ds
          induction ds with
          | nil => intro h; simp [fnsOf] at h
          | cons e ds ih =>
            intro h
            unfold fnsOf at h
            rw [List.map_cons, List.lookup_cons] at h
            split at h
            · rename_i hb
              cases h
              exact ⟨0, e, rfl, (eq_of_beq hb).symm, rfl⟩
            · obtain ⟨j, e', a, b, c⟩ := ih h
              exact ⟨j + 1, e', by simpa using a, b, c⟩
        exact key ds hx'
      subst hex' hfi
      obtain ⟨hix, hn⟩ := hfd j e hj
      obtain ⟨f', fd', dvs', F', m', Sc', hb'⟩ := (hA j e hj).ex
      have G' := ih j e f' fd' dvs' hj F' Sc'
      refine ⟨fun m hm => ?_, fun as' r' o' hr' => ?_⟩
      · obtain ⟨vs', ds', b1, b2, b3⟩ := hb' m hm
        rw [hix, hn]
        exact ⟨k, f', fd', e.ps, vs', ds', G', hrX, m', F'.kp, b2, b1, b3⟩
      · obtain ⟨c1, fn, c2, c3⟩ := okR_run hr'
        refine ⟨c1, ?_⟩
        rw [hix] at c2
        unfold tabOf at c2
        rw [List.getElem?_map, hj] at c2
        cases c2
        rw [hn]
        exact c3 }
  have S := (compS_ok (F := F) D rfl PassesOwn.never 60).2 _ _ hcomp
  refine ⟨WSs X (defBody d.st), (pss_W X _).nox, ?_⟩
  -- the slots at the entry
  have hst : L2.start d.N vs = start' vs d.N.length := rfl
  have hlen : d.ps.length ≤ d.N.length := by
    have := Sc.pre
    have h3 : (d.N.take d.ps.length).length = d.ps.length := by rw [this]
    rw [List.length_take] at h3
    omega
  have hz : (L2.start d.N vs).zip (as ++ List.replicate (d.N.length - d.ps.length) .un) = argE vs as ++ List.replicate (d.N.length - d.ps.length) ((none : Option V), Sl.un) := by
    rw [hst, ← hps]
    exact zip_pad _ hal
  have ok0 : Ok K B B.G0 ([] ++ (L2.start d.N vs).zip (as ++ List.replicate (d.N.length - d.ps.length) .un)) H := by
    rw [List.nil_append, hz]
    exact ok_pad (v := none) _ ok
  have hl0 : (L2.start d.N vs).length = (as ++ List.replicate (d.N.length - d.ps.length) Sl.un).length := by
    unfold L2.start
    simp only [List.length_append, List.length_map, List.length_replicate]
    omega
  refine S B B.G0 H [] _ _ out _ hl0 hex ok0 ?_
  cases out with
  | nx ρ' =>
    intro hn σ' G' H' l' x' k'
    have k2 : Ok K B G' (σ'.zip ρ') H' := k'
    obtain ⟨e1, k3⟩ := end_ok l' hio hend (k2.consR .non)
    subst e1
    exact post _ G' H' k3
  | rt r' ρ' =>
    intro hn v σ' G' H' l' x' k'
    have k2 : Ok K B G' ((some v, r') :: σ'.zip ρ') H' := k'
    obtain ⟨e1, k3⟩ := end_ok l' hio hend k2
    subst e1
    exact post _ G' H' k3
/-- all defs, to any depth -/
theorem fns_ok (hok : ∀ (i : Nat) (d : FD), ds[i]? = some d → d.ok i (fnsOf ds) cons) (hblt : ∀ x ∈ bltNames, mg x = none)
    (hcon : ∀ x v, cons.lookup x = some v → ∃ u z, mg x = some z ∧ RelV u z ∧ ∀ G, Rep K G u v)
    (hA : ∀ (j : Nat) (e : FD), ds[j]? = some e → DefA K mg e.x e.st e.N e.ps e.fi.dfl) :
    ∀ (k : Nat) (i : Nat) (d : FD) (f : Addr) (fd : FuncData) (dvs : List V), ds[i]? = some d → FunD K d.x d.x (defArgs d.st) (defBody d.st) (defScope d.st) dvs [] f fd → FnScope d.N d.ps (defScope d.st) → FnOk P w K mg base CX0 k f fd d.ps (spF K (run F (tabOf ds) k) i d.ps.length) := by
  intro k
  induction k with
  | zero =>
    intro i d f fd dvs hd Ff Sc
    exact ⟨fun vs H Q E h => h.1, fun A outer s H args us vs Q E hr he hb hv h => by
      obtain ⟨_, B, as, r, o, _, _, _, _, hrun, _⟩ := h
      simp [run] at hrun⟩
  | succ k ih =>
    intro i d f fd dvs hd Ff Sc
    exact fn_ok hd (hok i d hd) hblt hcon hA (fun j e hj => ⟨(hok j e hj).1, (hok j e hj).2.1⟩) ih Ff Sc
end
/-- the law's own promise, from the pure run -/
def spLaw (F : Nat) (Γ : List Fn) (k i : Nat) (K : PySem.W.Frag) : Sp := spF K (run F Γ k) i 1
theorem law_sp {F : Nat} {Γ : List Fn} {k i : Nat} {K : PySem.W.Frag} {H : Hp} {a : Addr} {ns : List Int} (hS : SqL K H a (ns.map V.int)) (h : run F Γ k i [.sc ns] = some (.sh (.bool true), none)) : spLaw F Γ k i K [.ref a] H (fun v _ => v = .bl true) (fun _ _ _ => False) := by
  refine ⟨rfl, ⟨H, H, fun _ => False⟩, [.sc ns], _, _, rfl, rfl, fun b => ⟨fun z => z.elim, fun ⟨l, z, _⟩ => by simp at z⟩, ?_, h, fun v G' H' k => ?_⟩
  · refine ⟨fun a o e _ => e, Evl.Ex.refl H, fun a o e => .inl e, Evl.Ex.refl H, fun a i => i.elim, fun n p e => ?_, fun m n p q b e1 e2 o1 o2 => ?_⟩
    · cases n with
      | zero =>
        simp [argE] at e
        subst e
        exact ⟨a, rfl, hS⟩
      | succ n => simp [argE] at e
    · cases m with
      | zero =>
        simp [argE] at e1
        subst e1
        simp [ownA] at o1
      | succ m => simp [argE] at e1
  · have r := k.rep
    cases r
    rfl
end PP
namespace PP
open PySem L2 PySem.Spec PyProof.Rows
/-! ### what the top leaves, told by names -/
def dvOf : PyData → He.Dv
  | .bool b => .bl b
  | .int i => .int i
  | .str s => .str s
  | _ => .non
def litD : PyData → Bool
  | .none => true
  | .bool _ => true
  | .int _ => true
  | .str _ => true
  | _ => false
theorem dvOf_rep {K : PySem.W.Frag} {G : Hp} : ∀ {d : PyData}, litD d = true → Rep K G ((dvOf d).v K) d
  | .none, _ => .non
  | .bool b, _ => .bl b
  | .int i, _ => .int i
  | .str s, _ => .str s
  | .list _, h => by cases h
  | .tuple _, h => by cases h
  | .dict _, h => by cases h
theorem dvOf_reps {K : PySem.W.Frag} {G : Hp} : ∀ {ds : List PyData}, ds.all litD = true → Reps K G ((ds.map dvOf).map (He.Dv.v K)) ds
  | [], _ => .nil
  | d :: ds, h => by
    rw [List.all_cons, Bool.and_eq_true] at h
    exact .cons (dvOf_rep h.1) (dvOf_reps h.2)
def FD.dd (d : FD) : He.DefD := ⟨(d.x, none), d.x, d.x, defArgs d.st, defBody d.st, defScope d.st, d.fi.dfl.map dvOf, []⟩
/-- how a def's arguments bind, whatever stands behind -/
def FD.bnd (d : FD) : Prop := ∀ (K : PySem.W.Frag) (f : Addr) (fd : FuncData) (dvs : List V), dvs.length = d.fi.dfl.length → FunD K d.x d.x (defArgs d.st) (defBody d.st) (defScope d.st) dvs [] f fd → ∀ j, j ≤ d.fi.dfl.length → ∃ ds, Vals (dvs.drop j) ds ∧ Binds K fd d.ps ds
structure FD.good (d : FD) (i : Nat) (fns : List (Str × FI)) (cons : List (Str × PyData)) : Prop where
  ok : d.ok i fns cons
  sc : FnScope d.N d.ps (defScope d.st)
  bnd : d.bnd
  lit : d.fi.dfl.all litD = true
def conFa : Str × PyData → He.Fa
  | (x, .int i) => .int x i
  | (x, .str s) => .str x s
  | (x, _) => .keep x
def isCon : PyData → Bool
  | .int _ => true
  | .str _ => true
  | _ => false
def allFa (ds : List FD) (cons : List (Str × PyData)) : List He.Fa := ds.map (fun d => .glo d.x) ++ bltNames.map .free ++ cons.map conFa
theorem lookup_mem {α : Type} {x : Str} {v : α} : ∀ {l : List (Str × α)}, l.lookup x = some v → (x, v) ∈ l
  | [], h => by cases h
  | (y, w) :: l, h => by
    rw [List.lookup_cons] at h
    split at h
    · rename_i e
      cases h
      rw [eq_of_beq e]
      exact List.mem_cons_self ..
    · exact List.mem_cons_of_mem _ (lookup_mem h)
section
variable {P : Program} {w : World} {K : PySem.W.Frag} {h : Heap} {mg : Str → Option Value} {ds : List FD} {cons : List (Str × PyData)}
theorem says_mem {fa : List He.Fa} {fn : List He.DefD} (c : He.SaysD fa fn K) {f : He.Fa} (m : f ∈ fa) : f.ok K = true := by
  obtain ⟨i, hi⟩ := List.getElem?_of_mem m
  exact c.fact i hi
theorem law_facts (X : K.In h) (G : h.Ns mainGlobals mg) (c : He.SaysD (allFa ds cons) (ds.map FD.dd) K) (hg : ∀ (i : Nat) (d : FD), ds[i]? = some d → d.good i (fnsOf ds) cons) (hcons : cons.all (fun p => isCon p.2) = true)
    {fu k li : Nat} {dl : FD} (hl : ds[li]? = some dl) (hx : dl.x = "law") (hps : dl.ps = [("script" : Str)]) (hbA : ∀ (K : PySem.W.Frag) (f : Addr) (fd : FuncData), FunD K "law" "law" (defArgs dl.st) (defBody dl.st) (defScope dl.st) [] [] f fd → ∀ (s : Shared) (us : List Value), us.length = 1 → BindsTo s fd ⟨us, []⟩ ([("script" : Str)].zip us)) (hdf : dl.fi.dfl = []) {fa : Addr} (hfa : mg "law" = some (.ref fa)) (Γ : List Fn) (hΓ : Γ = tabOf ds) :
    ∃ fd : FuncData, (∀ (s : Shared) (v : Value), BindsTo s fd ⟨[v], []⟩ [("script", v)]) ∧ ∀ base : Heap, K.In base → base.Ns mainGlobals mg → FnOk P w K mg base CX0 k fa fd ["script"] (spLaw fu Γ k li K) := by
  subst hΓ
  have inFa : ∀ f, f ∈ allFa ds cons → f.ok K = true := fun f m => says_mem c m
  have hblt : ∀ x ∈ bltNames, mg x = none := fun x m => He.free_ok X G (inFa _ (by
    unfold allFa
    rw [List.mem_append, List.mem_append]
    exact .inl (.inr (List.mem_map_of_mem m))))
  have hcon : ∀ x v, cons.lookup x = some v → ∃ u z, mg x = some z ∧ RelV u z ∧ ∀ G, Rep K G u v := fun x v e => by
    have m := lookup_mem e
    have m2 : conFa (x, v) ∈ allFa ds cons := by
      unfold allFa
      rw [List.mem_append]
      exact .inr (List.mem_map_of_mem m)
    have hc := List.all_eq_true.mp hcons _ m
    cases v <;> simp only [isCon, Bool.false_eq_true] at hc
    · rename_i i
      obtain ⟨t, e2⟩ := He.int_ok X G (inFa _ m2)
      exact ⟨.int i, _, e2, ⟨t, rfl⟩, fun G => .int i⟩
    · rename_i s
      obtain ⟨t, e2⟩ := He.str_ok X G (inFa _ m2)
      exact ⟨.str s, _, e2, ⟨t, rfl⟩, fun G => .str s⟩
  have hfun : ∀ (j : Nat) (e : FD), ds[j]? = some e → ∃ fd, FunD K e.x e.x (defArgs e.st) (defBody e.st) (defScope e.st) ((e.fi.dfl.map dvOf).map (He.Dv.v K)) [] (He.ga K e.x) fd ∧ mg e.x = some (.ref (He.ga K e.x)) := fun j e hj => by
    have h2 : (ds.map FD.dd)[j]? = some e.dd := by
      rw [List.getElem?_map, hj]
      rfl
    obtain ⟨fd, F⟩ := c.def_ j h2
    have m2 : He.Fa.glo e.x ∈ allFa ds cons := by
      unfold allFa
      rw [List.mem_append, List.mem_append]
      exact .inl (.inl (List.mem_map.mpr ⟨e, List.mem_of_getElem? hj, rfl⟩))
    exact ⟨fd, F, He.glo_ok X G (inFa _ m2)⟩
  have hA : ∀ (j : Nat) (e : FD), ds[j]? = some e → DefA K mg e.x e.st e.N e.ps e.fi.dfl := fun j e hj => by
    obtain ⟨fd, F, hm⟩ := hfun j e hj
    obtain ⟨_, sc, bn, lt⟩ := hg j e hj
    refine ⟨_, fd, _, F, hm, sc, fun n hn => ?_⟩
    obtain ⟨vs, h1, h2⟩ := bn K _ fd _ (by simp) F n hn
    refine ⟨_, vs, h1, h2, fun G => ?_⟩
    rw [← List.map_drop, ← List.map_drop]
    refine dvOf_reps ?_
    rw [List.all_eq_true] at lt ⊢
    exact fun z hz => lt z (List.mem_of_mem_drop hz)
  obtain ⟨fd, F, hm⟩ := hfun li dl hl
  rw [hx] at hm
  have e := hfa.symm.trans hm
  have e2 : fa = He.ga K "law" := by
    injection e with e
    injection e with e
  obtain ⟨_, sc, bn, lt⟩ := hg li dl hl
  refine ⟨fd, fun s v => ?_, fun base _ _ => ?_⟩
  · rw [hdf, hx] at F
    exact hbA K _ fd F s [v] rfl
  · have r := fns_ok (P := P) (w := w) (base := base) (F := fu) (fun i d hd => (hg i d hd).ok) hblt hcon hA k li dl _ fd _ hl F sc
    rw [hps, hx] at r
    rw [e2]
    exact r
end
end PP
namespace PP
open PySem
/-! ### reading a core by what holds behind it -/
section
variable {cl : Calls} {F : Nat}
def Ze (cl : Calls) (e : CE) (ρ : PEnv) (Q : Sl → PEnv → Prop) : Prop := ∃ r ρ', ev cl e ρ = some (r, ρ') ∧ Q r ρ'
def Za (cl : Calls) (e : CE) (ρ : PEnv) (Q : List PyData → PEnv → Prop) : Prop := ∃ r ρ', evA cl e ρ = some (r, ρ') ∧ Q r ρ'
def Zp (cl : Calls) (e : CE) (ρ : PEnv) (Q : List Sl → PEnv → Prop) : Prop := ∃ r ρ', evP cl e ρ = some (r, ρ') ∧ Q r ρ'
def Zt (cl : Calls) (e : CE) (ρ : PEnv) (Q : Bool → PEnv → Prop) : Prop := ∃ r ρ', tst cl e ρ = some (r, ρ') ∧ Q r ρ'
def Zo (o : Option Out) (N : PEnv → Prop) (R : Sl → PEnv → Prop) : Prop := ∃ x, o = some x ∧ match x with
  | .nx ρ => N ρ
  | .rt r ρ => R r ρ
def Zx (cl : Calls) (F : Nat) (s : CS) (ρ : PEnv) (N : PEnv → Prop) (R : Sl → PEnv → Prop) : Prop := Zo (ex cl F s ρ) N R
/-- what is known of a value -/
def Is {α : Type} (o : Option α) (Q : α → Prop) : Prop := ∃ x, o = some x ∧ Q x
@[simp] theorem is_some {α : Type} {x : α} {Q : α → Prop} : Is (some x) Q ↔ Q x := by simp [Is]
@[simp] theorem is_none {α : Type} {Q : α → Prop} : Is none Q ↔ False := by simp [Is]
theorem is_map {α β : Type} {o : Option α} {f : α → β} {Q : β → Prop} : Is (o.map f) Q ↔ Is o fun x => Q (f x) := by cases o <;> simp
theorem is_bind {α β : Type} {o : Option α} {f : α → Option β} {Q : β → Prop} : Is (o.bind f) Q ↔ Is o fun x => Is (f x) Q := by cases o <;> simp
theorem is_if {α : Type} {c : Prop} [Decidable c] {o : Option α} {Q : α → Prop} : Is (if c then o else none) Q ↔ c ∧ Is o Q := by split <;> simp [*]
variable {ρ : PEnv} {Q : Sl → PEnv → Prop}
@[simp] theorem z_k {d : PyData} : Ze cl (.k d) ρ Q ↔ Q (.sh d) ρ := by
  simp only [Ze, ev, Option.some.injEq, Prod.mk.injEq]
  exact ⟨fun ⟨_, _, ⟨rfl, rfl⟩, q⟩ => q, fun q => ⟨_, _, ⟨rfl, rfl⟩, q⟩⟩
@[simp] theorem z_v {i : Nat} : Ze cl (.v i) ρ Q ↔ Is (rdv ρ i) fun p => Q p.1 p.2 := by simp [Ze, ev, Is]
@[simp] theorem z_mv {i : Nat} : Ze cl (.mv i) ρ Q ↔ Is (rmv ρ i) fun p => Q p.1 p.2 := by simp [Ze, ev, Is]
@[simp] theorem z_op1 {o : O1} {a : CE} : Ze cl (.op1 o a) ρ Q ↔ Ze cl a ρ fun r ρ1 => Is (toD r) fun d => Is (op1 o d) fun z => Q z ρ1 := by
  simp only [Ze, ev, bind, Option.bind_eq_some_iff, Is, Prod.exists, Option.some.injEq, Prod.mk.injEq]
  constructor
  · rintro ⟨_, _, ⟨r, ρ1, h1, d, h2, z, h3, rfl, rfl⟩, q⟩
    exact ⟨r, _, h1, d, h2, z, h3, q⟩
  · rintro ⟨r, ρ1, h1, d, h2, z, h3, q⟩
    exact ⟨z, ρ1, ⟨r, ρ1, h1, d, h2, z, h3, rfl, rfl⟩, q⟩
@[simp] theorem z_op1v {o : O1} {i : Nat} : Ze cl (.op1v o i) ρ Q ↔ Is (peek ρ i) fun d => Is (op1 o d) fun z => Q z ρ := by
  simp only [Ze, ev, bind, Option.bind_eq_some_iff, Is, Prod.exists, Option.some.injEq, Prod.mk.injEq]
  constructor
  · rintro ⟨_, _, ⟨d, h2, z, h3, rfl, rfl⟩, q⟩
    exact ⟨d, h2, z, h3, q⟩
  · rintro ⟨d, h2, z, h3, q⟩
    exact ⟨z, ρ, ⟨d, h2, z, h3, rfl, rfl⟩, q⟩
@[simp] theorem z_op2 {o : O2} {a b : CE} : Ze cl (.op2 o a b) ρ Q ↔ Ze cl a ρ fun r ρ1 => Is (toD r) fun x => Ze cl b ρ1 fun r2 ρ2 => Is (toD r2) fun y => Is (op2 o x y) fun z => Q z ρ2 := by
  simp only [Ze, ev, bind, Option.bind_eq_some_iff, Is, Prod.exists, Option.some.injEq, Prod.mk.injEq]
  constructor
  · rintro ⟨_, _, ⟨r, ρ1, h1, d, h2, r2, ρ2, h3, y, h4, z, h5, rfl, rfl⟩, q⟩
    exact ⟨r, _, h1, d, h2, r2, _, h3, y, h4, z, h5, q⟩
  · rintro ⟨r, ρ1, h1, d, h2, r2, ρ2, h3, y, h4, z, h5, q⟩
    exact ⟨z, _, ⟨r, ρ1, h1, d, h2, r2, ρ2, h3, y, h4, z, h5, rfl, rfl⟩, q⟩
@[simp] theorem z_op2v {o : O2} {i : Nat} {b : CE} : Ze cl (.op2v o i b) ρ Q ↔ Is (peek ρ i) fun _ => Ze cl b ρ fun r2 ρ2 => Is (toD r2) fun y => Is (peek ρ2 i) fun x => Is (op2 o x y) fun z => Q z ρ2 := by
  simp only [Ze, ev, bind, Option.bind_eq_some_iff, Is, Prod.exists, Option.some.injEq, Prod.mk.injEq]
  constructor
  · rintro ⟨_, _, ⟨d, h2, r2, ρ2, h3, y, h4, x, h6, z, h5, rfl, rfl⟩, q⟩
    exact ⟨d, h2, r2, _, h3, y, h4, x, h6, z, h5, q⟩
  · rintro ⟨d, h2, r2, ρ2, h3, y, h4, x, h6, z, h5, q⟩
    exact ⟨z, _, ⟨d, h2, r2, ρ2, h3, y, h4, x, h6, z, h5, rfl, rfl⟩, q⟩
@[simp] theorem z_op2w {o : O2} {a : CE} {i : Nat} : Ze cl (.op2w o a i) ρ Q ↔ Ze cl a ρ fun r ρ1 => Is (toD r) fun x => Is (peek ρ1 i) fun y => Is (op2 o x y) fun z => Q z ρ1 := by
  simp only [Ze, ev, bind, Option.bind_eq_some_iff, Is, Prod.exists, Option.some.injEq, Prod.mk.injEq]
  constructor
  · rintro ⟨_, _, ⟨r, ρ1, h1, d, h2, y, h4, z, h5, rfl, rfl⟩, q⟩
    exact ⟨r, _, h1, d, h2, y, h4, z, h5, q⟩
  · rintro ⟨r, ρ1, h1, d, h2, y, h4, z, h5, q⟩
    exact ⟨z, _, ⟨r, ρ1, h1, d, h2, y, h4, z, h5, rfl, rfl⟩, q⟩
@[simp] theorem z_op2x {o : O2} {i j : Nat} : Ze cl (.op2x o i j) ρ Q ↔ Is (peek ρ i) fun x => Is (peek ρ j) fun y => Is (op2 o x y) fun z => Q z ρ := by
  simp only [Ze, ev, bind, Option.bind_eq_some_iff, Is, Prod.exists, Option.some.injEq, Prod.mk.injEq]
  constructor
  · rintro ⟨_, _, ⟨x, h1, y, h4, z, h5, rfl, rfl⟩, q⟩
    exact ⟨x, h1, y, h4, z, h5, q⟩
  · rintro ⟨x, h1, y, h4, z, h5, q⟩
    exact ⟨z, _, ⟨x, h1, y, h4, z, h5, rfl, rfl⟩, q⟩
def bi2D : B2 → PyData → PyData → Option Sl
  | .min, .int i, .int j => some (.sh (.int (if j < i then j else i)))
  | .max, .int i, .int j => some (.sh (.int (if j > i then j else i)))
  | _, _, _ => none
@[simp] theorem z_bi2 {o : B2} {a b : CE} : Ze cl (.bi2 o a b) ρ Q ↔ Ze cl a ρ fun r ρ1 => Is (toD r) fun x => Ze cl b ρ1 fun r2 ρ2 => Is (toD r2) fun y => Is (bi2D o x y) fun z => Q z ρ2 := by
  simp only [Ze, ev, bind, Option.bind_eq_some_iff, Is, Prod.exists, Option.some.injEq, Prod.mk.injEq]
  constructor
  · rintro ⟨r0, ρ0, ⟨r, ρ1, h1, d, h2, r2, ρ2, h3, y, h4, h5⟩, q⟩
    refine ⟨r, _, h1, d, h2, r2, _, h3, y, h4, ?_⟩
    split at h5
    · cases h5
      exact ⟨_, rfl, q⟩
    · cases h5
      exact ⟨_, rfl, q⟩
    · cases h5
  · rintro ⟨r, ρ1, h1, d, h2, r2, ρ2, h3, y, h4, z, h5, q⟩
    refine ⟨z, ρ2, ⟨r, ρ1, h1, d, h2, r2, ρ2, h3, y, h4, ?_⟩, q⟩
    unfold bi2D at h5
    split at h5
    · cases h5
      rfl
    · cases h5
      rfl
    · cases h5
def bOf : Sl → Option Bool
  | .sh (.bool b) => some b
  | _ => none
@[simp] theorem z_chain {o o' : O2} {a b c : CE} : Ze cl (.chain o o' a b c) ρ Q ↔ Ze cl a ρ fun r ρ1 => Is (toD r) fun x => Ze cl b ρ1 fun r2 ρ2 => Is (toD r2) fun y => Is (op2 o x y) fun z => Is (bOf z) fun t => if t = true then Ze cl c ρ2 fun r3 ρ3 => Is (toD r3) fun w => Is (op2 o' y w) fun z' => Q z' ρ3 else Q (.sh (.bool false)) ρ2 := by
  simp only [Ze, ev, bind, Option.bind_eq_some_iff, Is, Prod.exists, Option.some.injEq, Prod.mk.injEq]
  constructor
  · rintro ⟨r0, ρ0, ⟨r, ρ1, h1, d, h2, r2, ρ2, h3, y, h4, z, h5, h6⟩, q⟩
    refine ⟨r, _, h1, d, h2, r2, _, h3, y, h4, z, h5, ?_⟩
    split at h6
    · obtain ⟨r3, ρ3, h7, w, h8, z', h9, rfl, rfl⟩ := (by simpa [Option.bind_eq_some_iff] using h6 : ∃ r3 ρ3, ev cl c ρ2 = some (r3, ρ3) ∧ ∃ w, toD r3 = some w ∧ ∃ z', op2 o' y w = some z' ∧ z' = r0 ∧ ρ3 = ρ0)
      exact ⟨true, rfl, by simpa using ⟨r3, _, h7, w, h8, _, h9, q⟩⟩
    · cases h6
      exact ⟨false, rfl, by simpa using q⟩
    · cases h6
  · rintro ⟨r, ρ1, h1, d, h2, r2, ρ2, h3, y, h4, z, h5, t, h6, q⟩
    have hz : z = .sh (.bool t) := by
      unfold bOf at h6
      split at h6
      · cases h6
        rfl
      · cases h6
    subst hz
    cases t
    · exact ⟨_, _, ⟨r, _, h1, d, h2, r2, _, h3, y, h4, _, h5, rfl⟩, by simpa using q⟩
    · obtain ⟨r3, ρ3, h7, w, h8, z', h9, q⟩ := (by simpa using q : ∃ r3 ρ3, ev cl c ρ2 = some (r3, ρ3) ∧ ∃ w, toD r3 = some w ∧ ∃ z', op2 o' y w = some z' ∧ Q z' ρ3)
      exact ⟨z', ρ3, ⟨r, _, h1, d, h2, r2, _, h3, y, h4, _, h5, by simp [h7, h8, h9]⟩, q⟩
@[simp] theorem z_and {a b : CE} : Ze cl (.and a b) ρ Q ↔ Ze cl a ρ fun r ρ1 => Is (toD r) fun d => Is (truthD d) fun t => if t = true then Ze cl b ρ1 Q else Q (.sh d) ρ1 := by
  simp only [Ze, ev, bind, Option.bind_eq_some_iff, Is, Prod.exists]
  constructor
  · rintro ⟨r0, ρ0, ⟨r, ρ1, h1, d, h2, t, h3, h4⟩, q⟩
    refine ⟨r, _, h1, d, h2, t, h3, ?_⟩
    cases t
    · obtain ⟨rfl, rfl⟩ := (by simpa using h4 : Sl.sh d = r0 ∧ ρ1 = ρ0)
      simpa using q
    · exact (by simpa using ⟨r0, ρ0, by simpa using h4, q⟩)
  · rintro ⟨r, ρ1, h1, d, h2, t, h3, q⟩
    cases t
    · exact ⟨_, _, ⟨r, _, h1, d, h2, _, h3, by simp; exact ⟨rfl, rfl⟩⟩, by simpa using q⟩
    · obtain ⟨r0, ρ0, h4, q⟩ := (by simpa using q : ∃ r ρ', ev cl b ρ1 = some (r, ρ') ∧ Q r ρ')
      exact ⟨r0, ρ0, ⟨r, _, h1, d, h2, _, h3, by simpa using h4⟩, q⟩
@[simp] theorem z_or {a b : CE} : Ze cl (.or a b) ρ Q ↔ Ze cl a ρ fun r ρ1 => Is (toD r) fun d => Is (truthD d) fun t => if t = true then Q (.sh d) ρ1 else Ze cl b ρ1 Q := by
  simp only [Ze, ev, bind, Option.bind_eq_some_iff, Is, Prod.exists]
  constructor
  · rintro ⟨r0, ρ0, ⟨r, ρ1, h1, d, h2, t, h3, h4⟩, q⟩
    refine ⟨r, _, h1, d, h2, t, h3, ?_⟩
    cases t
    · exact (by simpa using ⟨r0, ρ0, by simpa using h4, q⟩)
    · obtain ⟨rfl, rfl⟩ := (by simpa using h4 : Sl.sh d = r0 ∧ ρ1 = ρ0)
      simpa using q
  · rintro ⟨r, ρ1, h1, d, h2, t, h3, q⟩
    cases t
    · obtain ⟨r0, ρ0, h4, q⟩ := (by simpa using q : ∃ r ρ', ev cl b ρ1 = some (r, ρ') ∧ Q r ρ')
      exact ⟨r0, ρ0, ⟨r, _, h1, d, h2, _, h3, by simpa using h4⟩, q⟩
    · exact ⟨_, _, ⟨r, _, h1, d, h2, _, h3, by simp; exact ⟨rfl, rfl⟩⟩, by simpa using q⟩
@[simp] theorem z_ite {c a b : CE} : Ze cl (.ite c a b) ρ Q ↔ Ze cl c ρ fun r ρ1 => Is (toD r) fun d => Is (truthD d) fun t => if t = true then Ze cl a ρ1 Q else Ze cl b ρ1 Q := by
  simp only [Ze, ev, bind, Option.bind_eq_some_iff, Is, Prod.exists]
  constructor
  · rintro ⟨r0, ρ0, ⟨r, ρ1, h1, t, ⟨d, h2, h3⟩, h4⟩, q⟩
    refine ⟨r, _, h1, d, h2, t, h3, ?_⟩
    cases t
    · exact (by simpa using ⟨r0, ρ0, by simpa using h4, q⟩)
    · exact (by simpa using ⟨r0, ρ0, by simpa using h4, q⟩)
  · rintro ⟨r, ρ1, h1, d, h2, t, h3, q⟩
    cases t
    · obtain ⟨r0, ρ0, h4, q⟩ := (by simpa using q : ∃ r ρ', ev cl b ρ1 = some (r, ρ') ∧ Q r ρ')
      exact ⟨r0, ρ0, ⟨r, _, h1, _, ⟨d, h2, h3⟩, by simpa using h4⟩, q⟩
    · obtain ⟨r0, ρ0, h4, q⟩ := (by simpa using q : ∃ r ρ', ev cl a ρ1 = some (r, ρ') ∧ Q r ρ')
      exact ⟨r0, ρ0, ⟨r, _, h1, _, ⟨d, h2, h3⟩, by simpa using h4⟩, q⟩
@[simp] theorem z_tup {a : CE} : Ze cl (.tup a) ρ Q ↔ Za cl a ρ fun ds ρ1 => ds.length ≤ lim ∧ Q (.sh (.tuple ds)) ρ1 := by
  simp only [Ze, Za, ev, bind, Option.bind_eq_some_iff, Prod.exists, Option.ite_none_right_eq_some, Option.some.injEq, Prod.mk.injEq]
  constructor
  · rintro ⟨_, _, ⟨r, ρ1, h1, h2, rfl, rfl⟩, q⟩
    exact ⟨r, _, h1, h2, q⟩
  · rintro ⟨r, ρ1, h1, h2, q⟩
    exact ⟨_, _, ⟨r, ρ1, h1, h2, rfl, rfl⟩, q⟩
@[simp] theorem z_lst {a : CE} : Ze cl (.lst a) ρ Q ↔ Za cl a ρ fun ds ρ1 => ds.length ≤ lim ∧ Q (.ow ds) ρ1 := by
  simp only [Ze, Za, ev, bind, Option.bind_eq_some_iff, Prod.exists, Option.ite_none_right_eq_some, Option.some.injEq, Prod.mk.injEq]
  constructor
  · rintro ⟨_, _, ⟨r, ρ1, h1, h2, rfl, rfl⟩, q⟩
    exact ⟨r, _, h1, h2, q⟩
  · rintro ⟨r, ρ1, h1, h2, q⟩
    exact ⟨_, _, ⟨r, ρ1, h1, h2, rfl, rfl⟩, q⟩
@[simp] theorem z_sl {a lo hi : CE} : Ze cl (.sl a lo hi) ρ Q ↔ Ze cl a ρ fun r ρ1 => Is (toD r) fun x => Ze cl lo ρ1 fun r2 ρ2 => Is (toD r2) fun l0 => Is (bnd lo l0) fun l => Ze cl hi ρ2 fun r3 ρ3 => Is (toD r3) fun h0 => Is (bnd hi h0) fun h => Is (slice x l h) fun z => Q z ρ3 := by
  simp only [Ze, ev, bind, Option.bind_eq_some_iff, Is, Prod.exists, Option.some.injEq, Prod.mk.injEq]
  constructor
  · rintro ⟨_, _, ⟨r, ρ1, h1, d, h2, r2, ρ2, h3, y, ⟨l0, h4, h40⟩, r3, ρ3, h5, h, ⟨h0, h6, h60⟩, z, h7, rfl, rfl⟩, q⟩
    exact ⟨r, _, h1, d, h2, r2, _, h3, l0, h4, y, h40, r3, _, h5, h0, h6, h, h60, z, h7, q⟩
  · rintro ⟨r, ρ1, h1, d, h2, r2, ρ2, h3, l0, h4, y, h40, r3, ρ3, h5, h0, h6, h, h60, z, h7, q⟩
    exact ⟨_, _, ⟨r, ρ1, h1, d, h2, r2, ρ2, h3, y, ⟨l0, h4, h40⟩, r3, ρ3, h5, h, ⟨h0, h6, h60⟩, z, h7, rfl, rfl⟩, q⟩
@[simp] theorem z_slv {i : Nat} {lo hi : CE} : Ze cl (.slv i lo hi) ρ Q ↔ Is (peek ρ i) fun _ => Ze cl lo ρ fun r2 ρ2 => Is (toD r2) fun l0 => Is (bnd lo l0) fun l => Ze cl hi ρ2 fun r3 ρ3 => Is (toD r3) fun h0 => Is (bnd hi h0) fun h => Is (peek ρ3 i) fun x => Is (slice x l h) fun z => Q z ρ3 := by
  simp only [Ze, ev, bind, Option.bind_eq_some_iff, Is, Prod.exists, Option.some.injEq, Prod.mk.injEq]
  constructor
  · rintro ⟨_, _, ⟨d, h2, r2, ρ2, h3, y, ⟨l0, h4, h40⟩, r3, ρ3, h5, h, ⟨h0, h6, h60⟩, x, h8, z, h7, rfl, rfl⟩, q⟩
    exact ⟨d, h2, r2, _, h3, l0, h4, y, h40, r3, _, h5, h0, h6, h, h60, x, h8, z, h7, q⟩
  · rintro ⟨d, h2, r2, ρ2, h3, l0, h4, y, h40, r3, ρ3, h5, h0, h6, h, h60, x, h8, z, h7, q⟩
    exact ⟨_, _, ⟨d, h2, r2, ρ2, h3, y, ⟨l0, h4, h40⟩, r3, ρ3, h5, h, ⟨h0, h6, h60⟩, x, h8, z, h7, rfl, rfl⟩, q⟩
def Zr (cl : Calls) (f : Nat) (as : List Sl) (Q : Sl → Option (List PyData) → Prop) : Prop := ∃ r o, cl f as = some (r, o) ∧ Q r o
@[simp] theorem z_call {f : Nat} {as : CE} : Ze cl (.call f as) ρ Q ↔ Za cl as ρ fun ds ρ1 => Zr cl f (ds.map Sl.sh) fun r _ => Q r ρ1 := by
  simp only [Ze, Za, Zr, ev, bind, Option.bind_eq_some_iff, Prod.exists, Option.some.injEq, Prod.mk.injEq]
  constructor
  · rintro ⟨_, _, ⟨ds, ρ1, h1, r, o, h2, rfl, rfl⟩, q⟩
    exact ⟨ds, _, h1, r, o, h2, q⟩
  · rintro ⟨ds, ρ1, h1, r, o, h2, q⟩
    exact ⟨_, _, ⟨ds, ρ1, h1, r, o, h2, rfl, rfl⟩, q⟩
def lstOf : Sl → Option (Bool × List PyData)
  | .ow l => some (true, l)
  | .io l => some (false, l)
  | _ => none
def lstTo : Bool → List PyData → Sl
  | true, l => .ow l
  | false, l => .io l
@[simp] theorem z_callm {f i : Nat} {as : CE} : Ze cl (.callm f i as) ρ Q ↔ Is (peek ρ i) fun _ => Za cl as ρ fun ds ρ1 => Is (ρ1[i]?) fun s => Is (lstOf s) fun p => Zr cl f (.io p.2 :: ds.map Sl.sh) fun r o => Is o fun l' => Q r (ρ1.set i (lstTo p.1 l')) := by
  simp only [Ze, Za, Zr, ev, bind, Option.bind_eq_some_iff, Prod.exists, Is]
  constructor
  · rintro ⟨r0, ρ0, ⟨x, h0, ds, ρ1, h1, h2⟩, q⟩
    refine ⟨x, h0, ds, ρ1, h1, ?_⟩
    split at h2
    · rename_i l h3
      obtain ⟨r, o, h4, l', h5, h6⟩ := (by simpa [Option.bind_eq_some_iff] using h2 : ∃ r o, cl f (.io l :: ds.map Sl.sh) = some (r, o) ∧ ∃ l', o = some l' ∧ r = r0 ∧ ρ1.set i (.ow l') = ρ0)
      obtain ⟨rfl, rfl⟩ := h6
      exact ⟨_, h3, true, l, rfl, r, o, h4, l', h5, q⟩
    · rename_i l h3
      obtain ⟨r, o, h4, l', h5, h6⟩ := (by simpa [Option.bind_eq_some_iff] using h2 : ∃ r o, cl f (.io l :: ds.map Sl.sh) = some (r, o) ∧ ∃ l', o = some l' ∧ r = r0 ∧ ρ1.set i (.io l') = ρ0)
      obtain ⟨rfl, rfl⟩ := h6
      exact ⟨_, h3, false, l, rfl, r, o, h4, l', h5, q⟩
    · cases h2
  · rintro ⟨x, h0, ds, ρ1, h1, s, h3, b, l, h4, r, o, h5, l', h6, q⟩
    subst h6
    have hs : s = lstTo b l := by
      unfold lstOf at h4
      split at h4 <;> cases h4 <;> rfl
    subst hs
    refine ⟨_, _, ⟨x, h0, ds, ρ1, h1, ?_⟩, q⟩
    cases b <;> simp [h3, lstTo, h5]
@[simp] theorem z_callsc {f i : Nat} : Ze cl (.callsc f i) ρ Q ↔ ∃ ns, ρ[i]? = some (.sc ns) ∧ Zr cl f [.sc ns] fun r _ => Q r ρ := by
  simp only [Ze, Zr, ev, bind]
  constructor
  · rintro ⟨r0, ρ0, h, q⟩
    split at h
    · rename_i ns h3
      obtain ⟨r, o, h4, rfl, rfl⟩ := (by simpa [Option.bind_eq_some_iff] using h : ∃ r, (∃ o, cl f [.sc ns] = some (r, o)) ∧ r = r0 ∧ ρ = ρ0) |> fun ⟨r, ⟨o, h⟩, a, b⟩ => (⟨r, o, h, a, b⟩ : ∃ r o, cl f [.sc ns] = some (r, o) ∧ r = r0 ∧ ρ = ρ0)
      exact ⟨ns, h3, _, o, h4, q⟩
    · cases h
  · rintro ⟨ns, h3, r, o, h4, q⟩
    exact ⟨r, ρ, by simp [h3, h4], q⟩
@[simp] theorem z_slsc {i : Nat} {lo hi : CE} : Ze cl (.slsc i lo hi) ρ Q ↔ ∃ ns, ρ[i]? = some (.sc ns) ∧ Ze cl lo ρ fun r2 ρ2 => Is (toD r2) fun l0 => Is (bnd lo l0) fun l => Ze cl hi ρ2 fun r3 ρ3 => Is (toD r3) fun h0 => Is (bnd hi h0) fun h => ∃ ms, ρ3[i]? = some (.sc ms) ∧ Is (slice (.list (ms.map .int)) l h) fun z => Q z ρ3 := by
  simp only [Ze, ev, bind, Is]
  constructor
  · rintro ⟨r0, ρ0, h, q⟩
    split at h
    · rename_i ns hn
      refine ⟨ns, hn, ?_⟩
      simp only [Option.bind_eq_some_iff, Prod.exists] at h
      obtain ⟨r2, ρ2, h1, l, ⟨l0, h2, h3⟩, r3, ρ3, h4, h0, ⟨d, h5, h6⟩, h7⟩ := h
      refine ⟨r2, ρ2, h1, l0, h2, l, h3, r3, ρ3, h4, d, h5, h0, h6, ?_⟩
      split at h7
      · rename_i ms hm
        simp only [Option.map_eq_some_iff, Prod.mk.injEq] at h7
        obtain ⟨z, h8, rfl, rfl⟩ := h7
        exact ⟨ms, hm, z, h8, q⟩
      · cases h7
    · cases h
  · rintro ⟨ns, hn, r2, ρ2, h1, l0, h2, l, h3, r3, ρ3, h4, d, h5, h0, h6, ms, hm, z, h8, q⟩
    exact ⟨z, ρ3, by simp [hn, h1, h2, h3, h4, h5, h6, hm, h8], q⟩
def intOf : Sl → Option Int
  | .sh (.int i) => some i
  | _ => none
@[simp] theorem z_rng {a b : CE} : Ze cl (.rng a b) ρ Q ↔ Ze cl a ρ fun r ρ1 => Ze cl b ρ1 fun r2 ρ2 => Is (intOf r) fun i => Is (intOf r2) fun j => (rgOk i && rgOk j) = true ∧ Q (.ow (rngD i (j - i).toNat)) ρ2 := by
  simp only [Ze, ev, bind, Option.bind_eq_some_iff, Prod.exists, Is]
  constructor
  · rintro ⟨r0, ρ0, ⟨r, ρ1, h1, r2, ρ2, h2, h3⟩, q⟩
    refine ⟨r, ρ1, h1, r2, ρ2, h2, ?_⟩
    split at h3
    · rename_i i j
      simp only [Option.ite_none_right_eq_some, Option.some.injEq, Prod.mk.injEq] at h3
      obtain ⟨h4, rfl, rfl⟩ := h3
      exact ⟨i, rfl, j, rfl, h4, q⟩
    · cases h3
  · rintro ⟨r, ρ1, h1, r2, ρ2, h2, i, h3, j, h4, h5, q⟩
    have e1 : r = .sh (.int i) := by
      unfold intOf at h3
      split at h3 <;> cases h3 <;> rfl
    have e2 : r2 = .sh (.int j) := by
      unfold intOf at h4
      split at h4 <;> cases h4 <;> rfl
    subst e1 e2
    exact ⟨_, _, ⟨_, _, h1, _, _, h2, by simp only [h5, if_true]⟩, q⟩
def Zc (g : PyData → PEnv → Option PEnv) (c e : PEnv → Option (Sl × PEnv)) (vs : List Nat) (l : List PyData) (ρ : PEnv) (acc : List PyData) (Q : List PyData → PEnv → Prop) : Prop := ∃ a ρ', compLoop g c e vs l ρ acc = some (a, ρ') ∧ Q a ρ'
@[simp] theorem z_comp {t c e : CE} {vs : List Nat} {tg : Tg} : Ze cl (.comp t vs tg c e) ρ Q ↔ Ze cl t ρ fun r ρ1 => Is (items r) fun l => (decide (l.length ≤ lim) && vs.all (plainSl ρ1)) = true ∧ Zc (asgn tg) (ev cl c) (ev cl e) vs l (wipeE ρ1 vs) [] fun acc ρ2 => Q (.ow acc) (backE ρ1 ρ2 vs) := by
  simp only [Ze, Zc, ev, bind, Option.bind_eq_some_iff, Prod.exists, Is, Option.ite_none_right_eq_some, Option.some.injEq, Prod.mk.injEq]
  constructor
  · rintro ⟨_, _, ⟨r, ρ1, h1, l, h2, h3, a, ρ2, h4, rfl, rfl⟩, q⟩
    exact ⟨r, ρ1, h1, l, h2, h3, a, ρ2, h4, q⟩
  · rintro ⟨r, ρ1, h1, l, h2, h3, a, ρ2, h4, q⟩
    exact ⟨_, _, ⟨r, ρ1, h1, l, h2, h3, a, ρ2, h4, rfl, rfl⟩, q⟩
variable {QA : List PyData → PEnv → Prop} {QP : List Sl → PEnv → Prop} {QB : Bool → PEnv → Prop} {N : PEnv → Prop} {R : Sl → PEnv → Prop}
@[simp] theorem za_nil : Za cl .nil ρ QA ↔ QA [] ρ := by
  simp only [Za, evA, Option.some.injEq, Prod.mk.injEq]
  exact ⟨fun ⟨_, _, ⟨rfl, rfl⟩, q⟩ => q, fun q => ⟨_, _, ⟨rfl, rfl⟩, q⟩⟩
@[simp] theorem za_cons {a b : CE} : Za cl (.cons a b) ρ QA ↔ Ze cl a ρ fun r ρ1 => Is (toD r) fun d => Za cl b ρ1 fun ds ρ2 => QA (d :: ds) ρ2 := by
  simp only [Ze, Za, evA, bind, Option.bind_eq_some_iff, Is, Prod.exists, Option.some.injEq, Prod.mk.injEq]
  constructor
  · rintro ⟨_, _, ⟨r, ρ1, h1, d, h2, ds, ρ2, h3, rfl, rfl⟩, q⟩
    exact ⟨r, _, h1, d, h2, ds, _, h3, q⟩
  · rintro ⟨r, ρ1, h1, d, h2, ds, ρ2, h3, q⟩
    exact ⟨_, _, ⟨r, ρ1, h1, d, h2, ds, ρ2, h3, rfl, rfl⟩, q⟩
@[simp] theorem zp_nil : Zp cl .nil ρ QP ↔ QP [] ρ := by
  simp only [Zp, evP, Option.some.injEq, Prod.mk.injEq]
  exact ⟨fun ⟨_, _, ⟨rfl, rfl⟩, q⟩ => q, fun q => ⟨_, _, ⟨rfl, rfl⟩, q⟩⟩
@[simp] theorem zp_cons {a b : CE} : Zp cl (.cons a b) ρ QP ↔ Ze cl a ρ fun r ρ1 => Zp cl b ρ1 fun ds ρ2 => QP (r :: ds) ρ2 := by
  simp only [Ze, Zp, evP, bind, Option.bind_eq_some_iff, Is, Prod.exists, Option.some.injEq, Prod.mk.injEq]
  constructor
  · rintro ⟨_, _, ⟨r, ρ1, h1, ds, ρ2, h3, rfl, rfl⟩, q⟩
    exact ⟨r, _, h1, ds, _, h3, q⟩
  · rintro ⟨r, ρ1, h1, ds, ρ2, h3, q⟩
    exact ⟨_, _, ⟨r, ρ1, h1, ds, ρ2, h3, rfl, rfl⟩, q⟩
@[simp] theorem z_tst {c : CE} : Zt cl c ρ QB ↔ Ze cl c ρ fun r ρ1 => Is (toD r) fun d => Is (truthD d) fun t => QB t ρ1 := by
  simp only [Ze, Zt, tst, bind, Option.bind_eq_some_iff, Is, Prod.exists, Option.some.injEq, Prod.mk.injEq]
  constructor
  · rintro ⟨_, _, ⟨r, ρ1, h1, t, ⟨d, h2, h3⟩, rfl, rfl⟩, q⟩
    exact ⟨r, _, h1, d, h2, t, h3, q⟩
  · rintro ⟨r, ρ1, h1, d, h2, t, h3, q⟩
    exact ⟨_, _, ⟨r, ρ1, h1, t, ⟨d, h2, h3⟩, rfl, rfl⟩, q⟩
/-! statements -/
@[simp] theorem zo_nx : Zo (some (.nx ρ)) N R ↔ N ρ := by simp [Zo]
@[simp] theorem zo_rt {r : Sl} : Zo (some (.rt r ρ)) N R ↔ R r ρ := by simp [Zo]
@[simp] theorem zo_no : Zo none N R ↔ False := by simp [Zo]
theorem zo_bind {α : Type} {o : Option α} {f : α → Option Out} : Zo (o.bind f) N R ↔ Is o fun x => Zo (f x) N R := by cases o <;> simp
theorem zo_if {c : Prop} [Decidable c] {a b : Option Out} : Zo (if c then a else b) N R ↔ if c then Zo a N R else Zo b N R := by split <;> simp
@[simp] theorem zo_map {o : Option PEnv} : Zo (o.map Out.nx) N R ↔ Is o N := by cases o <;> simp
theorem is_ev {e : CE} {P : Sl × PEnv → Prop} : Is (ev cl e ρ) P ↔ Ze cl e ρ fun r ρ' => P (r, ρ') := by simp [Is, Ze]
theorem is_evA {e : CE} {P : List PyData × PEnv → Prop} : Is (evA cl e ρ) P ↔ Za cl e ρ fun r ρ' => P (r, ρ') := by simp [Is, Za]
theorem is_evP {e : CE} {P : List Sl × PEnv → Prop} : Is (evP cl e ρ) P ↔ Zp cl e ρ fun r ρ' => P (r, ρ') := by simp [Is, Zp]
theorem is_tst {e : CE} {P : Bool × PEnv → Prop} : Is (tst cl e ρ) P ↔ Zt cl e ρ fun r ρ' => P (r, ρ') := by simp [Is, Zt]
@[simp] theorem x_pass : Zx cl F .pass ρ N R ↔ N ρ := by simp [Zx, ex]
@[simp] theorem x_fail : Zx cl F .fail ρ N R ↔ False := by simp [Zx, ex]
@[simp] theorem x_seq {a b : CS} : Zx cl F (.seq a b) ρ N R ↔ Zx cl F a ρ (fun ρ1 => Zx cl F b ρ1 N R) R := by
  unfold Zx
  simp only [ex, bind, zo_bind]
  constructor
  · rintro ⟨x, h, q⟩
    exact ⟨x, h, by cases x <;> simpa using q⟩
  · rintro ⟨x, h, q⟩
    exact ⟨x, h, by cases x <;> simpa using q⟩
@[simp] theorem x_asg {i : Nat} {e : CE} : Zx cl F (.asg (.nm i) e) ρ N R ↔ Ze cl e ρ fun r ρ1 => Is (put ρ1 i r) N := by
  unfold Zx
  simp only [ex, bind, zo_bind, is_ev, zo_map]
@[simp] theorem x_asgt {t : Tg} {e : CE} : Zx cl F (.asg (.tp t) e) ρ N R ↔ Ze cl e ρ fun r ρ1 => Is (toD r) fun d => Is (asgn (.tp t) d ρ1) N := by
  unfold Zx
  simp only [ex, bind, zo_bind, is_ev, zo_map]
@[simp] theorem x_par {ts : Tg} {es : CE} : Zx cl F (.par ts es) ρ N R ↔ Zp cl es ρ fun rs ρ1 => Is (putP ts rs ρ1) N := by
  unfold Zx
  simp only [ex, bind, zo_bind, is_evP, zo_map]
def intD : PyData → Option Int
  | .int i => some i
  | _ => none
@[simp] theorem x_seti {i : Nat} {x e : CE} : Zx cl F (.seti i x e) ρ N R ↔ Ze cl e ρ fun r ρ1 => Is (toD r) fun d => Is (peek ρ1 i) fun _ => Ze cl x ρ1 fun r2 ρ2 => Is (toD r2) fun y => Is (intD y) fun z => Is (setAt ρ2 i z d) N := by
  unfold Zx
  simp only [ex, bind, zo_bind, is_ev]
  constructor
  · rintro ⟨r, ρ1, h1, d, h2, x1, h3, r2, ρ2, h4, y, h5, q⟩
    refine ⟨r, ρ1, h1, d, h2, x1, h3, r2, ρ2, h4, y, h5, ?_⟩
    cases y <;> simp only [zo_no, zo_map] at q
    exact ⟨_, rfl, q⟩
  · rintro ⟨r, ρ1, h1, d, h2, x1, h3, r2, ρ2, h4, y, h5, z, h6, q⟩
    refine ⟨r, ρ1, h1, d, h2, x1, h3, r2, ρ2, h4, y, h5, ?_⟩
    cases y <;> simp only [intD, Option.some.injEq, reduceCtorEq] at h6
    subst h6
    simpa using q
@[simp] theorem x_app {i : Nat} {e : CE} : Zx cl F (.app i e) ρ N R ↔ Is (listAt ρ i) fun _ => Ze cl e ρ fun r ρ1 => Is (toD r) fun d => Is (upd ρ1 i fun l => if l.length < lim then some (l ++ [d]) else none) N := by
  unfold Zx
  simp only [ex, bind, zo_bind, is_ev, zo_map]
@[simp] theorem x_drop {e : CE} : Zx cl F (.drop e) ρ N R ↔ Ze cl e ρ fun _ ρ1 => N ρ1 := by
  unfold Zx
  simp only [ex, bind, zo_bind, is_ev, zo_nx]
@[simp] theorem x_ret {e : CE} : Zx cl F (.ret e) ρ N R ↔ Ze cl e ρ R := by
  unfold Zx
  simp only [ex, bind, zo_bind, is_ev, zo_rt]
@[simp] theorem x_ite {c : CE} {a b : CS} : Zx cl F (.ite c a b) ρ N R ↔ Ze cl c ρ fun r ρ1 => Is (toD r) fun d => Is (truthD d) fun t => if t = true then Zx cl F a ρ1 N R else Zx cl F b ρ1 N R := by
  unfold Zx
  simp only [ex, bind, zo_bind, is_tst, z_tst, zo_if]
def Zf (g : PyData → PEnv → Option PEnv) (b : PEnv → Option Out) (l : List PyData) (ρ : PEnv) (N : PEnv → Prop) (R : Sl → PEnv → Prop) : Prop := Zo (forLoop g b l ρ) N R
@[simp] theorem x_for {t : Tg} {i : CE} {b : CS} : Zx cl F (.for t i b) ρ N R ↔ Ze cl i ρ fun r ρ1 => Is (items r) fun l => Zf (asgn t) (ex cl F b) l ρ1 N R := by
  unfold Zx Zf
  simp only [ex, bind, zo_bind, is_ev]
theorem zf_ind {g : PyData → PEnv → Option PEnv} {b : PEnv → Option Out} {l : List PyData} {ρ : PEnv} (I : Nat → PEnv → Prop) (h0 : I 0 ρ) (step : ∀ n d ρ, l[n]? = some d → I n ρ → Is (g d ρ) fun ρ1 => Zo (b ρ1) (I (n + 1)) R) (fin : ∀ ρ, I l.length ρ → N ρ) : Zf g b l ρ N R := by
  have key : ∀ (m : List PyData) (n : Nat) (ρ : PEnv), l = l.take n ++ m → n + m.length = l.length → I n ρ → Zo (forLoop g b m ρ) N R := by
    intro m
    induction m with
    | nil =>
      intro n ρ e el h
      simp only [forLoop, zo_nx]
      exact fin ρ (by simpa [← el] using h)
    | cons d m ih =>
      intro n ρ e el h
      have hn : n < l.length := by simp at el; omega
      have hd : l[n]? = some d := by
        rw [e, List.getElem?_append_right (by simp; omega)]
        simp [Nat.min_eq_left (Nat.le_of_lt hn)]
      obtain ⟨ρ1, e1, x, e2, q⟩ := step n d ρ hd h
      simp only [forLoop, bind, e1, e2, Option.bind_some]
      cases x with
      | nx ρ2 =>
        refine ih (n + 1) ρ2 ?_ (by simp at el; omega) q
        rw [List.take_add_one, hd]
        simpa using e
      | rt r ρ2 => simpa using q
  exact key l 0 ρ (by simp) (by simp) h0
theorem zc_ind {g : PyData → PEnv → Option PEnv} {c e : PEnv → Option (Sl × PEnv)} {vs : List Nat} {l : List PyData} {ρ : PEnv} {acc : List PyData} {Q : List PyData → PEnv → Prop} (I : Nat → PEnv → List PyData → Prop) (h0 : I 0 ρ acc)
    (step : ∀ n d ρ acc, l[n]? = some d → I n ρ acc → Is (g d ρ) fun ρ1 => Is (c ρ1) fun p => Is (toD p.1) fun y => Is (truthD y) fun t => if t = true then Is (e p.2) fun q => Is (toD q.1) fun z => I (n + 1) (wipeE q.2 vs) (acc ++ [z]) else I (n + 1) (wipeE p.2 vs) acc)
    (fin : ∀ ρ acc, I l.length ρ acc → Q acc ρ) : Zc g c e vs l ρ acc Q := by
  have key : ∀ (m : List PyData) (n : Nat) (ρ : PEnv) (acc : List PyData), l = l.take n ++ m → n + m.length = l.length → I n ρ acc → Zc g c e vs m ρ acc Q := by
    intro m
    induction m with
    | nil =>
      intro n ρ acc el1 el h
      exact ⟨acc, ρ, by simp [compLoop], fin ρ acc (by simpa [← el] using h)⟩
    | cons d m ih =>
      intro n ρ acc el1 el h
      have hn : n < l.length := by simp at el; omega
      have hd : l[n]? = some d := by
        rw [el1, List.getElem?_append_right (by simp; omega)]
        simp [Nat.min_eq_left (Nat.le_of_lt hn)]
      have hl : l = l.take (n + 1) ++ m := by
        rw [List.take_add_one, hd]
        simpa using el1
      have hl2 : n + 1 + m.length = l.length := by simp at el; omega
      obtain ⟨ρ1, e1, ⟨p, ρ2⟩, e2, y, e3, t, e4, q⟩ := step n d ρ acc hd h
      unfold Zc
      simp only [compLoop, bind, e1, e2, e3, e4, Option.bind_some]
      cases t with
      | false =>
        have q' : I (n + 1) (wipeE ρ2 vs) acc := by simpa using q
        have z := ih (n + 1) _ _ hl hl2 q'
        unfold Zc at z
        simpa using z
      | true =>
        obtain ⟨⟨r, ρ3⟩, e5, z, e6, q'⟩ := (by simpa using q : Is (e ρ2) fun q => Is (toD q.1) fun z => I (n + 1) (wipeE q.2 vs) (acc ++ [z]))
        have e6' : toD r = some z := e6
        have z := ih (n + 1) _ _ hl hl2 q'
        unfold Zc at z
        simpa [e5, e6'] using z
  exact key l 0 ρ acc (by simp) (by simp) h0
/-- a comprehension that leaves its surroundings alone: what it keeps of each item -/
theorem zc_pure {g : PyData → PEnv → Option PEnv} {c e : PEnv → Option (Sl × PEnv)} {vs : List Nat} {l : List PyData} {ρ : PEnv} {Q : List PyData → PEnv → Prop} (f : PyData → Option PyData)
    (step : ∀ d, d ∈ l → Is (g d ρ) fun ρ1 => Is (c ρ1) fun p => Is (toD p.1) fun y => Is (truthD y) fun t => if t = true then Is (e p.2) fun q => Is (toD q.1) fun z => wipeE q.2 vs = ρ ∧ f d = some z else wipeE p.2 vs = ρ ∧ f d = none)
    (fin : Q (l.filterMap f) ρ) : Zc g c e vs l ρ [] Q := by
  refine zc_ind (fun n ρ' acc => ρ' = ρ ∧ acc = (l.take n).filterMap f) ⟨rfl, by simp⟩ (fun n d ρ' acc hd h => ?_) (fun ρ' acc h => ?_)
  · obtain ⟨rfl, rfl⟩ := h
    obtain ⟨ρ1, e1, p, e2, y, e3, t, e4, q⟩ := step d (List.mem_of_getElem? hd)
    refine ⟨ρ1, e1, p, e2, y, e3, t, e4, ?_⟩
    cases t with
    | false =>
      obtain ⟨q1, q2⟩ := (by simpa using q : wipeE p.2 vs = _ ∧ f d = none)
      simp only [Bool.false_eq_true, if_false]
      refine ⟨q1, ?_⟩
      rw [List.take_add_one, hd, List.filterMap_append]
      simp [q2]
    | true =>
      obtain ⟨q', e5, z, e6, q1, q2⟩ := (by simpa using q : Is (e p.2) fun q => Is (toD q.1) fun z => wipeE q.2 vs = _ ∧ f d = some z)
      simp only [if_true]
      refine ⟨q', e5, z, e6, q1, ?_⟩
      rw [List.take_add_one, hd, List.filterMap_append]
      simp [q2]
  · obtain ⟨rfl, rfl⟩ := h
    simpa using fin
end
/-! ### runs -/
section
variable {F : Nat} {Γ : List Fn} {k i j : Nat}
@[simp] theorem zr_some {cl : Calls} {f : Nat} {as : List Sl} {r : Sl} {o : Option (List PyData)} {Q : Sl → Option (List PyData) → Prop} (h : cl f as = some (r, o)) : Zr cl f as Q ↔ Q r o := by
  simp only [Zr, h, Option.some.injEq, Prod.mk.injEq]
  exact ⟨fun ⟨_, _, ⟨rfl, rfl⟩, q⟩ => q, fun q => ⟨_, _, ⟨rfl, rfl⟩, q⟩⟩
theorem zr_of {fn : Fn} {as : List Sl} {Q : Sl → Option (List PyData) → Prop} (h : Γ[i]? = some fn) (hl : as.length = fn.ps)
    (hx : Zx (run F Γ k) F fn.body (as ++ List.replicate (fn.n - fn.ps) .un) (fun ρ => Is (endRun fn.io (.sh .none) ρ) fun p => Q p.1 p.2) (fun r ρ => Is (endRun fn.io r ρ) fun p => Q p.1 p.2)) : Zr (run F Γ (k + 1)) i as Q := by
  obtain ⟨x, e, q⟩ := hx
  unfold Zr
  simp only [run, bind, h, Option.bind_some, hl, beq_self_eq_true, if_true, e]
  cases x with
  | nx ρ =>
    obtain ⟨⟨r, o⟩, e2, q⟩ := q
    exact ⟨r, o, e2, q⟩
  | rt r ρ =>
    obtain ⟨⟨r, o⟩, e2, q⟩ := q
    exact ⟨r, o, e2, q⟩
theorem run_of {fn : Fn} {as : List Sl} {r : Sl} {o : Option (List PyData)} (h : Γ[i]? = some fn) (hl : as.length = fn.ps)
    (hx : Zx (run F Γ k) F fn.body (as ++ List.replicate (fn.n - fn.ps) .un) (fun ρ => endRun fn.io (.sh .none) ρ = some (r, o)) (fun r' ρ => endRun fn.io r' ρ = some (r, o))) : run F Γ (k + 1) i as = some (r, o) := by
  have := zr_of (Q := fun r' o' => r' = r ∧ o' = o) h hl (by
    obtain ⟨x, e, q⟩ := hx
    refine ⟨x, e, ?_⟩
    cases x with
    | nx ρ => exact ⟨_, q, rfl, rfl⟩
    | rt r ρ => exact ⟨_, q, rfl, rfl⟩)
  obtain ⟨r', o', e, rfl, rfl⟩ := this
  exact e
end
/-! ### slots and values -/
@[simp] theorem toD_sh (d : PyData) : toD (.sh d) = some d := rfl
@[simp] theorem toD_ow (l : List PyData) : toD (.ow l) = some (.list l) := rfl
@[simp] theorem bOf_sh (b : Bool) : bOf (.sh (.bool b)) = some b := rfl
@[simp] theorem intOf_sh (i : Int) : intOf (.sh (.int i)) = some i := rfl
@[simp] theorem intD_int (i : Int) : intD (.int i) = some i := rfl
@[simp] theorem truthD_bool (b : Bool) : truthD (.bool b) = some b := rfl
@[simp] theorem truthD_int (i : Int) : truthD (.int i) = some (i != 0) := rfl
@[simp] theorem truthD_none : truthD .none = some false := rfl
@[simp] theorem truthD_list (l : List PyData) : truthD (.list l) = some (!l.isEmpty) := rfl
@[simp] theorem truthD_tuple (l : List PyData) : truthD (.tuple l) = some (!l.isEmpty) := rfl
@[simp] theorem bnd_none (e : CE) : bnd (.k .none) .none = some none := rfl
@[simp] theorem bnd_int (e : CE) (i : Int) : bnd e (.int i) = some (some i) := by
  unfold bnd
  split <;> first
    | rfl
    | simp_all
@[simp] theorem lstOf_ow (l : List PyData) : lstOf (.ow l) = some (true, l) := rfl
@[simp] theorem lstOf_io (l : List PyData) : lstOf (.io l) = some (false, l) := rfl
@[simp] theorem lstTo_t (l : List PyData) : lstTo true l = .ow l := rfl
@[simp] theorem lstTo_f (l : List PyData) : lstTo false l = .io l := rfl
@[simp] theorem items_ow (l : List PyData) : items (.ow l) = some l := rfl
@[simp] theorem items_l (l : List PyData) : items (.sh (.list l)) = some l := rfl
@[simp] theorem items_t (l : List PyData) : items (.sh (.tuple l)) = some l := rfl
end PP
namespace PP
open PySem
/-! ### sides -/
theorem log2_small {n : Nat} (h : n < 2 ^ 200) : n.log2 < 200 := by
  by_cases h0 : n = 0
  · subst h0
    decide
  · exact (Nat.log2_lt h0).mpr h
theorem mulOk_small {i j : Int} (h1 : i.natAbs < 2 ^ 200) (h2 : j.natAbs < 2 ^ 200) : mulOk i j = true := by
  have a := log2_small h1
  have b := log2_small h2
  unfold mulOk
  exact decide_eq_true (by omega)
theorem divOk_small {j : Int} (h0 : 0 < j) (h1 : j.natAbs < 2 ^ 200) : divOk j = true := by
  have a := log2_small h1
  unfold divOk
  simp only [h0, decide_true, Bool.true_and]
  exact decide_eq_true (by omega)
theorem atI_of {α : Type} {xs : List α} {i : Int} {v : α} (h0 : 0 ≤ i) (h : xs[i.toNat]? = some v) : L2.atI xs i = some v := by
  have := L2.atI_nat h
  rwa [Int.toNat_of_nonneg h0] at this
abbrev nums (ns : List Int) : List PyData := ns.map PyData.int
@[simp] theorem intsD_nums : ∀ ns : List Int, intsD (ns.map PyData.int) = some ns
  | [] => rfl
  | n :: ns => by simp [intsD, intsD_nums ns]
theorem lev_refl : ∀ (n : Nat) (d : PyData), lev n d = true → PyData.eqv d d = true := by
  intro n
  induction n with
  | zero =>
    intro d h
    cases d <;> simp [lev] at h <;> simp [PyData.eqv]
  | succ n ih =>
    have all : ∀ l : List PyData, l.all (lev n) = true → PyData.eqvAll l l = true := by
      intro l
      induction l with
      | nil => intro _; simp [PyData.eqvAll]
      | cons x l il =>
        intro h
        rw [List.all_cons, Bool.and_eq_true] at h
        rw [PyData.eqvAll, ih x h.1, il h.2]
        rfl
    intro d h
    cases d with
    | list l => simpa [PyData.eqv] using all l (by simpa [lev] using h)
    | tuple l => simpa [PyData.eqv] using all l (by simpa [lev] using h)
    | none => simp [PyData.eqv]
    | bool b => simp [PyData.eqv]
    | int b => simp [PyData.eqv]
    | str b => simp [PyData.eqv]
    | dict b => simp [lev] at h
/-! ### stepping: what stands ahead only -/
theorem is_congr {α : Type} {o o' : Option α} {Q : α → Prop} (h : o = o') : Is o Q = Is o' Q := by rw [h]
theorem ze_congr {cl : Calls} {e : CE} {ρ : PEnv} {Q : Sl → PEnv → Prop} : Ze cl e ρ Q = Ze cl e ρ Q := rfl
theorem za_congr {cl : Calls} {e : CE} {ρ : PEnv} {Q : List PyData → PEnv → Prop} : Za cl e ρ Q = Za cl e ρ Q := rfl
theorem zp_congr {cl : Calls} {e : CE} {ρ : PEnv} {Q : List Sl → PEnv → Prop} : Zp cl e ρ Q = Zp cl e ρ Q := rfl
theorem zx_congr {cl : Calls} {F : Nat} {s : CS} {ρ : PEnv} {N : PEnv → Prop} {R : Sl → PEnv → Prop} : Zx cl F s ρ N R = Zx cl F s ρ N R := rfl
theorem zr_congr {cl : Calls} {f : Nat} {as as' : List Sl} {Q : Sl → Option (List PyData) → Prop} (h : as = as') : Zr cl f as Q = Zr cl f as' Q := by rw [h]
theorem zc_congr {g : PyData → PEnv → Option PEnv} {c e : PEnv → Option (Sl × PEnv)} {vs : List Nat} {l l' : List PyData} {ρ : PEnv} {acc : List PyData} {Q : List PyData → PEnv → Prop} (h : l = l') : Zc g c e vs l ρ acc Q = Zc g c e vs l' ρ acc Q := by rw [h]
theorem zf_congr {g : PyData → PEnv → Option PEnv} {b : PEnv → Option Out} {l l' : List PyData} {ρ : PEnv} {N : PEnv → Prop} {R : Sl → PEnv → Prop} (h : l = l') : Zf g b l ρ N R = Zf g b l' ρ N R := by rw [h]
theorem ite_stop {c c' : Prop} [Decidable c] [Decidable c'] {a b : Prop} (h : c = c') : (if c then a else b) = (if c' then a else b) := by
  subst h
  congr
theorem is_ite {α : Type} {c : Prop} [Decidable c] {o : Option α} {Q : α → Prop} : Is (if c then o else none) Q ↔ c ∧ Is o Q := by split <;> simp [*]
section
variable {i j : Int} {Q : Sl → Prop} {l m : List PyData} {a b : PyData} {s : Str}
@[simp] theorem o_add : Is (op2 .add (.int i) (.int j)) Q ↔ Q (.sh (.int (i + j))) := is_some
@[simp] theorem o_sub : Is (op2 .sub (.int i) (.int j)) Q ↔ Q (.sh (.int (i - j))) := is_some
@[simp] theorem o_mul : Is (op2 .mul (.int i) (.int j)) Q ↔ mulOk i j = true ∧ Q (.sh (.int (i * j))) := by
  simp only [op2, is_ite]
  exact and_congr_right fun _ => is_some
@[simp] theorem o_fdiv : Is (op2 .fdiv (.int i) (.int j)) Q ↔ divOk j = true ∧ Q (.sh (.int (i / j))) := by
  simp only [op2, is_ite]
  exact and_congr_right fun _ => is_some
@[simp] theorem o_mod : Is (op2 .mod (.int i) (.int j)) Q ↔ 0 < j ∧ Q (.sh (.int (i % j))) := by
  simp only [op2, is_ite]
  exact and_congr_right fun _ => is_some
@[simp] theorem o_lt : Is (op2 .lt (.int i) (.int j)) Q ↔ Q (.sh (.bool (decide (i < j)))) := is_some
@[simp] theorem o_le : Is (op2 .le (.int i) (.int j)) Q ↔ Q (.sh (.bool (decide (i ≤ j)))) := is_some
@[simp] theorem o_gt : Is (op2 .gt (.int i) (.int j)) Q ↔ Q (.sh (.bool (decide (j < i)))) := is_some
@[simp] theorem o_ge : Is (op2 .ge (.int i) (.int j)) Q ↔ Q (.sh (.bool (decide (j ≤ i)))) := is_some
@[simp] theorem o_eqi : Is (op2 .eq (.int i) (.int j)) Q ↔ Q (.sh (.bool (decide (i = j)))) := by
  have : (i == j) = decide (i = j) := rfl
  simp only [op2, lev, Bool.and_self, if_true, bl, is_some, PyData.eqv, this]
@[simp] theorem o_nei : Is (op2 .ne (.int i) (.int j)) Q ↔ Q (.sh (.bool (!decide (i = j)))) := by
  have : (i == j) = decide (i = j) := rfl
  simp only [op2, lev, Bool.and_self, if_true, bl, is_some, PyData.eqv, this]
theorem o_eq : Is (op2 .eq a b) Q ↔ (lev 8 a && lev 8 b) = true ∧ Q (.sh (.bool (PyData.eqv a b))) := by
  simp only [op2, is_ite]
  exact and_congr_right fun _ => is_some
theorem o_ne : Is (op2 .ne a b) Q ↔ (lev 8 a && lev 8 b) = true ∧ Q (.sh (.bool !(PyData.eqv a b))) := by
  simp only [op2, is_ite]
  exact and_congr_right fun _ => is_some
@[simp] theorem o_ixl : Is (op2 .ix (.list l) (.int i)) Q ↔ Is (L2.atI l i) fun d => Q (.sh d) := is_map
@[simp] theorem o_ixt : Is (op2 .ix (.tuple l) (.int i)) Q ↔ Is (L2.atI l i) fun d => Q (.sh d) := is_map
@[simp] theorem o_addt : Is (op2 .add (.tuple l) (.tuple m)) Q ↔ l.length + m.length ≤ lim ∧ Q (.sh (.tuple (l ++ m))) := by
  simp only [op2, is_ite, is_some]
@[simp] theorem o_addl : Is (op2 .add (.list l) (.list m)) Q ↔ l.length + m.length ≤ lim ∧ Q (.ow (l ++ m)) := by
  simp only [op2, is_ite, is_some]
@[simp] theorem o_isn : Is (op2 .is a .none) Q ↔ Q (.sh (.bool (match a with | .none => true | _ => false))) := is_some
@[simp] theorem o_isntn : Is (op2 .isnt a .none) Q ↔ Q (.sh (.bool (match a with | .none => false | _ => true))) := is_some
@[simp] theorem u_neg : op1 .neg (.int i) = some (.sh (.int (-i))) := rfl
@[simp] theorem u_not : Is (op1 .not a) Q ↔ Is (truthD a) fun b => Q (.sh (.bool !b)) := is_map
@[simp] theorem u_truth : Is (op1 .truth a) Q ↔ Is (truthD a) fun b => Q (.sh (.bool b)) := is_map
@[simp] theorem u_lenl : op1 .len (.list l) = some (.sh (.int l.length)) := rfl
@[simp] theorem u_lent : op1 .len (.tuple l) = some (.sh (.int l.length)) := rfl
@[simp] theorem u_suml : Is (op1 .sum (.list l)) Q ↔ Is (intsD l) fun ns => Q (.sh (.int ns.sum)) := is_map
@[simp] theorem u_sumt : Is (op1 .sum (.tuple l)) Q ↔ Is (intsD l) fun ns => Q (.sh (.int ns.sum)) := is_map
@[simp] theorem u_abs : op1 .abs (.int i) = some (.sh (.int (if i < 0 then -i else i))) := rfl
@[simp] theorem u_tl : op1 .tuple (.list l) = some (.sh (.tuple l)) := rfl
@[simp] theorem u_tt : op1 .tuple (.tuple l) = some (.sh (.tuple l)) := rfl
@[simp] theorem u_ll : op1 .list (.list l) = some (.ow l) := rfl
@[simp] theorem u_lt : op1 .list (.tuple l) = some (.ow l) := rfl
@[simp] theorem u_min : Is (op1 .min (.list l)) Q ↔ Is (intsD l) fun ns => Is (minI ns) fun m => Q (.sh (.int m)) := by simp only [op1, is_bind, is_map]
@[simp] theorem u_max : Is (op1 .max (.list l)) Q ↔ Is (intsD l) fun ns => Is (maxI ns) fun m => Q (.sh (.int m)) := by simp only [op1, is_bind, is_map]
@[simp] theorem u_int : op1 .int (.int i) = some (.sh (.int i)) := rfl
@[simp] theorem u_all : Is (op1 .all (.list l)) Q ↔ Is (boolsD l) fun bs => Q (.sh (.bool (bs.all id))) := is_map
@[simp] theorem u_any : Is (op1 .any (.list l)) Q ↔ Is (boolsD l) fun bs => Q (.sh (.bool (bs.any id))) := is_map
@[simp] theorem u_ii : op1 .isint (.int i) = some (.sh (.bool true)) := rfl
@[simp] theorem u_bi : op1 .isbool (.int i) = some (.sh (.bool false)) := rfl
@[simp] theorem u_ti : op1 .istuple (.tuple l) = some (.sh (.bool true)) := rfl
@[simp] theorem u_si : op1 .isstr (.str s) = some (.sh (.bool true)) := rfl
@[simp] theorem b_min : bi2D .min (.int i) (.int j) = some (.sh (.int (if j < i then j else i))) := rfl
@[simp] theorem b_max : bi2D .max (.int i) (.int j) = some (.sh (.int (if j > i then j else i))) := rfl
@[simp] theorem s_l (x y : Option Int) : slice (.list l) x y = some (.ow (cutD l x y)) := rfl
@[simp] theorem s_t (x y : Option Int) : slice (.tuple l) x y = some (.sh (.tuple (cutD l x y))) := rfl
@[simp] theorem at0 : L2.atI (a :: l) 0 = some a := atI_of (by decide) rfl
@[simp] theorem at1 {a0 : PyData} : L2.atI (a0 :: a :: l) 1 = some a := atI_of (by decide) rfl
@[simp] theorem at2 {a0 a1 : PyData} : L2.atI (a0 :: a1 :: a :: l) 2 = some a := atI_of (by decide) rfl
@[simp] theorem at3 {a0 a1 a2 : PyData} : L2.atI (a0 :: a1 :: a2 :: a :: l) 3 = some a := atI_of (by decide) rfl
@[simp] theorem at4 {a0 a1 a2 a3 : PyData} : L2.atI (a0 :: a1 :: a2 :: a3 :: a :: l) 4 = some a := atI_of (by decide) rfl
@[simp] theorem at5 {a0 a1 a2 a3 a4 : PyData} : L2.atI (a0 :: a1 :: a2 :: a3 :: a4 :: a :: l) 5 = some a := atI_of (by decide) rfl
end
@[simp] theorem zo_ex {cl : Calls} {F : Nat} {s : CS} {ρ : PEnv} {N : PEnv → Prop} {R : Sl → PEnv → Prop} : Zo (ex cl F s ρ) N R ↔ Zx cl F s ρ N R := Iff.rfl
@[simp] theorem is_ev' {cl : Calls} {e : CE} {ρ : PEnv} {P : Sl × PEnv → Prop} : Is (ev cl e ρ) P ↔ Ze cl e ρ fun r ρ' => P (r, ρ') := is_ev
section
variable {ρ : PEnv} {s r : Sl} {i : Nat} {d : PyData} {l : List PyData} {z : Int}
@[simp] theorem peek_cons : peek (s :: ρ) i = (match (s :: ρ)[i]? with
  | some (.sh d) => some d
  | some (.ow l) => some (.list l)
  | some (.io l) => some (.list l)
  | some (.od m) => some (.dict m)
  | _ => none) := rfl
@[simp] theorem rdv_cons : rdv (s :: ρ) i = (match (s :: ρ)[i]? with
  | some (.sh d) => some (.sh d, s :: ρ)
  | some (.ow l) => some (.sh (.list l), (s :: ρ).set i (.sh (.list l)))
  | some (.od m) => some (.sh (.dict m), (s :: ρ).set i (.sh (.dict m)))
  | _ => none) := rfl
@[simp] theorem rmv_cons : rmv (s :: ρ) i = (match (s :: ρ)[i]? with
  | some (.sh d) => some (.sh d, s :: ρ)
  | some (.ow l) => some (.ow l, (s :: ρ).set i .un)
  | some (.od m) => some (.od m, (s :: ρ).set i .un)
  | _ => none) := rfl
@[simp] theorem free_cons : free (s :: ρ) i = (match (s :: ρ)[i]? with
  | some (.io _) => false
  | some _ => true
  | none => false) := rfl
@[simp] theorem put_cons : put (s :: ρ) i r = if free (s :: ρ) i = true then some ((s :: ρ).set i r) else none := rfl
@[simp] theorem listAt_cons : listAt (s :: ρ) i = (match (s :: ρ)[i]? with
  | some (.ow l) => some l
  | some (.io l) => some l
  | _ => none) := rfl
@[simp] theorem upd_cons {f : List PyData → Option (List PyData)} : upd (s :: ρ) i f = (match (s :: ρ)[i]? with
  | some (.ow l) => (f l).map fun l' => (s :: ρ).set i (.ow l')
  | some (.io l) => (f l).map fun l' => (s :: ρ).set i (.io l')
  | _ => none) := rfl
@[simp] theorem setAt_cons : setAt (s :: ρ) i z d = upd (s :: ρ) i fun l => (L2.ixN l.length z).map fun j => l.set j d := rfl
@[simp] theorem asgn_nm : asgn (.nm i) d ρ = put ρ i (.sh d) := by simp only [asgn]
@[simp] theorem asgn_tp {t : Tg} : asgn (.tp t) (.tuple l) ρ = asgn.asgnL t l ρ := by simp only [asgn]
@[simp] theorem asgn_ix : asgn (.ix i z) d ρ = setAt ρ i z d := by simp only [asgn]
@[simp] theorem asgnL_nil : asgn.asgnL .nil [] ρ = some ρ := by simp only [asgn.asgnL]
@[simp] theorem asgnL_cons {a b : Tg} {ds : List PyData} {Q : PEnv → Prop} : Is (asgn.asgnL (.cons a b) (d :: ds) ρ) Q ↔ Is (asgn a d ρ) fun ρ1 => Is (asgn.asgnL b ds ρ1) Q := by simp only [asgn.asgnL, is_bind]
@[simp] theorem putP_nil : putP .nil [] ρ = some ρ := rfl
@[simp] theorem putP_cons {b : Tg} {ss : List Sl} {Q : PEnv → Prop} : Is (putP (.cons (.nm i) b) (s :: ss) ρ) Q ↔ Is (put ρ i s) fun ρ1 => Is (putP b ss ρ1) Q := by simp only [putP, is_bind]
@[simp] theorem wipe_nil : wipeE ρ [] = ρ := rfl
@[simp] theorem wipe_cons {v : Nat} {vs : List Nat} : wipeE ρ (v :: vs) = (wipeE ρ vs).set v .un := rfl
@[simp] theorem back_nil {ρ' : PEnv} : backE ρ ρ' [] = ρ' := rfl
@[simp] theorem back_cons {ρ' : PEnv} {v : Nat} {vs : List Nat} : backE ρ ρ' (v :: vs) = backE ρ (ρ'.set v (ρ.getD v .un)) vs := rfl
@[simp] theorem plain_cons : plainSl (s :: ρ) i = (match (s :: ρ)[i]? with
  | some .un => true
  | some (.sh _) => true
  | _ => false) := rfl
@[simp] theorem ix0 {n : Nat} : L2.ixN (n + 1) 0 = some 0 := by simp [L2.ixN]
theorem ixN_of {n : Nat} {i : Int} (h0 : 0 ≤ i) (h1 : i < n) : L2.ixN n i = some i.toNat := by simp [L2.ixN, h0, h1]
@[simp] theorem end_t : endRun true r (.io l :: ρ) = if okR r = true then some (r, some l) else none := rfl
@[simp] theorem end_f : endRun false r ρ = if okR r = true then some (r, none) else none := rfl
@[simp] theorem ok_sh : okR (.sh d) = true := rfl
@[simp] theorem ok_ow : okR (.ow l) = true := rfl
end
/-! ### the helpers that every law has -/
def bIsInt : CS := .seq (.ret (.and (.op1v .isint 0) (.op1 .not (.op1v .isbool 0)))) .pass
def bBetw (i : Nat) : CS := .seq (.ret (.and (.call i (.cons (.v 0) .nil)) (.chain .le .le (.v 1) (.v 0) (.v 2)))) .pass
def bDraw : CS := (.seq (.ite (.and (.op2 .eq (.op2v .ix 0 (.k (.int 3))) (.k (.int 0))) (.op2 .lt (.op2v .ix 0 (.k (.int 1))) (.op1 .len (.op2v .ix 0 (.k (.int 0)))))) (.seq (.asg (.tp (.cons (.ix 0 2) (.cons (.ix 0 3) (.cons (.ix 0 1) .nil)))) (.tup (.cons (.op2 .ix (.op2v .ix 0 (.k (.int 0))) (.op2v .ix 0 (.k (.int 1)))) (.cons (.k (.int 60)) (.cons (.op2 .add (.op2v .ix 0 (.k (.int 1))) (.k (.int 1))) .nil))))) .pass) .pass)
  (.seq (.ite (.op2 .gt (.op2v .ix 0 (.k (.int 3))) (.k (.int 0))) (.seq (.asg (.nm 2) (.op2w .mod (.op1 .int (.op2v .ix 0 (.k (.int 2)))) 1))
  (.seq (.seti 0 (.k (.int 2)) (.op2w .fdiv (.op2v .ix 0 (.k (.int 2))) 1))
  (.seq (.seti 0 (.k (.int 3)) (.ite (.op2 .gt (.op2v .ix 0 (.k (.int 2))) (.k (.int 0))) (.op2 .sub (.op2v .ix 0 (.k (.int 3))) (.k (.int 1))) (.k (.int 0))))
  (.seq (.ret (.mv 2))
  .pass)))) .pass)
  (.seq (.seti 0 (.k (.int 5)) (.op2 .add (.op2v .ix 0 (.k (.int 5))) (.k (.int 1))))
  (.seq (.seti 0 (.k (.int 4)) (.op2 .mod (.op1 .int (.op2 .add (.op2 .add (.op2 .mul (.op2v .ix 0 (.k (.int 4))) (.k (.int 48271))) (.op2 .mul (.op2 .mul (.op2v .ix 0 (.k (.int 5))) (.op2v .ix 0 (.k (.int 5)))) (.k (.int 69621)))) (.k (.int 11)))) (.k (.int 2147483647))))
  (.seq (.ret (.op2w .mod (.op1 .int (.op2 .fdiv (.op2v .ix 0 (.k (.int 4))) (.k (.int 13)))) 1))
  .pass)))))
def bStart : CS := (.seq (.asg (.nm 1) (.k (.int 7)))
  (.seq (.for (.nm 2) (.slsc 0 (.k .none) (.k (.int 63))) (.seq (.asg (.nm 1) (.op2 .add (.op2 .mod (.op1 .int (.op2w .add (.op2v .mul 1 (.k (.int 48271))) 2)) (.k (.int 2147483629))) (.k (.int 1))))
  .pass))
  (.seq (.ret (.lst (.cons (.comp (.slsc 0 (.k .none) (.k (.int 63))) [2] (.nm 2) (.k (.bool true)) (.op1 .abs (.op1v .int 2))) (.cons (.k (.int 0)) (.cons (.k (.int 0)) (.cons (.k (.int 0)) (.cons (.v 1) (.cons (.k (.int 0)) .nil))))))))
  .pass)))
/-- the law's state: how many draws were made at most -/
def Good (c : Nat) (l : List PyData) : Prop := ∃ (cs : List Int) (p a b s q : Int), l = [.list (nums cs), .int p, .int a, .int b, .int s, .int q] ∧ 0 ≤ p ∧ 0 ≤ s ∧ s < 2147483648 ∧ 0 ≤ q ∧ q ≤ c ∧ cs.length ≤ 63
theorem Good.mono {c d : Nat} {l : List PyData} (h : Good c l) (le : c ≤ d) : Good d l := by
  obtain ⟨cs, p, a, b, s, q, e, h1, h2, h3, h4, h5, h6⟩ := h
  exact ⟨cs, p, a, b, s, q, e, h1, h2, h3, h4, by omega, h6⟩
section
variable {F : Nat} {Γ : List Fn} {k i j : Nat}
theorem r_isint (h : Γ[i]? = some ⟨1, 1, false, bIsInt⟩) (v : Int) : run F Γ (k + 1) i [.sh (.int v)] = some (.sh (.bool true), none) := by
  refine run_of h rfl ?_
  simp [bIsInt]
theorem r_betw (h : Γ[i]? = some ⟨1, 1, false, bIsInt⟩) (hj : Γ[j]? = some ⟨3, 3, false, bBetw i⟩) (v lo hi : Int) : run F Γ (k + 2) j [.sh (.int v), .sh (.int lo), .sh (.int hi)] = some (.sh (.bool (decide (lo ≤ v ∧ v ≤ hi))), none) := by
  refine run_of hj rfl ?_
  by_cases h1 : lo ≤ v <;> simp [bBetw, zr_some (r_isint h _), h1]
theorem draw_ok (h : Γ[i]? = some ⟨2, 3, true, bDraw⟩) {c : Nat} {l : List PyData} {m : Int} (hg : Good c l) (hc : c < 1000000) (h0 : 0 < m) (hm : m < 1000000000) : Zr (run F Γ (k + 1)) i [.io l, .sh (.int m)] fun r o => ∃ x l', r = .sh (.int x) ∧ o = some l' ∧ 0 ≤ x ∧ x < m ∧ Good (c + 1) l' := by
  obtain ⟨cs, p, a, b, s, q, rfl, h1, h2, h3, h4, h5, h6⟩ := hg
  refine zr_of h rfl ?_
  have hM : m.natAbs < 2 ^ 200 := by omega
  have hD : divOk m = true := divOk_small h0 hM
  have ge : ∀ z : Int, 0 ≤ z % m := fun z => Int.emod_nonneg _ (by omega)
  have lt : ∀ z : Int, z % m < m := fun z => Int.emod_lt_of_pos _ h0
  have fin : ∀ (p a b s q : Int), 0 ≤ p → 0 ≤ s → s < 2147483648 → 0 ≤ q → q ≤ c + 1 → Good (c + 1) [.list (nums cs), .int p, .int a, .int b, .int s, .int q] := fun p a b s q e1 e2 e3 e4 e5 => ⟨cs, p, a, b, s, q, rfl, e1, e2, e3, e4, by omega, h6⟩
  have n1 : mulOk s 48271 = true := mulOk_small (by omega) (by decide)
  have n2 : mulOk (q + 1) (q + 1) = true := mulOk_small (by omega) (by omega)
  have n3 : mulOk ((q + 1) * (q + 1)) 69621 = true := by
    have : (q + 1) * (q + 1) ≤ 1000001 * 1000001 := Int.mul_le_mul (by omega) (by omega) (by omega) (by omega)
    have : 0 ≤ (q + 1) * (q + 1) := Int.mul_nonneg (by omega) (by omega)
    exact mulOk_small (by omega) (by decide)
  have s1 : ∀ z : Int, 0 ≤ z % 2147483647 := fun z => Int.emod_nonneg _ (by omega)
  have s2 : ∀ z : Int, z % 2147483647 < 2147483648 := fun z => by
    have := Int.emod_lt_of_pos z (show (0 : Int) < 2147483647 by omega)
    omega
  have d13 : divOk 13 = true := divOk_small (by decide) (by decide)
  by_cases hb : b = 0
  · subst hb
    by_cases hp : p < cs.length
    · have hd : L2.atI (nums cs) p = some (.int cs[p.toNat]) := atI_of h1 (by
        rw [List.getElem?_map, List.getElem?_eq_getElem (by omega)]
        rfl)
      by_cases hq : 0 < cs[p.toNat] / m
      · simp [bDraw, L2.ixN, lim, is_map, hp, hd, hD, h0, ge, lt, hq]
        exact fin _ _ _ _ _ (by omega) h2 h3 h4 (by omega)
      · simp [bDraw, L2.ixN, lim, is_map, hp, hd, hD, h0, ge, lt, hq]
        exact fin _ _ _ _ _ (by omega) h2 h3 h4 (by omega)
    · simp [bDraw, L2.ixN, lim, is_map, hp, hD, h0, ge, lt, n1, n2, n3, d13]
      exact fin _ _ _ _ _ h1 (s1 _) (s2 _) (by omega) (by omega)
  · by_cases hb2 : 0 < b
    · by_cases hq : 0 < a / m
      · simp [bDraw, L2.ixN, lim, is_map, hb, hb2, hD, h0, ge, lt, hq]
        exact fin _ _ _ _ _ h1 h2 h3 h4 (by omega)
      · simp [bDraw, L2.ixN, lim, is_map, hb, hb2, hD, h0, ge, lt, hq]
        exact fin _ _ _ _ _ h1 h2 h3 h4 (by omega)
    · simp [bDraw, L2.ixN, lim, is_map, hb, hb2, hD, h0, ge, lt, n1, n2, n3, d13]
      exact fin _ _ _ _ _ h1 (s1 _) (s2 _) (by omega) (by omega)
theorem cut_ints (ns : List Int) (lo hi : Option Int) : ∃ ms, cutD (nums ns) lo hi = nums ms ∧ ms.length ≤ ns.length := by
  refine ⟨(ns.drop (HT.sIx ns.length 0 lo)).take (HT.sIx ns.length ns.length hi - HT.sIx ns.length 0 lo), ?_, ?_⟩
  · unfold cutD nums
    rw [List.length_map, ← List.map_drop, ← List.map_take]
  · simp
    omega
theorem start_ok (h : Γ[i]? = some ⟨1, 3, false, bStart⟩) (ns : List Int) (hn : ns.length ≤ 63) : Zr (run F Γ (k + 1)) i [.sc ns] fun r _ => ∃ l, r = .ow l ∧ Good 0 l := by
  refine zr_of h rfl ?_
  obtain ⟨ms, e1, e2⟩ := cut_ints ns none (some 63)
  simp [bStart, nums] at e1 ⊢
  simp [e1]
  refine zf_ind (fun n ρ => ∃ (s : Int) (x : Sl), ρ = [.sc ns, .sh (.int s), x] ∧ 0 ≤ s ∧ s < 2147483648 ∧ plainSl ρ 2 = true) ⟨7, .un, rfl, by decide, by decide, rfl⟩ (fun n d ρ hd hI => ?_) (fun ρ hI => ?_)
  · obtain ⟨s, x, rfl, h1, h2, h3⟩ := hI
    rw [List.getElem?_map] at hd
    obtain ⟨y, hy, rfl⟩ := Option.map_eq_some_iff.mp hd
    have n1 : mulOk s 48271 = true := mulOk_small (by omega) (by decide)
    have hx : free [Sl.sc ns, .sh (.int s), x] 2 = true := by
      cases x <;> simp at h3 ⊢
    have hs := Int.emod_nonneg (s * 48271 + y) (show (2147483629 : Int) ≠ 0 by decide)
    have hs2 := Int.emod_lt_of_pos (s * 48271 + y) (show (0 : Int) < 2147483629 by decide)
    simp at hx
    simp [hx, n1]
    exact ⟨by omega, by omega⟩
  · obtain ⟨s, x, rfl, h1, h2, h3⟩ := hI
    simp at h3
    simp [e1, h3]
    refine ⟨by simp [lim]; omega, zc_ind (fun n ρ acc => ρ = [.sc ns, .sh (.int s), .un] ∧ ∃ cs : List Int, acc = nums cs ∧ cs.length ≤ n) ⟨rfl, [], rfl, by simp⟩ (fun n d ρ acc hd hI => ?_) (fun ρ acc hI => ?_)⟩
    · obtain ⟨rfl, cs, rfl, hc⟩ := hI
      rw [List.getElem?_map] at hd
      obtain ⟨y, hy, rfl⟩ := Option.map_eq_some_iff.mp hd
      simp
      exact ⟨cs ++ [if y < 0 then -y else y], by simp [nums], by simp; omega⟩
    · obtain ⟨rfl, cs, rfl, hc⟩ := hI
      simp [lim]
      exact ⟨cs, 0, 0, 0, s, 0, rfl, by decide, h1, h2, by decide, by decide, by simp at hc; omega⟩
/-- a law of one part, held for T turns -/
def bLaw1 (S Hd : Nat) (T : Int) : CS := (.seq (.asg (.nm 1) (.callsc S 0))
  (.seq (.for (.nm 2) (.rng (.k (.int 0)) (.k (.int T))) (.seq (.ite (.op1 .not (.op1 .truth (.callm Hd 1 .nil))) (.seq (.ret (.k (.bool false))) .pass) .pass) .pass))
  (.seq (.ret (.k (.bool true))) .pass)))
theorem law1 {S Hd : Nat} {T : Nat} (D : Nat) (hS : Γ[S]? = some ⟨1, 3, false, bStart⟩) (hL : Γ[i]? = some ⟨1, 3, false, bLaw1 S Hd T⟩) (hT : T * D < 1000000) (hT2 : T < 1000000)
    (hold : ∀ (c : Nat) (l : List PyData), Good c l → c + D < 1000000 → Zr (run F Γ (k + 1)) Hd [.io l] fun r o => r = .sh (.bool true) ∧ ∃ l', o = some l' ∧ Good (c + D) l') (ns : List Int) (hn : ns.length ≤ 63) :
    run F Γ (k + 2) i [.sc ns] = some (.sh (.bool true), none) := by
  refine run_of hL rfl ?_
  obtain ⟨r, o, e, l, rfl, hg⟩ := start_ok (F := F) (k := k) hS ns hn
  have hrg : rgOk 0 = true ∧ rgOk T = true := by
    constructor
    · decide
    · simp [rgOk]
      omega
  simp [bLaw1, zr_some e, hrg]
  refine zf_ind (fun n ρ => n ≤ T ∧ ∃ (l : List PyData) (x : Sl), ρ = [.sc ns, .ow l, x] ∧ Good (n * D) l ∧ free ρ 2 = true) ⟨Nat.zero_le _, l, .un, rfl, hg.mono (Nat.zero_le _), rfl⟩ (fun n d ρ hd hI => ?_) (fun ρ hI => ?_)
  · obtain ⟨hnT, l, x, rfl, hg, hx⟩ := hI
    have hlt : n < T := by
      have := List.getElem?_eq_some_iff.mp hd
      obtain ⟨h1, _⟩ := this
      simpa [rngD] using h1
    have hD : n * D + D ≤ T * D := by
      have : (n + 1) * D ≤ T * D := Nat.mul_le_mul_right D hlt
      rwa [Nat.add_mul, Nat.one_mul] at this
    obtain ⟨r, o, e2, rfl, l', rfl, hg'⟩ := hold (n * D) l hg (by omega)
    simp at hx
    simp [hx, zr_some e2]
    refine ⟨hlt, ?_⟩
    rw [Nat.add_mul, Nat.one_mul]
    exact hg'
  · obtain ⟨hnT, l, x, rfl, hg, hx⟩ := hI
    simp
end
end PP
namespace PP
open PySem
/-! ### plain facts -/
theorem cut_to {xs : List PyData} {z : Int} (h : 0 ≤ z) : cutD xs none (some z) = xs.take z.toNat := by
  unfold cutD
  obtain ⟨n, rfl⟩ := Int.eq_ofNat_of_zero_le h
  rw [show HT.sIx xs.length 0 none = 0 from HT.sIx_none _ _, show HT.sIx xs.length xs.length (some (n : Int)) = min n xs.length from HT.sIx_nat _ _ _]
  simp
theorem cut_from {xs : List PyData} {z : Int} (h : 0 ≤ z) : cutD xs (some z) none = xs.drop z.toNat := by
  unfold cutD
  obtain ⟨n, rfl⟩ := Int.eq_ofNat_of_zero_le h
  rw [show HT.sIx xs.length xs.length none = xs.length from HT.sIx_none _ _, show HT.sIx xs.length 0 (some (n : Int)) = min n xs.length from HT.sIx_nat _ _ _]
  simp only [Int.toNat_natCast]
  by_cases hn : n ≤ xs.length
  · rw [Nat.min_eq_left hn, List.take_of_length_le (by simp)]
  · rw [Nat.min_eq_right (by omega), List.drop_of_length_le (Nat.le_refl _), List.drop_of_length_le (by omega)]
    simp
theorem atI_last' {α : Type} {xs : List α} {v : α} (h : xs.getLast? = some v) : L2.atI xs (-1) = some v := by
  have := List.dropLast_concat_getLast (l := xs) (by rintro rfl; simp at h)
  rw [← this]
  rw [List.getLast?_eq_getLast (by rintro rfl; simp at h)] at h
  rw [Option.some.inj h]
  exact L2.atI_last _ _
@[simp] theorem bools_true {α : Type} : ∀ l : List α, boolsD (l.map fun _ => .bool true) = some (List.replicate l.length true)
  | [] => rfl
  | x :: l => by simp [boolsD, bools_true l, List.replicate_succ]
@[simp] theorem bools_rep : ∀ n : Nat, boolsD (List.replicate n (.bool true)) = some (List.replicate n true)
  | 0 => rfl
  | n + 1 => by simp [boolsD, bools_rep n, List.replicate_succ]
theorem mem_rng {i : Int} {n k : Nat} {d : PyData} (h : (rngD i n)[k]? = some d) : k < n ∧ d = .int (i + k) := by
  unfold rngD at h
  rw [List.getElem?_map] at h
  obtain ⟨j, h1, h2⟩ := Option.map_eq_some_iff.mp h
  obtain ⟨h3, h4⟩ := List.getElem?_eq_some_iff.mp h1
  simp at h3 h4
  exact ⟨h3, by rw [← h2, ← h4]⟩
@[simp] theorem rng_len {i : Int} {n : Nat} : (rngD i n).length = n := by simp [rngD]
@[simp] theorem intsD_take (n : Nat) (xs : List Int) : intsD (List.take n (List.map PyData.int xs)) = some (xs.take n) := by
  rw [← List.map_take]
  exact intsD_nums _
@[simp] theorem intsD_drop (n : Nat) (xs : List Int) : intsD (List.drop n (List.map PyData.int xs)) = some (xs.drop n) := by
  rw [← List.map_drop]
  exact intsD_nums _
/-- a comprehension that takes one value of each item -/
theorem zc_map {g : PyData → PEnv → Option PEnv} {c e : PEnv → Option (Sl × PEnv)} {vs : List Nat} {l : List PyData} {ρ : PEnv} {Q : List PyData → PEnv → Prop} (f : PyData → PyData)
    (step : ∀ d, d ∈ l → Is (g d ρ) fun ρ1 => Is (c ρ1) fun p => Is (toD p.1) fun y => Is (truthD y) fun t => t = true ∧ Is (e p.2) fun q => Is (toD q.1) fun z => wipeE q.2 vs = ρ ∧ f d = z)
    (fin : Q (l.map f) ρ) : Zc g c e vs l ρ [] Q := by
  refine zc_pure (fun d => some (f d)) (fun d hd => ?_) (by simpa [List.filterMap_eq_map] using fin)
  obtain ⟨ρ1, e1, p, e2, y, e3, t, e4, rfl, q, e5, z, e6, e7, e8⟩ := step d hd
  exact ⟨ρ1, e1, p, e2, y, e3, true, e4, by simpa using ⟨q, e5, z, e6, e7, by rw [e8]⟩⟩
theorem maxI_of : ∀ {l : List Int} {m : Int}, m ∈ l → (∀ x ∈ l, x ≤ m) → maxI l = some m
  | [x], m, h1, h2 => by
    have : m = x := by simpa using h1
    simp [maxI, this]
  | x :: y :: r, m, h1, h2 => by
    by_cases hm : m ∈ y :: r
    · have := maxI_of hm fun z hz => h2 z (List.mem_cons_of_mem _ hz)
      simp only [maxI, this, Option.map_some]
      have hx := h2 x (List.mem_cons_self ..)
      by_cases e : x < m
      · simp [e]
      · simp [e]; omega
    · have hx : m = x := by
        rcases List.mem_cons.mp h1 with e | e
        · exact e
        · exact absurd e hm
      subst hx
      have : ∃ z, maxI (y :: r) = some z ∧ z ∈ y :: r := by
        clear h1 h2 hm
        induction r generalizing y with
        | nil => exact ⟨y, rfl, by simp⟩
        | cons w r ih =>
          obtain ⟨z, h1, h2⟩ := ih w
          simp only [maxI, h1, Option.map_some]
          split
          · exact ⟨z, rfl, List.mem_cons_of_mem _ h2⟩
          · exact ⟨y, rfl, by simp⟩
      obtain ⟨z, h3, h4⟩ := this
      have := h2 z (List.mem_cons_of_mem _ h4)
      simp only [maxI, h3, Option.map_some]
      rw [if_neg (by omega)]
theorem minI_of : ∀ {l : List Int} {m : Int}, m ∈ l → (∀ x ∈ l, m ≤ x) → minI l = some m
  | [x], m, h1, h2 => by
    have : m = x := by simpa using h1
    simp [minI, this]
  | x :: y :: r, m, h1, h2 => by
    by_cases hm : m ∈ y :: r
    · have := minI_of hm fun z hz => h2 z (List.mem_cons_of_mem _ hz)
      simp only [minI, this, Option.map_some]
      have hx := h2 x (List.mem_cons_self ..)
      by_cases e : m < x
      · simp [e]
      · simp [e]; omega
    · have hx : m = x := by
        rcases List.mem_cons.mp h1 with e | e
        · exact e
        · exact absurd e hm
      subst hx
      have : ∃ z, minI (y :: r) = some z ∧ z ∈ y :: r := by
        clear h1 h2 hm
        induction r generalizing y with
        | nil => exact ⟨y, rfl, by simp⟩
        | cons w r ih =>
          obtain ⟨z, h1, h2⟩ := ih w
          simp only [minI, h1, Option.map_some]
          split
          · exact ⟨z, rfl, List.mem_cons_of_mem _ h2⟩
          · exact ⟨y, rfl, by simp⟩
      obtain ⟨z, h3, h4⟩ := this
      have := h2 z (List.mem_cons_of_mem _ h4)
      simp only [minI, h3, Option.map_some]
      rw [if_neg (by omega)]
theorem sort2 (x y : Int) : op1 .sorted (.list [.int x, .int y]) = some (.ow (if x ≤ y then [.int x, .int y] else [.int y, .int x])) := by
  have h : sortOk [.int x, .int y] = true := by
    simp [sortOk, allike, PySem.W.alike, notTup, lev, lim]
  have e : sortD [.int x, .int y] = if x ≤ y then [.int x, .int y] else [.int y, .int x] := by
    unfold sortD
    rw [PySem.W.dataLe_eq]
    simp [List.mergeSort, List.merge, PySem.W.dataLt_int, List.MergeSort.Internal.splitInTwo]
  simp only [op1, h, if_true, e]
theorem filt_range (a b n : Nat) : (List.range n).filter (fun x => decide (a ≤ x) && decide (x < b)) = List.range' a (min b n - a) := by
  induction n with
  | zero => simp
  | succ n ih =>
    rw [List.range_succ, List.filter_append, ih]
    by_cases h1 : a ≤ n <;> by_cases h2 : n < b
    · have e1 : min b n - a = n - a := by omega
      have e2 : min b (n + 1) - a = n - a + 1 := by omega
      have e3 : a + (n - a) = n := by omega
      simp [h1, h2, e1, e2, List.range'_concat, e3]
    · have e1 : min b n - a = min b (n + 1) - a := by omega
      simp [h1, h2, e1]
    · have e1 : min b n - a = 0 := by omega
      have e2 : min b (n + 1) - a = 0 := by omega
      simp [h1, h2, e1, e2]
    · have e1 : min b n - a = 0 := by omega
      have e2 : min b (n + 1) - a = 0 := by omega
      simp [h1, h2, e1, e2]
theorem zr_mono {cl : Calls} {f : Nat} {as : List Sl} {Q Q' : Sl → Option (List PyData) → Prop} (h : Zr cl f as Q) (m : ∀ r o, Q r o → Q' r o) : Zr cl f as Q' := by
  obtain ⟨r, o, e, q⟩ := h
  exact ⟨r, o, e, m r o q⟩
theorem x_cut {cl : Calls} {F : Nat} {a b : CS} {ρ : PEnv} {N : PEnv → Prop} {R : Sl → PEnv → Prop} (M : PEnv → Prop) (h1 : Zx cl F a ρ M R) (h2 : ∀ ρ1, M ρ1 → Zx cl F b ρ1 N R) : Zx cl F (.seq a b) ρ N R := by
  rw [x_seq]
  obtain ⟨x, e, q⟩ := h1
  refine ⟨x, e, ?_⟩
  cases x with
  | nx ρ => exact h2 ρ q
  | rt r ρ => exact q
theorem filterMap_if {α β : Type} (p : α → Bool) (v : α → β) : ∀ l : List α, l.filterMap (fun j => if p j = true then some (v j) else none) = (l.filter p).map v
  | [] => rfl
  | x :: l => by
    by_cases h : p x = true <;> simp [List.filterMap_cons, h, filterMap_if p v l]
theorem div_eq_iff {x b A : Int} (hb : 0 < b) : x / b = A ↔ A * b ≤ x ∧ x < A * b + b := by
  have h1 := Int.le_ediv_iff_mul_le (a := A) (b := x) hb
  have h2 := Int.ediv_lt_iff_lt_mul (a := x) (b := A + 1) hb
  rw [Int.add_mul, Int.one_mul] at h2
  omega
end PP
namespace Gk37
open PySem L2 PP PySem.Spec PyProof.Rows
def topS (i : Nat) : Stmt := PySem.Challenge.pw_raingauged_k37_two_buckets_and_lost_tips.main.body.getD i (.Pass ⟨0, 0, 0, 0⟩)
def cons : List (Str × PyData) := [("MAX_SIZE", (.int 1000000000000)), ("MAX_HOURS", (.int 40))]
def i_is_integer : FI := ⟨0, 1, [], false, false⟩
def i_is_between : FI := ⟨1, 3, [], false, false⟩
def i_check_bucket : FI := ⟨2, 2, [(.str (Str.ofString "bucket"))], false, false⟩
def i_check_rests : FI := ⟨3, 3, [], false, false⟩
def i_check_tips : FI := ⟨4, 2, [(.str (Str.ofString "tips"))], false, false⟩
def i_tips_of : FI := ⟨5, 3, [], false, false⟩
def i_lost_tips : FI := ⟨6, 4, [], false, false⟩
def i_judge_two : FI := ⟨7, 4, [], false, false⟩
def i__law_start : FI := ⟨8, 1, [], false, true⟩
def i__law_draw : FI := ⟨9, 2, [], true, false⟩
def i__law_buckets_hold : FI := ⟨10, 1, [], true, false⟩
def i_law : FI := ⟨11, 1, [], false, true⟩
def fns : List (Str × FI) := [("is_integer", i_is_integer), ("is_between", i_is_between), ("check_bucket", i_check_bucket), ("check_rests", i_check_rests), ("check_tips", i_check_tips), ("tips_of", i_tips_of), ("lost_tips", i_lost_tips), ("judge_two", i_judge_two), ("_law_start", i__law_start), ("_law_draw", i__law_draw), ("_law_buckets_hold", i__law_buckets_hold), ("law", i_law)]
abbrev s_is_integer : Stmt := topS 7
def n_is_integer : List Str := ["value"]
abbrev s_is_between : Stmt := topS 8
def n_is_between : List Str := ["value", "low", "high"]
abbrev s_check_bucket : Stmt := topS 10
def n_check_bucket : List Str := ["bucket", "reason"]
abbrev s_check_rests : Stmt := topS 11
def n_check_rests : List Str := ["bucket", "rests", "reason"]
abbrev s_check_tips : Stmt := topS 12
def n_check_tips : List Str := ["tips", "reason", "own"]
abbrev s_tips_of : Stmt := topS 13
def n_tips_of : List Str := ["bucket", "rest", "rains", "rain", "found", "here", "own"]
abbrev s_lost_tips : Stmt := topS 14
def n_lost_tips : List Str := ["bucket", "rests", "tips", "whole", "least", "most"]
abbrev s_judge_two : Stmt := topS 15
def n_judge_two : List Str := ["one", "first", "other", "second", "rows", "at", "here", "there", "low", "high"]
abbrev s__law_start : Stmt := topS 17
def n__law_start : List Str := ["script", "seed", "cell"]
abbrev s__law_draw : Stmt := topS 18
def n__law_draw : List Str := ["state", "many", "found"]
abbrev s__law_buckets_hold : Stmt := topS 19
def n__law_buckets_hold : List Str := ["state", "rains", "at", "lost", "one", "other", "many", "first", "second", "rows", "never", "fits", "rests", "whole", "own", "k", "rain", "rest"]
abbrev s_law : Stmt := topS 20
def n_law : List Str := ["script", "state", "turn"]
def b_is_integer : CS := (.seq (.ret (.and (.op1v .isint 0) (.op1 .not (.op1v .isbool 0))))
  .pass)
def b_is_between : CS := (.seq (.ret (.and (.call 0 (.cons (.v 0) .nil)) (.chain .le .le (.v 1) (.v 0) (.v 2))))
  .pass)
def b_check_bucket : CS := (.seq (.ite (.op1 .not (.op1 .truth (.call 1 (.cons (.v 0) (.cons (.k (.int 1)) (.cons (.k (.int 1000000000000)) .nil)))))) (.seq .fail
  .pass) .pass)
  .pass)
def b_check_rests : CS := (.seq (.ite (.or (.op1 .not (.op1 .truth (.op1v .istuple 1))) (.or (.op2 .ne (.op1v .len 1) (.k (.int 2))) (.op1 .not (.op1 .truth (.call 1 (.cons (.op2v .ix 1 (.k (.int 0))) (.cons (.k (.int 0)) (.cons (.op2v .sub 0 (.k (.int 1))) .nil)))))))) (.seq .fail
  .pass) .pass)
  (.seq (.ite (.op1 .not (.op1 .truth (.call 1 (.cons (.op2v .ix 1 (.k (.int 1))) (.cons (.op2v .ix 1 (.k (.int 0))) (.cons (.op2v .sub 0 (.k (.int 1))) .nil)))))) (.seq .fail
  .pass) .pass)
  .pass))
def b_check_tips : CS := (.seq (.ite (.or (.op1 .not (.op1 .truth (.op1v .istuple 0))) (.op1 .not (.chain .le .le (.k (.int 1)) (.op1v .len 0) (.k (.int 40))))) (.seq .fail
  .pass) .pass)
  (.seq (.ite (.op1 .not (.op1 .truth (.op1 .all (.comp (.v 0) [2] (.nm 2) (.k (.bool true)) (.call 1 (.cons (.v 2) (.cons (.k (.int 0)) (.cons (.k (.int 1000000000000)) .nil)))))))) (.seq .fail
  .pass) .pass)
  .pass))
def b_tips_of : CS := (.seq (.drop (.call 2 (.cons (.v 0) (.cons (.k (.str "bucket")) .nil))))
  (.seq (.drop (.call 3 (.cons (.v 0) (.cons (.tup (.cons (.v 1) (.cons (.v 1) .nil))) (.cons (.k (.str "rest")) .nil)))))
  (.seq (.ite (.or (.op1 .not (.op1 .truth (.op1v .istuple 2))) (.op1 .not (.chain .le .le (.k (.int 1)) (.op1v .len 2) (.k (.int 40))))) (.seq .fail
  .pass) .pass)
  (.seq (.ite (.op1 .not (.op1 .truth (.op1 .all (.comp (.v 2) [6] (.nm 6) (.k (.bool true)) (.call 1 (.cons (.v 6) (.cons (.k (.int 0)) (.cons (.k (.int 1000000000000)) .nil)))))))) (.seq .fail
  .pass) .pass)
  (.seq (.par (.cons (.nm 4) (.cons (.nm 5) .nil)) (.cons (.lst .nil) (.cons (.v 1) .nil)))
  (.seq (.for (.nm 3) (.v 2) (.seq (.app 4 (.op2w .fdiv (.op2x .add 5 3) 0))
  (.seq (.asg (.nm 5) (.op2 .sub (.op2x .add 5 3) (.op2w .mul (.op2v .ix 4 (.op1 .neg (.k (.int 1)))) 0)))
  .pass)))
  (.seq (.ret (.tup (.cons (.op1v .tuple 4) (.cons (.v 5) .nil))))
  .pass)))))))
def b_lost_tips : CS := (.seq (.drop (.call 2 (.cons (.v 0) (.cons (.k (.str "bucket")) .nil))))
  (.seq (.drop (.call 3 (.cons (.v 0) (.cons (.v 1) (.cons (.k (.str "rests")) .nil)))))
  (.seq (.drop (.call 4 (.cons (.v 2) (.cons (.k (.str "tips")) .nil))))
  (.seq (.ite (.or (.op1 .not (.op1 .truth (.call 0 (.cons (.v 3) .nil)))) (.op2v .lt 3 (.k (.int 0)))) (.seq .fail
  .pass) .pass)
  (.seq (.par (.cons (.nm 4) (.cons (.nm 5) .nil)) (.cons (.op2 .sub (.op2w .fdiv (.op2v .add 3 (.op2v .ix 1 (.k (.int 0)))) 0) (.op1v .sum 2)) (.cons (.op2 .sub (.op2w .fdiv (.op2v .add 3 (.op2v .ix 1 (.k (.int 1)))) 0) (.op1v .sum 2)) .nil)))
  (.seq (.ret (.ite (.op2v .lt 5 (.k (.int 0))) (.k .none) (.tup (.cons (.bi2 .max (.k (.int 0)) (.v 4)) (.cons (.v 5) .nil)))))
  .pass))))))
def b_judge_two : CS := (.seq (.drop (.call 2 (.cons (.v 0) (.cons (.k (.str "one")) .nil))))
  (.seq (.drop (.call 4 (.cons (.v 1) (.cons (.k (.str "first")) .nil))))
  (.seq (.drop (.call 2 (.cons (.v 2) (.cons (.k (.str "other")) .nil))))
  (.seq (.drop (.call 4 (.cons (.v 3) (.cons (.k (.str "second")) .nil))))
  (.seq (.ite (.op2 .ne (.op1v .len 3) (.op1v .len 1)) (.seq .fail
  .pass) .pass)
  (.seq (.asg (.nm 4) (.lst .nil))
  (.seq (.for (.nm 5) (.rng (.k (.int 0)) (.op1v .len 1)) (.seq (.par (.cons (.nm 6) (.cons (.nm 7) .nil)) (.cons (.op2w .mul (.op1 .sum (.slv 1 (.k .none) (.op2v .add 5 (.k (.int 1))))) 0) (.cons (.op2w .mul (.op1 .sum (.slv 3 (.k .none) (.op2v .add 5 (.k (.int 1))))) 2) .nil)))
  (.seq (.par (.cons (.nm 8) (.cons (.nm 9) .nil)) (.cons (.bi2 .max (.v 6) (.v 7)) (.cons (.op2 .sub (.bi2 .min (.op2x .add 6 0) (.op2x .add 7 2)) (.k (.int 1))) .nil)))
  (.seq (.ite (.op2x .gt 8 9) (.seq (.ret (.tup (.cons (.k (.str "never")) (.cons (.v 5) .nil))))
  .pass) .pass)
  (.seq (.app 4 (.tup (.cons (.v 8) (.cons (.v 9) .nil))))
  .pass)))))
  (.seq (.ret (.tup (.cons (.k (.str "rain")) (.cons (.op1v .tuple 4) .nil))))
  .pass))))))))
def b__law_start : CS := (.seq (.asg (.nm 1) (.k (.int 7)))
  (.seq (.for (.nm 2) (.slsc 0 (.k .none) (.k (.int 63))) (.seq (.asg (.nm 1) (.op2 .add (.op2 .mod (.op1 .int (.op2w .add (.op2v .mul 1 (.k (.int 48271))) 2)) (.k (.int 2147483629))) (.k (.int 1))))
  .pass))
  (.seq (.ret (.lst (.cons (.comp (.slsc 0 (.k .none) (.k (.int 63))) [2] (.nm 2) (.k (.bool true)) (.op1 .abs (.op1v .int 2))) (.cons (.k (.int 0)) (.cons (.k (.int 0)) (.cons (.k (.int 0)) (.cons (.v 1) (.cons (.k (.int 0)) .nil))))))))
  .pass)))
def b__law_draw : CS := (.seq (.ite (.and (.op2 .eq (.op2v .ix 0 (.k (.int 3))) (.k (.int 0))) (.op2 .lt (.op2v .ix 0 (.k (.int 1))) (.op1 .len (.op2v .ix 0 (.k (.int 0)))))) (.seq (.asg (.tp (.cons (.ix 0 2) (.cons (.ix 0 3) (.cons (.ix 0 1) .nil)))) (.tup (.cons (.op2 .ix (.op2v .ix 0 (.k (.int 0))) (.op2v .ix 0 (.k (.int 1)))) (.cons (.k (.int 60)) (.cons (.op2 .add (.op2v .ix 0 (.k (.int 1))) (.k (.int 1))) .nil)))))
  .pass) .pass)
  (.seq (.ite (.op2 .gt (.op2v .ix 0 (.k (.int 3))) (.k (.int 0))) (.seq (.asg (.nm 2) (.op2w .mod (.op1 .int (.op2v .ix 0 (.k (.int 2)))) 1))
  (.seq (.seti 0 (.k (.int 2)) (.op2w .fdiv (.op2v .ix 0 (.k (.int 2))) 1))
  (.seq (.seti 0 (.k (.int 3)) (.ite (.op2 .gt (.op2v .ix 0 (.k (.int 2))) (.k (.int 0))) (.op2 .sub (.op2v .ix 0 (.k (.int 3))) (.k (.int 1))) (.k (.int 0))))
  (.seq (.ret (.mv 2))
  .pass)))) .pass)
  (.seq (.seti 0 (.k (.int 5)) (.op2 .add (.op2v .ix 0 (.k (.int 5))) (.k (.int 1))))
  (.seq (.seti 0 (.k (.int 4)) (.op2 .mod (.op1 .int (.op2 .add (.op2 .add (.op2 .mul (.op2v .ix 0 (.k (.int 4))) (.k (.int 48271))) (.op2 .mul (.op2 .mul (.op2v .ix 0 (.k (.int 5))) (.op2v .ix 0 (.k (.int 5)))) (.k (.int 69621)))) (.k (.int 11)))) (.k (.int 2147483647))))
  (.seq (.ret (.op2w .mod (.op1 .int (.op2 .fdiv (.op2v .ix 0 (.k (.int 4))) (.k (.int 13)))) 1))
  .pass)))))
def b__law_buckets_hold : CS := (.seq (.asg (.tp (.cons (.nm 4) (.cons (.nm 5) (.cons (.nm 6) .nil)))) (.tup (.cons (.op2 .add (.k (.int 1)) (.callm 9 0 (.cons (.k (.int 6)) .nil))) (.cons (.op2 .add (.k (.int 1)) (.callm 9 0 (.cons (.k (.int 6)) .nil))) (.cons (.op2 .add (.k (.int 1)) (.callm 9 0 (.cons (.k (.int 4)) .nil))) .nil)))))
  (.seq (.asg (.nm 1) (.op1 .tuple (.comp (.rng (.k (.int 0)) (.v 6)) [15] (.nm 15) (.k (.bool true)) (.callm 9 0 (.cons (.k (.int 12)) .nil)))))
  (.seq (.asg (.tp (.cons (.nm 7) (.cons (.nm 8) .nil))) (.tup (.cons (.op2 .ix (.call 5 (.cons (.v 4) (.cons (.k (.int 0)) (.cons (.v 1) .nil)))) (.k (.int 0))) (.cons (.op2 .ix (.call 5 (.cons (.v 5) (.cons (.k (.int 0)) (.cons (.v 1) .nil)))) (.k (.int 0))) .nil))))
  (.seq (.ite (.op1 .truth (.callm 9 0 (.cons (.k (.int 2)) .nil))) (.seq (.asg (.nm 2) (.callm 9 0 (.cons (.v 6) .nil)))
  (.seq (.asg (.nm 8) (.op2 .add (.op2 .add (.slv 8 (.k .none) (.v 2)) (.tup (.cons (.op2 .add (.op2x .ix 8 2) (.k (.int 1))) .nil))) (.slv 8 (.op2v .add 2 (.k (.int 1))) (.k .none))))
  .pass)) .pass)
  (.seq (.par (.cons (.nm 9) (.cons (.nm 10) .nil)) (.cons (.lst .nil) (.cons (.k .none) .nil)))
  (.seq (.for (.nm 2) (.rng (.k (.int 0)) (.v 6)) (.seq (.asg (.nm 11) (.comp (.rng (.k (.int 0)) (.k (.int 80))) [16] (.nm 16) (.and (.op2 .eq (.op2x .fdiv 16 4) (.op1 .sum (.slv 7 (.k .none) (.op2v .add 2 (.k (.int 1)))))) (.op2 .eq (.op2x .fdiv 16 5) (.op1 .sum (.slv 8 (.k .none) (.op2v .add 2 (.k (.int 1))))))) (.v 16)))
  (.seq (.asg (.nm 10) (.ite (.and (.op1 .not (.op1v .truth 11)) (.op2v .is 10 (.k .none))) (.v 2) (.v 10)))
  (.seq (.app 9 (.ite (.op1v .truth 11) (.tup (.cons (.op2v .ix 11 (.k (.int 0))) (.cons (.op2v .ix 11 (.op1 .neg (.k (.int 1)))) .nil))) (.k .none)))
  .pass))))
  (.seq (.ite (.op2 .ne (.call 7 (.cons (.v 4) (.cons (.v 7) (.cons (.v 5) (.cons (.v 8) .nil))))) (.ite (.op2v .isnt 10 (.k .none)) (.tup (.cons (.k (.str "never")) (.cons (.v 10) .nil))) (.tup (.cons (.k (.str "rain")) (.cons (.op1v .tuple 9) .nil))))) (.seq (.ret (.k (.bool false)))
  .pass) .pass)
  (.seq (.asg (.tp (.cons (.nm 12) (.cons (.nm 13) .nil))) (.tup (.cons (.op1 .sorted (.lst (.cons (.callm 9 0 (.cons (.v 4) .nil)) (.cons (.callm 9 0 (.cons (.v 4) .nil)) .nil)))) (.cons (.callm 9 0 (.cons (.k (.int 60)) .nil)) .nil))))
  (.seq (.asg (.nm 3) (.comp (.comp (.rng (.op2v .ix 12 (.k (.int 0))) (.op2 .add (.op2v .ix 12 (.k (.int 1))) (.k (.int 1)))) [17] (.nm 17) (.k (.bool true)) (.op2 .ix (.op2 .ix (.call 5 (.cons (.v 4) (.cons (.v 17) (.cons (.tup (.cons (.v 13) .nil)) .nil)))) (.k (.int 0))) (.k (.int 0)))) [14] (.nm 14) (.k (.bool true)) (.op2v .sub 14 (.op1v .sum 7))))
  (.seq (.ret (.op2 .eq (.call 6 (.cons (.v 4) (.cons (.op1v .tuple 12) (.cons (.v 7) (.cons (.v 13) .nil))))) (.ite (.op2 .lt (.op1v .max 3) (.k (.int 0))) (.k .none) (.tup (.cons (.op1 .max (.lst (.cons (.k (.int 0)) (.cons (.op1v .min 3) .nil)))) (.cons (.op1v .max 3) .nil))))))
  .pass))))))))))
def b_law : CS := (.seq (.asg (.nm 1) (.callsc 8 0))
  (.seq (.for (.nm 2) (.rng (.k (.int 0)) (.k (.int 4))) (.seq (.ite (.op1 .not (.op1 .truth (.callm 10 1 .nil))) (.seq (.ret (.k (.bool false)))
  .pass) .pass)
  .pass))
  (.seq (.ret (.k (.bool true)))
  .pass)))
def d_is_integer : FD := ⟨"is_integer", s_is_integer, n_is_integer, ["value"], i_is_integer, b_is_integer⟩
def d_is_between : FD := ⟨"is_between", s_is_between, n_is_between, ["value", "low", "high"], i_is_between, b_is_between⟩
def d_check_bucket : FD := ⟨"check_bucket", s_check_bucket, n_check_bucket, ["bucket", "reason"], i_check_bucket, b_check_bucket⟩
def d_check_rests : FD := ⟨"check_rests", s_check_rests, n_check_rests, ["bucket", "rests", "reason"], i_check_rests, b_check_rests⟩
def d_check_tips : FD := ⟨"check_tips", s_check_tips, n_check_tips, ["tips", "reason"], i_check_tips, b_check_tips⟩
def d_tips_of : FD := ⟨"tips_of", s_tips_of, n_tips_of, ["bucket", "rest", "rains"], i_tips_of, b_tips_of⟩
def d_lost_tips : FD := ⟨"lost_tips", s_lost_tips, n_lost_tips, ["bucket", "rests", "tips", "whole"], i_lost_tips, b_lost_tips⟩
def d_judge_two : FD := ⟨"judge_two", s_judge_two, n_judge_two, ["one", "first", "other", "second"], i_judge_two, b_judge_two⟩
def d__law_start : FD := ⟨"_law_start", s__law_start, n__law_start, ["script"], i__law_start, b__law_start⟩
def d__law_draw : FD := ⟨"_law_draw", s__law_draw, n__law_draw, ["state", "many"], i__law_draw, b__law_draw⟩
def d__law_buckets_hold : FD := ⟨"_law_buckets_hold", s__law_buckets_hold, n__law_buckets_hold, ["state"], i__law_buckets_hold, b__law_buckets_hold⟩
def d_law : FD := ⟨"law", s_law, n_law, ["script"], i_law, b_law⟩
def ds : List FD := [d_is_integer, d_is_between, d_check_bucket, d_check_rests, d_check_tips, d_tips_of, d_lost_tips, d_judge_two, d__law_start, d__law_draw, d__law_buckets_hold, d_law]
def tab : List Fn := tabOf ds
theorem fns_eq : fnsOf ds = fns := rfl
theorem c_is_integer : compSs 60 (d_is_integer.sta fns cons) (defBody s_is_integer) = some b_is_integer := by kernel_rfl
theorem g_is_integer : d_is_integer.good 0 (fnsOf ds) cons := by
  refine ⟨⟨rfl, rfl, c_is_integer, by decide +kernel, rfl⟩, ⟨rfl, rfl, rfl, by decide +kernel, rfl, by decide +kernel, by decide +kernel⟩, fun K f fd dvs hl F j hj => ?_, by decide⟩
  have hl2 : dvs.length = 0 := hl
  have e : dvs = [] := List.eq_nil_of_length_eq_zero hl2
  subst e
  have b := FunD.bindsN (ps := ["value"]) F fun _ _ _ _ _ _ us hl => match us, hl with | [_], _ => rfl
  rw [List.drop_nil]
  exact ⟨[], .nil, b⟩
theorem c_is_between : compSs 60 (d_is_between.sta fns cons) (defBody s_is_between) = some b_is_between := by kernel_rfl
theorem g_is_between : d_is_between.good 1 (fnsOf ds) cons := by
  refine ⟨⟨rfl, rfl, c_is_between, by decide +kernel, rfl⟩, ⟨rfl, rfl, rfl, by decide +kernel, rfl, by decide +kernel, by decide +kernel⟩, fun K f fd dvs hl F j hj => ?_, by decide⟩
  have hl2 : dvs.length = 0 := hl
  have e : dvs = [] := List.eq_nil_of_length_eq_zero hl2
  subst e
  have b := FunD.bindsN (ps := ["value", "low", "high"]) F fun _ _ _ _ _ _ us hl => match us, hl with | [_, _, _], _ => rfl
  rw [List.drop_nil]
  exact ⟨[], .nil, b⟩
theorem c_check_bucket : compSs 60 (d_check_bucket.sta fns cons) (defBody s_check_bucket) = some b_check_bucket := by kernel_rfl
theorem g_check_bucket : d_check_bucket.good 2 (fnsOf ds) cons := by
  refine ⟨⟨rfl, rfl, c_check_bucket, by decide +kernel, rfl⟩, ⟨rfl, rfl, rfl, by decide +kernel, rfl, by decide +kernel, by decide +kernel⟩, fun K f fd dvs hl F j hj => ?_, by decide⟩
  have hl2 : dvs.length = 1 := hl
  have hd : dvs ≠ [] := fun e => by simp [e] at hl2
  have hj2 : j ≤ 1 := hj
  have b0 := FunD.binds1 (ps := ["bucket", "reason"]) F 1 0 hd (by rw [hl2]; rfl) fun T kV doc pm an cdv ct us its hu hi => by
    rw [hl2] at hi
    exact match us, its, hu, hi with | [_], [_], _, _ => ⟨_, rfl, rfl⟩
  have b1 := FunD.binds1 (ps := ["bucket", "reason"]) F 2 1 hd (by rw [hl2]; rfl) fun T kV doc pm an cdv ct us its hu hi => by
    rw [hl2] at hi
    exact match us, its, hu, hi with | [_, _], [_], _, _ => ⟨_, rfl, rfl⟩
  match j, hj2 with
  | 0, _ => exact b0
  | 1, _ => exact b1
theorem c_check_rests : compSs 60 (d_check_rests.sta fns cons) (defBody s_check_rests) = some b_check_rests := by kernel_rfl
theorem g_check_rests : d_check_rests.good 3 (fnsOf ds) cons := by
  refine ⟨⟨rfl, rfl, c_check_rests, by decide +kernel, rfl⟩, ⟨rfl, rfl, rfl, by decide +kernel, rfl, by decide +kernel, by decide +kernel⟩, fun K f fd dvs hl F j hj => ?_, by decide⟩
  have hl2 : dvs.length = 0 := hl
  have e : dvs = [] := List.eq_nil_of_length_eq_zero hl2
  subst e
  have b := FunD.bindsN (ps := ["bucket", "rests", "reason"]) F fun _ _ _ _ _ _ us hl => match us, hl with | [_, _, _], _ => rfl
  rw [List.drop_nil]
  exact ⟨[], .nil, b⟩
theorem c_check_tips : compSs 60 (d_check_tips.sta fns cons) (defBody s_check_tips) = some b_check_tips := by kernel_rfl
theorem g_check_tips : d_check_tips.good 4 (fnsOf ds) cons := by
  refine ⟨⟨rfl, rfl, c_check_tips, by decide +kernel, rfl⟩, ⟨rfl, rfl, rfl, by decide +kernel, rfl, by decide +kernel, by decide +kernel⟩, fun K f fd dvs hl F j hj => ?_, by decide⟩
  have hl2 : dvs.length = 1 := hl
  have hd : dvs ≠ [] := fun e => by simp [e] at hl2
  have hj2 : j ≤ 1 := hj
  have b0 := FunD.binds1 (ps := ["tips", "reason"]) F 1 0 hd (by rw [hl2]; rfl) fun T kV doc pm an cdv ct us its hu hi => by
    rw [hl2] at hi
    exact match us, its, hu, hi with | [_], [_], _, _ => ⟨_, rfl, rfl⟩
  have b1 := FunD.binds1 (ps := ["tips", "reason"]) F 2 1 hd (by rw [hl2]; rfl) fun T kV doc pm an cdv ct us its hu hi => by
    rw [hl2] at hi
    exact match us, its, hu, hi with | [_, _], [_], _, _ => ⟨_, rfl, rfl⟩
  match j, hj2 with
  | 0, _ => exact b0
  | 1, _ => exact b1
theorem c_tips_of : compSs 60 (d_tips_of.sta fns cons) (defBody s_tips_of) = some b_tips_of := by kernel_rfl
theorem g_tips_of : d_tips_of.good 5 (fnsOf ds) cons := by
  refine ⟨⟨rfl, rfl, c_tips_of, by decide +kernel, rfl⟩, ⟨rfl, rfl, rfl, by decide +kernel, rfl, by decide +kernel, by decide +kernel⟩, fun K f fd dvs hl F j hj => ?_, by decide⟩
  have hl2 : dvs.length = 0 := hl
  have e : dvs = [] := List.eq_nil_of_length_eq_zero hl2
  subst e
  have b := FunD.bindsN (ps := ["bucket", "rest", "rains"]) F fun _ _ _ _ _ _ us hl => match us, hl with | [_, _, _], _ => rfl
  rw [List.drop_nil]
  exact ⟨[], .nil, b⟩
theorem c_lost_tips : compSs 60 (d_lost_tips.sta fns cons) (defBody s_lost_tips) = some b_lost_tips := by kernel_rfl
theorem g_lost_tips : d_lost_tips.good 6 (fnsOf ds) cons := by
  refine ⟨⟨rfl, rfl, c_lost_tips, by decide +kernel, rfl⟩, ⟨rfl, rfl, rfl, by decide +kernel, rfl, by decide +kernel, by decide +kernel⟩, fun K f fd dvs hl F j hj => ?_, by decide⟩
  have hl2 : dvs.length = 0 := hl
  have e : dvs = [] := List.eq_nil_of_length_eq_zero hl2
  subst e
  have b := FunD.bindsN (ps := ["bucket", "rests", "tips", "whole"]) F fun _ _ _ _ _ _ us hl => match us, hl with | [_, _, _, _], _ => rfl
  rw [List.drop_nil]
  exact ⟨[], .nil, b⟩
theorem c_judge_two : compSs 60 (d_judge_two.sta fns cons) (defBody s_judge_two) = some b_judge_two := by kernel_rfl
theorem g_judge_two : d_judge_two.good 7 (fnsOf ds) cons := by
  refine ⟨⟨rfl, rfl, c_judge_two, by decide +kernel, rfl⟩, ⟨rfl, rfl, rfl, by decide +kernel, rfl, by decide +kernel, by decide +kernel⟩, fun K f fd dvs hl F j hj => ?_, by decide⟩
  have hl2 : dvs.length = 0 := hl
  have e : dvs = [] := List.eq_nil_of_length_eq_zero hl2
  subst e
  have b := FunD.bindsN (ps := ["one", "first", "other", "second"]) F fun _ _ _ _ _ _ us hl => match us, hl with | [_, _, _, _], _ => rfl
  rw [List.drop_nil]
  exact ⟨[], .nil, b⟩
theorem c__law_start : compSs 60 (d__law_start.sta fns cons) (defBody s__law_start) = some b__law_start := by kernel_rfl
theorem g__law_start : d__law_start.good 8 (fnsOf ds) cons := by
  refine ⟨⟨rfl, rfl, c__law_start, by decide +kernel, rfl⟩, ⟨rfl, rfl, rfl, by decide +kernel, rfl, by decide +kernel, by decide +kernel⟩, fun K f fd dvs hl F j hj => ?_, by decide⟩
  have hl2 : dvs.length = 0 := hl
  have e : dvs = [] := List.eq_nil_of_length_eq_zero hl2
  subst e
  have b := FunD.bindsN (ps := ["script"]) F fun _ _ _ _ _ _ us hl => match us, hl with | [_], _ => rfl
  rw [List.drop_nil]
  exact ⟨[], .nil, b⟩
theorem c__law_draw : compSs 60 (d__law_draw.sta fns cons) (defBody s__law_draw) = some b__law_draw := by kernel_rfl
theorem g__law_draw : d__law_draw.good 9 (fnsOf ds) cons := by
  refine ⟨⟨rfl, rfl, c__law_draw, by decide +kernel, rfl⟩, ⟨rfl, rfl, rfl, by decide +kernel, rfl, by decide +kernel, by decide +kernel⟩, fun K f fd dvs hl F j hj => ?_, by decide⟩
  have hl2 : dvs.length = 0 := hl
  have e : dvs = [] := List.eq_nil_of_length_eq_zero hl2
  subst e
  have b := FunD.bindsN (ps := ["state", "many"]) F fun _ _ _ _ _ _ us hl => match us, hl with | [_, _], _ => rfl
  rw [List.drop_nil]
  exact ⟨[], .nil, b⟩
theorem c__law_buckets_hold : compSs 60 (d__law_buckets_hold.sta fns cons) (defBody s__law_buckets_hold) = some b__law_buckets_hold := by kernel_rfl
theorem g__law_buckets_hold : d__law_buckets_hold.good 10 (fnsOf ds) cons := by
  refine ⟨⟨rfl, rfl, c__law_buckets_hold, by decide +kernel, rfl⟩, ⟨rfl, rfl, rfl, by decide +kernel, rfl, by decide +kernel, by decide +kernel⟩, fun K f fd dvs hl F j hj => ?_, by decide⟩
  have hl2 : dvs.length = 0 := hl
  have e : dvs = [] := List.eq_nil_of_length_eq_zero hl2
  subst e
  have b := FunD.bindsN (ps := ["state"]) F fun _ _ _ _ _ _ us hl => match us, hl with | [_], _ => rfl
  rw [List.drop_nil]
  exact ⟨[], .nil, b⟩
theorem c_law : compSs 60 (d_law.sta fns cons) (defBody s_law) = some b_law := by kernel_rfl
theorem g_law : d_law.good 11 (fnsOf ds) cons := by
  refine ⟨⟨rfl, rfl, c_law, by decide +kernel, rfl⟩, ⟨rfl, rfl, rfl, by decide +kernel, rfl, by decide +kernel, by decide +kernel⟩, fun K f fd dvs hl F j hj => ?_, by decide⟩
  have hl2 : dvs.length = 0 := hl
  have e : dvs = [] := List.eq_nil_of_length_eq_zero hl2
  subst e
  have b := FunD.bindsN (ps := ["script"]) F fun _ _ _ _ _ _ us hl => match us, hl with | [_], _ => rfl
  rw [List.drop_nil]
  exact ⟨[], .nil, b⟩
theorem good : ∀ (i : Nat) (d : FD), ds[i]? = some d → d.good i (fnsOf ds) cons := fun i d e => by
  match i, e with
  | 0, e => cases e; exact g_is_integer
  | 1, e => cases e; exact g_is_between
  | 2, e => cases e; exact g_check_bucket
  | 3, e => cases e; exact g_check_rests
  | 4, e => cases e; exact g_check_tips
  | 5, e => cases e; exact g_tips_of
  | 6, e => cases e; exact g_lost_tips
  | 7, e => cases e; exact g_judge_two
  | 8, e => cases e; exact g__law_start
  | 9, e => cases e; exact g__law_draw
  | 10, e => cases e; exact g__law_buckets_hold
  | 11, e => cases e; exact g_law
  | n + 12, e => cases e
end Gk37
namespace Gk37
open PySem L2 PP PySem.Spec PyProof.Rows
abbrev T := tab
abbrev FF : Nat := 1000
section
variable {k : Nat}
theorem q_int (v : Int) : run FF T (k + 1) 0 [.sh (.int v)] = some (.sh (.bool true), none) := r_isint (by rfl) v
theorem q_betw (v lo hi : Int) : run FF T (k + 2) 1 [.sh (.int v), .sh (.int lo), .sh (.int hi)] = some (.sh (.bool (decide (lo ≤ v ∧ v ≤ hi))), none) := r_betw (i := 0) (by rfl) (by rfl) v lo hi
theorem q_bucket (v : Int) (s : PyData) (h1 : 1 ≤ v) (h2 : v ≤ 1000000000000) : run FF T (k + 3) 2 [.sh (.int v), .sh s] = some (.sh .none, none) := by
  refine run_of (fn := ⟨2, 2, false, b_check_bucket⟩) (by rfl) rfl ?_
  simp [b_check_bucket, zr_some (q_betw _ _ _), h1, h2]
theorem q_rests (v x y : Int) (s : PyData) (h1 : 0 ≤ x) (h2 : x ≤ y) (h3 : y ≤ v - 1) : run FF T (k + 3) 3 [.sh (.int v), .sh (.tuple [.int x, .int y]), .sh s] = some (.sh .none, none) := by
  refine run_of (fn := ⟨3, 3, false, b_check_rests⟩) (by rfl) rfl ?_
  have h4 : x ≤ v - 1 := by omega
  simp [b_check_rests, zr_some (q_betw _ _ _), h1, h2, h3, h4]
theorem q_tips (ts : List Int) (s : PyData) (h1 : 1 ≤ ts.length) (h2 : ts.length ≤ 40) (h3 : ∀ t ∈ ts, 0 ≤ t ∧ t ≤ 1000000000000) : run FF T (k + 3) 4 [.sh (.tuple (nums ts)), .sh s] = some (.sh .none, none) := by
  refine run_of (fn := ⟨2, 3, false, b_check_tips⟩) (by rfl) rfl ?_
  have h1' : ¬ ts.length = 0 := by omega
  have h4 : (1 : Int) ≤ ts.length := by omega
  have h5 : (ts.length : Int) ≤ 40 := by omega
  have h6 : ts.length ≤ lim := by simp [lim]; omega
  simp [b_check_tips, h4, h5, h6]
  refine zc_map (fun _ => .bool true) (fun d hd => ?_) ?_
  · obtain ⟨t, ht, rfl⟩ := List.mem_map.mp hd
    have := h3 t ht
    simp [zr_some (q_betw _ _ _), this]
  · simp [Function.comp_def]
/-- the tips of a bucket -/
def tipsF (b : Int) : Int → List Int → List Int
  | _, [] => []
  | h, r :: rs => (h + r) / b :: tipsF b (h + r - (h + r) / b * b) rs
def restF (b : Int) : Int → List Int → Int
  | h, [] => h
  | h, r :: rs => restF b (h + r - (h + r) / b * b) rs
theorem tipsF_len (b : Int) : ∀ (h : Int) (rs : List Int), (tipsF b h rs).length = rs.length
  | _, [] => rfl
  | h, r :: rs => by simp [tipsF, tipsF_len b _ rs]
theorem rest_bd {b : Int} (hb : 0 < b) (h : Int) : 0 ≤ h - h / b * b ∧ h - h / b * b < b := by
  have e := Int.emod_def h b
  have a1 := Int.emod_nonneg h (show b ≠ 0 by omega)
  have a2 := Int.emod_lt_of_pos h hb
  rw [Int.mul_comm] at e
  omega
theorem tipsF_sum {b : Int} (hb : 0 < b) : ∀ (h : Int) (rs : List Int), 0 ≤ h → (∀ r ∈ rs, 0 ≤ r) → (tipsF b h rs).sum * b ≤ h + rs.sum ∧ ∀ t ∈ tipsF b h rs, 0 ≤ t
  | h, [], h0, _ => by simp [tipsF, h0]
  | h, r :: rs, h0, hr => by
    have hr0 := hr r (List.mem_cons_self ..)
    have bd := rest_bd hb (h + r)
    obtain ⟨i1, i2⟩ := tipsF_sum hb (h + r - (h + r) / b * b) rs bd.1 fun z hz => hr z (List.mem_cons_of_mem _ hz)
    simp only [tipsF, List.sum_cons, Int.add_mul]
    refine ⟨by omega, fun t ht => ?_⟩
    rcases List.mem_cons.mp ht with e | e
    · subst e
      exact Int.ediv_nonneg (by omega) (by omega)
    · exact i2 t e
theorem tipsF_snoc (b : Int) : ∀ (h : Int) (rs : List Int) (r : Int), tipsF b h (rs ++ [r]) = tipsF b h rs ++ [(restF b h rs + r) / b] ∧ restF b h (rs ++ [r]) = restF b h rs + r - (restF b h rs + r) / b * b
  | h, [], r => by simp [tipsF, restF]
  | h, q :: rs, r => by
    obtain ⟨a, c⟩ := tipsF_snoc b (h + q - (h + q) / b * b) rs r
    simp [tipsF, restF, a, c]
theorem restF_bd {b : Int} (hb : 0 < b) : ∀ (h : Int) (rs : List Int), 0 ≤ h → h < b → 0 ≤ restF b h rs ∧ restF b h rs < b
  | h, [], h0, h1 => ⟨h0, h1⟩
  | h, r :: rs, h0, h1 => restF_bd hb _ rs (rest_bd hb _).1 (rest_bd hb _).2
theorem q_tipsof (b rest : Int) (rs : List Int) (hb : 1 ≤ b) (hb2 : b ≤ 1000) (hr : 0 ≤ rest) (hr2 : rest ≤ b - 1) (hl : 1 ≤ rs.length) (hl2 : rs.length ≤ 40) (hrs : ∀ r ∈ rs, 0 ≤ r ∧ r ≤ 1000) :
    run FF T (k + 4) 5 [.sh (.int b), .sh (.int rest), .sh (.tuple (nums rs))] = some (.sh (.tuple [.tuple (nums (tipsF b rest rs)), .int (restF b rest rs)]), none) := by
  refine run_of (fn := ⟨3, 7, false, b_tips_of⟩) (by rfl) rfl ?_
  have h4 : (1 : Int) ≤ rs.length := by omega
  have h5 : (rs.length : Int) ≤ 40 := by omega
  have h6 : rs.length ≤ lim := by simp [lim]; omega
  have hbb : b ≤ 1000000000000 := by omega
  have hD : divOk b = true := divOk_small (by omega) (by omega)
  have l2 : 2 ≤ lim := by decide
  simp [b_tips_of, zr_some (q_bucket b _ hb hbb), zr_some (q_rests b rest rest _ hr (by omega) hr2), h4, h5, h6, l2]
  refine zc_map (fun _ => .bool true) (fun d hd => ?_) ?_
  · obtain ⟨t, ht, rfl⟩ := List.mem_map.mp hd
    have := hrs t ht
    have h7 : t ≤ 1000000000000 := by omega
    simp [zr_some (q_betw _ _ _), this, h7]
  · simp [Function.comp_def]
    refine zf_ind (fun n ρ => ∃ x y, ρ = [.sh (.int b), .sh (.int rest), .sh (.tuple (nums rs)), x, .ow (nums (tipsF b rest (rs.take n))), .sh (.int (restF b rest (rs.take n))), y] ∧ free ρ 3 = true) ⟨.un, .un, rfl, rfl⟩ (fun n d ρ hd hI => ?_) (fun ρ hI => ?_)
    · obtain ⟨x, y, rfl, hx⟩ := hI
      rw [List.getElem?_map] at hd
      obtain ⟨r, hr', rfl⟩ := Option.map_eq_some_iff.mp hd
      have htk : rs.take (n + 1) = rs.take n ++ [r] := by rw [List.take_add_one, hr']; rfl
      obtain ⟨s1, s2⟩ := tipsF_snoc b rest (rs.take n) r
      have bd := restF_bd (by omega : 0 < b) rest (rs.take n) hr (by omega)
      have hrm := hrs r (List.mem_of_getElem? hr')
      have hlen : (tipsF b rest (rs.take n)).length < lim := by
        rw [tipsF_len]
        simp [lim]
        omega
      have q0 : 0 ≤ (restF b rest (rs.take n) + r) / b := Int.ediv_nonneg (by omega) (by omega)
      have q1 : (restF b rest (rs.take n) + r) / b ≤ 3000 := by
        have := Int.ediv_le_self (a := restF b rest (rs.take n) + r) b (by omega)
        omega
      have hM : mulOk ((restF b rest (rs.take n) + r) / b) b = true := mulOk_small (by omega) (by omega)
      have hlast : L2.atI (nums (tipsF b rest (rs.take n)) ++ [.int ((restF b rest (rs.take n) + r) / b)]) (-1) = some (.int ((restF b rest (rs.take n) + r) / b)) := L2.atI_last _ _
      simp at hx hlast
      simp [hx, hD, hlen, is_map, hlast, hM, htk, s1, s2]
    · obtain ⟨x, y, rfl, hx⟩ := hI
      simp [l2]
def lo (one other : Int) (xs ys : List Int) (n : Nat) : Int := if (xs.take (n + 1)).sum * one < (ys.take (n + 1)).sum * other then (ys.take (n + 1)).sum * other else (xs.take (n + 1)).sum * one
def hi (one other : Int) (xs ys : List Int) (n : Nat) : Int := (if (ys.take (n + 1)).sum * other + other < (xs.take (n + 1)).sum * one + one then (ys.take (n + 1)).sum * other + other else (xs.take (n + 1)).sum * one + one) - 1
def rowD (one other : Int) (xs ys : List Int) (n : Nat) : PyData := .tuple [.int (lo one other xs ys n), .int (hi one other xs ys n)]
def Jt (one other : Int) (xs ys : List Int) (d : PyData) : Prop :=
  (∃ n, n < xs.length ∧ (∀ j, j < n → lo one other xs ys j ≤ hi one other xs ys j) ∧ hi one other xs ys n < lo one other xs ys n ∧ d = .tuple [.str (Str.ofString "never"), .int n]) ∨
  ((∀ j, j < xs.length → lo one other xs ys j ≤ hi one other xs ys j) ∧ d = .tuple [.str (Str.ofString "rain"), .tuple ((List.range xs.length).map (rowD one other xs ys))])
theorem sum_bd : ∀ (xs : List Int) (m : Int), 0 ≤ m → (∀ x ∈ xs, 0 ≤ x ∧ x ≤ m) → 0 ≤ xs.sum ∧ xs.sum ≤ xs.length * m
  | [], m, _, _ => by simp
  | x :: xs, m, hm, h => by
    have i := sum_bd xs m hm fun z hz => h z (List.mem_cons_of_mem _ hz)
    have hx := h x (List.mem_cons_self ..)
    simp only [List.sum_cons, List.length_cons, Int.natCast_add, Int.add_mul]
    omega
theorem take_bd (xs : List Int) (n : Nat) (h : ∀ x ∈ xs, 0 ≤ x ∧ x ≤ 1000) (hl : xs.length ≤ 40) : 0 ≤ (xs.take n).sum ∧ (xs.take n).sum ≤ 40000 := by
  have := sum_bd (xs.take n) 1000 (by omega) fun x hx => h x (List.mem_of_mem_take hx)
  have l : (xs.take n).length ≤ 40 := by simp; omega
  omega
theorem q_judge (one other : Int) (xs ys : List Int) (h1 : 1 ≤ one) (h2 : one ≤ 1000) (h3 : 1 ≤ other) (h4 : other ≤ 1000) (hl : ys.length = xs.length) (hl1 : 1 ≤ xs.length) (hl2 : xs.length ≤ 40) (hx : ∀ x ∈ xs, 0 ≤ x ∧ x ≤ 1000) (hy : ∀ x ∈ ys, 0 ≤ x ∧ x ≤ 1000) :
    Zr (run FF T (k + 4)) 7 [.sh (.int one), .sh (.tuple (nums xs)), .sh (.int other), .sh (.tuple (nums ys))] fun r _ => ∃ d, r = .sh d ∧ Jt one other xs ys d := by
  refine zr_of (fn := ⟨4, 10, false, b_judge_two⟩) (by rfl) rfl ?_
  have hx' : ∀ x ∈ xs, 0 ≤ x ∧ x ≤ 1000000000000 := fun x h => ⟨(hx x h).1, by have := (hx x h).2; omega⟩
  have hy' : ∀ x ∈ ys, 0 ≤ x ∧ x ≤ 1000000000000 := fun x h => ⟨(hy x h).1, by have := (hy x h).2; omega⟩
  have rg : rgOk 0 = true ∧ rgOk (xs.length : Int) = true := by
    constructor
    · decide
    · simp [rgOk]; omega
  have l2 : 2 ≤ lim := by decide
  simp [b_judge_two, zr_some (q_bucket one _ h1 (by omega)), zr_some (q_bucket other _ h3 (by omega)), zr_some (q_tips xs _ hl1 hl2 hx'), zr_some (q_tips ys _ (by omega) (by omega) hy'), hl, rg]
  refine zf_ind (fun n ρ => ∃ x5 x6 x7 x8 x9, ρ = [.sh (.int one), .sh (.tuple (nums xs)), .sh (.int other), .sh (.tuple (nums ys)), .ow ((List.range n).map (rowD one other xs ys)), x5, x6, x7, x8, x9] ∧ (∀ j, j < n → lo one other xs ys j ≤ hi one other xs ys j) ∧ n ≤ xs.length ∧ free ρ 5 = true ∧ free ρ 6 = true ∧ free ρ 7 = true ∧ free ρ 8 = true ∧ free ρ 9 = true)
    ⟨.un, .un, .un, .un, .un, rfl, by intro j hj; omega, by omega, rfl, rfl, rfl, rfl, rfl⟩ (fun n d ρ hd hI => ?_) (fun ρ hI => ?_)
  · obtain ⟨x5, x6, x7, x8, x9, rfl, hj, hn, f5, f6, f7, f8, f9⟩ := hI
    obtain ⟨hn2, rfl⟩ := mem_rng hd
    have bx := take_bd xs (n + 1) hx hl2
    have by' := take_bd ys (n + 1) hy (by omega)
    have m1 : mulOk (xs.take (n + 1)).sum one = true := mulOk_small (by omega) (by omega)
    have m2 : mulOk (ys.take (n + 1)).sum other = true := mulOk_small (by omega) (by omega)
    have c1 : cutD (nums xs) none (some ((n : Int) + 1)) = nums (xs.take (n + 1)) := by
      rw [cut_to (by omega)]
      have : ((n : Int) + 1).toNat = n + 1 := by omega
      rw [this]
      simp
    have c2 : cutD (nums ys) none (some ((n : Int) + 1)) = nums (ys.take (n + 1)) := by
      rw [cut_to (by omega)]
      have : ((n : Int) + 1).toNat = n + 1 := by omega
      rw [this]
      simp
    have hlen : n < lim := by simp [lim]; omega
    simp at f5 f6 f7 f8 f9 c1 c2
    simp [f5, f6, f7, f8, f9, c1, c2, m1, m2, hlen, is_map, l2]
    show if hi one other xs ys n < lo one other xs ys n then _ else _
    split
    · rename_i hb
      exact .inl ⟨n, hn2, hj, hb, rfl⟩
    · rename_i hb
      refine ⟨?_, fun j hj2 => ?_, hn2⟩
      · rw [List.range_succ, List.map_append]
        rfl
      · by_cases e : j = n
        · subst e
          omega
        · exact hj j (by omega)
  · obtain ⟨x5, x6, x7, x8, x9, rfl, hj, hn, f5, f6, f7, f8, f9⟩ := hI
    simp [l2]
    exact .inr ⟨by simpa using hj, by simp [Str.ofString]⟩
theorem q_lost (one x y whole : Int) (xs : List Int) (h1 : 1 ≤ one) (h2 : one ≤ 1000) (h3 : 0 ≤ x) (h4 : x ≤ y) (h5 : y ≤ one - 1) (hl1 : 1 ≤ xs.length) (hl2 : xs.length ≤ 40) (hx : ∀ x ∈ xs, 0 ≤ x ∧ x ≤ 1000) (hw : 0 ≤ whole) :
    run FF T (k + 4) 6 [.sh (.int one), .sh (.tuple [.int x, .int y]), .sh (.tuple (nums xs)), .sh (.int whole)] = some (.sh (if (whole + y) / one - xs.sum < 0 then .none else .tuple [.int (if 0 < (whole + x) / one - xs.sum then (whole + x) / one - xs.sum else 0), .int ((whole + y) / one - xs.sum)]), none) := by
  refine run_of (fn := ⟨4, 6, false, b_lost_tips⟩) (by rfl) rfl ?_
  have hx' : ∀ x ∈ xs, 0 ≤ x ∧ x ≤ 1000000000000 := fun x h => ⟨(hx x h).1, by have := (hx x h).2; omega⟩
  have hD : divOk one = true := divOk_small (by omega) (by omega)
  have l2 : 2 ≤ lim := by decide
  have hw' : ¬ whole < 0 := by omega
  simp [b_lost_tips, zr_some (q_bucket one _ h1 (by omega)), zr_some (q_rests one x y _ h3 h4 h5), zr_some (q_tips xs _ hl1 hl2 hx'), zr_some (q_int _), hw', hD, l2]
  split <;> simp [*] <;> omega
def fitsL (one other : Int) (xs ys : List Int) (n : Nat) : List PyData := (List.range' (lo one other xs ys n).toNat (hi one other xs ys n + 1 - lo one other xs ys n).toNat).map fun j : Nat => .int (j : Int)
def fitF (one other A B : Int) (d : PyData) : Option PyData := match d with
  | .int x => if (decide (x / one = A) && decide (x / other = B)) = true then some (.int x) else none
  | _ => none
theorem lo_nn {one other : Int} {xs ys : List Int} {n : Nat} (h1 : 0 < one) (h2 : 0 < other) (hx : ∀ x ∈ xs, 0 ≤ x ∧ x ≤ 1000) (hy : ∀ x ∈ ys, 0 ≤ x ∧ x ≤ 1000) (hl : xs.length ≤ 40) (hl2 : ys.length ≤ 40) : 0 ≤ lo one other xs ys n := by
  have a := take_bd xs (n + 1) hx hl
  have b := take_bd ys (n + 1) hy hl2
  have c : 0 ≤ (xs.take (n + 1)).sum * one := Int.mul_nonneg a.1 (by omega)
  have d : 0 ≤ (ys.take (n + 1)).sum * other := Int.mul_nonneg b.1 (by omega)
  unfold lo
  split <;> omega
theorem fits_eq {one other : Int} {xs ys : List Int} {n : Nat} (h1 : 0 < one) (h2 : 0 < other) (h0 : 0 ≤ lo one other xs ys n) (h80 : hi one other xs ys n < 80) :
    (rngD 0 80).filterMap (fitF one other (xs.take (n + 1)).sum (ys.take (n + 1)).sum) = fitsL one other xs ys n := by
  unfold rngD
  rw [List.filterMap_map]
  have e : (fitF one other (xs.take (n + 1)).sum (ys.take (n + 1)).sum ∘ fun j : Nat => PyData.int (0 + (j : Int))) = fun j : Nat => if (decide ((lo one other xs ys n).toNat ≤ j) && decide (j < (hi one other xs ys n + 1).toNat)) = true then some (PyData.int (j : Int)) else none := by
    funext j
    have d1 := div_eq_iff (x := (j : Int)) (A := (xs.take (n + 1)).sum) h1
    have d2 := div_eq_iff (x := (j : Int)) (A := (ys.take (n + 1)).sum) h2
    have key : (((j : Int) / one = (xs.take (n + 1)).sum) ∧ ((j : Int) / other = (ys.take (n + 1)).sum)) ↔ ((lo one other xs ys n).toNat ≤ j ∧ j < (hi one other xs ys n + 1).toNat) := by
      rw [d1, d2]
      unfold lo hi at *
      generalize (xs.take (n + 1)).sum * one = p at *
      generalize (ys.take (n + 1)).sum * other = q at *
      split <;> split <;> omega
    simp only [Function.comp, fitF, Int.zero_add]
    simp only [Bool.and_eq_true, decide_eq_true_eq, key]
  rw [e, filterMap_if, filt_range]
  unfold fitsL
  congr 2
  omega
theorem q_draw {c : Nat} {l : List PyData} {m : Int} (hg : Good c l) (hc : c < 1000000) (h0 : 0 < m) (hm : m < 1000000000) : Zr (run FF T (k + 1)) 9 [.io l, .sh (.int m)] fun r o => ∃ x l', r = .sh (.int x) ∧ o = some l' ∧ 0 ≤ x ∧ x < m ∧ Good (c + 1) l' := draw_ok (by rfl) hg hc h0 hm
/-- one row of the law -/
def rowX (one other : Int) (xs ys : List Int) (n : Nat) : PyData := if lo one other xs ys n ≤ hi one other xs ys n then rowD one other xs ys n else .none
/-- the first hour that none fits -/
def Nev (one other : Int) (xs ys : List Int) (n : Nat) (v : PyData) : Prop :=
  (v = .none ∧ ∀ j, j < n → lo one other xs ys j ≤ hi one other xs ys j) ∨ ∃ a : Nat, a < n ∧ v = .int a ∧ (∀ j, j < a → lo one other xs ys j ≤ hi one other xs ys j) ∧ hi one other xs ys a < lo one other xs ys a
def sFor : CS := (.for (.nm 2) (.rng (.k (.int 0)) (.v 6)) (.seq (.asg (.nm 11) (.comp (.rng (.k (.int 0)) (.k (.int 80))) [16] (.nm 16) (.and (.op2 .eq (.op2x .fdiv 16 4) (.op1 .sum (.slv 7 (.k .none) (.op2v .add 2 (.k (.int 1)))))) (.op2 .eq (.op2x .fdiv 16 5) (.op1 .sum (.slv 8 (.k .none) (.op2v .add 2 (.k (.int 1))))))) (.v 16)))
  (.seq (.asg (.nm 10) (.ite (.and (.op1 .not (.op1v .truth 11)) (.op2v .is 10 (.k .none))) (.v 2) (.v 10)))
  (.seq (.app 9 (.ite (.op1v .truth 11) (.tup (.cons (.op2v .ix 11 (.k (.int 0))) (.cons (.op2v .ix 11 (.op1 .neg (.k (.int 1)))) .nil))) (.k .none)))
  .pass))))
theorem hold_for {l : List PyData} {rs : PyData} {x2 : Sl} {one other : Int} {many : Nat} {xs ys : List Int} {N : PEnv → Prop} {R : Sl → PEnv → Prop} (h1 : 1 ≤ one) (h2 : one ≤ 6) (h3 : 1 ≤ other) (h4 : other ≤ 6) (hm : many ≤ 4) (hxl : xs.length = many) (hyl : ys.length = many)
    (hx : ∀ x ∈ xs, 0 ≤ x ∧ x ≤ 1000) (hy : ∀ x ∈ ys, 0 ≤ x ∧ x ≤ 1000) (h80 : ∀ n, hi one other xs ys n < 80) (f2 : free [x2] 0 = true)
    (fin : ∀ nv x2 x11, Nev one other xs ys many nv → free [x2] 0 = true → free [x11] 0 = true → N [.io l, .sh rs, x2, .un, .sh (.int one), .sh (.int other), .sh (.int many), .sh (.tuple (nums xs)), .sh (.tuple (nums ys)), .ow ((List.range many).map (rowX one other xs ys)), .sh nv, x11, .un, .un, .un, .un, .un, .un]) :
    Zx (run FF T (k + 5)) FF sFor [.io l, .sh rs, x2, .un, .sh (.int one), .sh (.int other), .sh (.int many), .sh (.tuple (nums xs)), .sh (.tuple (nums ys)), .ow [], .sh .none, .un, .un, .un, .un, .un, .un, .un] N R := by
  have rg : rgOk 0 = true ∧ rgOk (many : Int) = true ∧ rgOk 80 = true := by
    refine ⟨by decide, ?_, by decide⟩
    simp [rgOk]; omega
  have l2 : 2 ≤ lim := by decide
  have l80 : (80 : Int) ≤ (lim : Nat) := by decide
  simp [sFor, rg]
  refine zf_ind (fun n ρ => n ≤ many ∧ ∃ nv x2 x11, ρ = [.io l, .sh rs, x2, .un, .sh (.int one), .sh (.int other), .sh (.int many), .sh (.tuple (nums xs)), .sh (.tuple (nums ys)), .ow ((List.range n).map (rowX one other xs ys)), .sh nv, x11, .un, .un, .un, .un, .un, .un] ∧ Nev one other xs ys n nv ∧ free [x2] 0 = true ∧ free [x11] 0 = true)
    ⟨by omega, .none, x2, .un, rfl, .inl ⟨rfl, by intro j hj; omega⟩, f2, rfl⟩ (fun n d ρ hd hI => ?_) (fun ρ hI => ?_)
  · obtain ⟨hn, nv, x2, x11, rfl, hv, f2, f11⟩ := hI
    obtain ⟨hn2, rfl⟩ := mem_rng hd
    have c1 : PP.cutD (nums xs) none (some ((n : Int) + 1)) = List.take (n + 1) (nums xs) := by
      rw [cut_to (by omega)]
      have : ((n : Int) + 1).toNat = n + 1 := by omega
      rw [this]
    have c2 : PP.cutD (nums ys) none (some ((n : Int) + 1)) = List.take (n + 1) (nums ys) := by
      rw [cut_to (by omega)]
      have : ((n : Int) + 1).toNat = n + 1 := by omega
      rw [this]
    have d1 : divOk one = true := divOk_small (by omega) (by omega)
    have d2 : divOk other = true := divOk_small (by omega) (by omega)
    have h0 := lo_nn (n := n) (by omega : 0 < one) (by omega : 0 < other) hx hy (by omega) (by omega)
    have hfit := fits_eq (by omega : 0 < one) (by omega : 0 < other) h0 (h80 n)
    simp at f2 f11 c1 c2
    refine ⟨[.io l, .sh rs, .sh (.int n), .un, .sh (.int one), .sh (.int other), .sh (.int many), .sh (.tuple (nums xs)), .sh (.tuple (nums ys)), .ow ((List.range n).map (rowX one other xs ys)), .sh nv, x11, .un, .un, .un, .un, .un, .un], by simp [f2], ?_⟩
    refine x_cut (cl := run FF T (k + 5)) (F := FF) (fun ρ => ρ = [.io l, .sh rs, .sh (.int n), .un, .sh (.int one), .sh (.int other), .sh (.int many), .sh (.tuple (nums xs)), .sh (.tuple (nums ys)), .ow ((List.range n).map (rowX one other xs ys)), .sh nv, .ow (fitsL one other xs ys n), .un, .un, .un, .un, .un, .un]) ?_ ?_
    · simp [f2, rg, l80]
      refine zc_pure (fitF one other (xs.take (n + 1)).sum (ys.take (n + 1)).sum) (fun d hd => ?_) ?_
      · obtain ⟨i, hi⟩ := List.getElem?_of_mem hd
        obtain ⟨hi2, rfl⟩ := mem_rng hi
        by_cases e1 : (i : Int) / one = (xs.take (n + 1)).sum <;> by_cases e2 : (i : Int) / other = (ys.take (n + 1)).sum <;> simp [d1, d2, c1, c2, e1, e2, fitF]
      · rw [hfit]
        simp [f11]
    · rintro _ rfl
      have hlen : n < lim := by simp [lim]; omega
      by_cases hok : lo one other xs ys n ≤ hi one other xs ys n
      · obtain ⟨z, hz⟩ : ∃ z, (hi one other xs ys n + 1 - lo one other xs ys n).toNat = z + 1 := ⟨(hi one other xs ys n - lo one other xs ys n).toNat, by omega⟩
        have hf : fitsL one other xs ys n = .int (lo one other xs ys n) :: (List.range' ((lo one other xs ys n).toNat + 1) z).map fun j : Nat => .int (j : Int) := by
          unfold fitsL
          rw [hz, List.range'_succ]
          simp [Int.toNat_of_nonneg h0]
        have hlast : L2.atI (fitsL one other xs ys n) (-1) = some (.int (hi one other xs ys n)) := by
          refine atI_last' ?_
          unfold fitsL
          rw [hz, List.range'_concat]
          simp
          omega
        have hat : L2.atI (fitsL one other xs ys n) 0 = some (.int (lo one other xs ys n)) := by rw [hf]; simp
        have hne : (fitsL one other xs ys n).isEmpty = false := by rw [hf]; rfl
        simp at hne
        simp [hne, hlast, hat, hlen, is_map, l2]
        refine ⟨hn2, nv, _, _, ⟨rfl, ?_, rfl, rfl⟩, ?_, rfl, rfl⟩
        · rw [List.range_succ, List.map_append]
          simp [rowX, hok, rowD]
        · rcases hv with ⟨rfl, hv⟩ | ⟨a, h1, rfl, h2, h3⟩
          · refine .inl ⟨rfl, fun j hj => ?_⟩
            by_cases e : j = n
            · subst e
              exact hok
            · exact hv j (by omega)
          · exact .inr ⟨a, by omega, rfl, h2, h3⟩
      · have hz : (hi one other xs ys n + 1 - lo one other xs ys n).toNat = 0 := by omega
        have hf : fitsL one other xs ys n = [] := by
          unfold fitsL
          rw [hz]
          rfl
        have hrow : (List.range n).map (rowX one other xs ys) ++ [.none] = (List.range (n + 1)).map (rowX one other xs ys) := by
          rw [List.range_succ, List.map_append]
          simp [rowX, hok]
        rcases hv with ⟨rfl, hv⟩ | ⟨a, h1, rfl, h2, h3⟩
        · simp [hf, hlen, is_map, l2]
          exact ⟨hn2, _, _, _, ⟨rfl, hrow, rfl, rfl⟩, .inr ⟨n, by omega, rfl, hv, by omega⟩, rfl, rfl⟩
        · simp [hf, hlen, is_map, l2]
          exact ⟨hn2, _, _, _, ⟨rfl, hrow, rfl, rfl⟩, .inr ⟨a, by omega, rfl, h2, h3⟩, rfl, rfl⟩
  · obtain ⟨hn, nv, x2, x11, rfl, hv, f2, f11⟩ := hI
    simp at hv ⊢
    exact fin nv x2 x11 hv f2 f11
theorem jt_lev {one other : Int} {xs ys : List Int} {d : PyData} (h : Jt one other xs ys d) : lev 8 d = true := by
  have hs : ∀ s : Str, s = Str.ofString "never" ∨ s = Str.ofString "rain" → PyData.strOk s = true := by
    rintro s (rfl | rfl) <;> decide +kernel
  rcases h with ⟨n, _, _, _, rfl⟩ | ⟨_, rfl⟩
  · simp [lev, hs _ (.inl rfl)]
  · simp [lev, hs _ (.inr rfl), rowD]
theorem jt_nev {one other : Int} {xs ys : List Int} {d nv : PyData} (h : Jt one other xs ys d) (v : Nev one other xs ys xs.length nv) :
    (nv = .none ∧ d = .tuple [.str (Str.ofString "rain"), .tuple ((List.range xs.length).map (rowX one other xs ys))]) ∨ ∃ a : Nat, nv = .int a ∧ d = .tuple [.str (Str.ofString "never"), .int a] := by
  rcases h with ⟨n, h1, h2, h3, rfl⟩ | ⟨h1, rfl⟩
  · rcases v with ⟨rfl, v⟩ | ⟨a, v1, rfl, v2, v3⟩
    · exact absurd (v n h1) (by omega)
    · have : n = a := by
        rcases Nat.lt_trichotomy n a with e | e | e
        · exact absurd (v2 n e) (by omega)
        · exact e
        · exact absurd (h2 a e) (by omega)
      exact .inr ⟨a, rfl, by rw [this]⟩
  · rcases v with ⟨rfl, v⟩ | ⟨a, v1, rfl, v2, v3⟩
    · refine .inl ⟨rfl, ?_⟩
      congr 3
      congr 1
      refine List.map_congr_left fun j hj => ?_
      have := h1 j (by simpa using hj)
      simp [rowX, this]
    · exact absurd (h1 a v1) (by omega)
abbrev env (l : List PyData) (s1 s2 s3 : Sl) (one other many : Int) (s7 s8 s9 s10 s11 s12 s13 : Sl) : PEnv := [.io l, s1, s2, s3, .sh (.int one), .sh (.int other), .sh (.int many), s7, s8, s9, s10, s11, s12, s13, .un, .un, .un, .un]
def fA (one whole : Int) : PyData → PyData
  | .int z => .int ((z + whole) / one)
  | d => d
def fB (S : Int) : PyData → PyData
  | .int z => .int (z - S)
  | d => d
theorem q_hold (c : Nat) (l : List PyData) (hg : Good c l) (hc : c + 20 < 1000000) : Zr (run FF T (k + 6)) 10 [.io l] fun r o => r = .sh (.bool true) ∧ ∃ l', o = some l' ∧ Good (c + 20) l' := by
  refine zr_of (fn := ⟨1, 18, true, b__law_buckets_hold⟩) (by rfl) rfl ?_
  have lm2 : 2 ≤ lim := by decide
  have lm3 : 3 ≤ lim := by decide
  -- one, other, many
  refine x_cut (fun ρ => ∃ (l1 : List PyData) (one other : Int) (many : Nat), ρ = env l1 .un .un .un one other many .un .un .un .un .un .un .un ∧ 1 ≤ one ∧ one ≤ 6 ∧ 1 ≤ other ∧ other ≤ 6 ∧ 1 ≤ many ∧ many ≤ 4 ∧ Good (c + 3) l1) ?_ ?_
  · simp
    refine zr_mono (q_draw hg (by omega) (by omega) (by omega)) ?_
    rintro _ _ ⟨x1, l1, rfl, rfl, a1, a2, hg1⟩
    simp
    refine zr_mono (q_draw hg1 (by omega) (by omega) (by omega)) ?_
    rintro _ _ ⟨x2, l2, rfl, rfl, b1, b2, hg2⟩
    simp
    refine zr_mono (q_draw hg2 (by omega) (by omega) (by omega)) ?_
    rintro _ _ ⟨x3, l3, rfl, rfl, c1, c2, hg3⟩
    simp [lm3]
    exact ⟨l3, _, _, (1 + x3).toNat, ⟨rfl, rfl, rfl, by omega⟩, by omega, by omega, by omega, by omega, by omega, by omega, hg3⟩
  rintro _ ⟨l1, one, other, many, rfl, h1, h2, h3, h4, h5, h6, hg1⟩
  have rgm : rgOk 0 = true ∧ rgOk (many : Int) = true := by
    refine ⟨by decide, ?_⟩
    simp [rgOk]; omega
  have mlim : (many : Int) ≤ (lim : Nat) := by simp [lim]; omega
  -- rains
  refine x_cut (fun ρ => ∃ (l2 : List PyData) (rs : List Int), ρ = env l2 (.sh (.tuple (nums rs))) .un .un one other many .un .un .un .un .un .un .un ∧ rs.length = many ∧ (∀ r ∈ rs, 0 ≤ r ∧ r ≤ 11) ∧ Good (c + 7) l2) ?_ ?_
  · simp [rgm, env, mlim]
    refine zc_ind (fun n ρ acc => ∃ (l2 : List PyData) (rs : List Int), ρ = env l2 .un .un .un one other many .un .un .un .un .un .un .un ∧ acc = nums rs ∧ rs.length = n ∧ n ≤ many ∧ (∀ r ∈ rs, 0 ≤ r ∧ r ≤ 11) ∧ Good (c + 3 + n) l2) ⟨l1, [], rfl, rfl, rfl, by omega, by simp, hg1⟩ (fun n d ρ acc hd hI => ?_) (fun ρ acc hI => ?_)
    · obtain ⟨l2, rs, rfl, rfl, e1, e2, e3, hg2⟩ := hI
      obtain ⟨hn2, rfl⟩ := mem_rng hd
      simp [env]
      refine zr_mono (q_draw hg2 (by omega) (by omega) (by omega)) ?_
      rintro _ _ ⟨x1, l3, rfl, rfl, a1, a2, hg3⟩
      simp
      refine ⟨rs ++ [x1], by simp, by simp [e1], hn2, fun r hr => ?_, hg3⟩
      rcases List.mem_append.mp hr with e | e
      · exact e3 r e
      · simp at e
        omega
    · obtain ⟨l2, rs, rfl, rfl, e1, e2, e3, hg2⟩ := hI
      simp [env]
      exact ⟨l2, rs, ⟨rfl, rfl⟩, by simpa using e1, e3, hg2.mono (by simp; omega)⟩
  rintro _ ⟨l2, rs, rfl, e1, e2, hg2⟩
  have hrs : ∀ r ∈ rs, 0 ≤ r ∧ r ≤ 1000 := fun r hr => ⟨(e2 r hr).1, by have := (e2 r hr).2; omega⟩
  have t1 := q_tipsof (k := k + 1) one 0 rs h1 (by omega) (by omega) (by omega) (by omega) (by omega) hrs
  have t2 := q_tipsof (k := k + 1) other 0 rs h3 (by omega) (by omega) (by omega) (by omega) (by omega) hrs
  have s1 := tipsF_sum (b := one) (by omega) 0 rs (by omega) fun r hr => (e2 r hr).1
  have s2 := tipsF_sum (b := other) (by omega) 0 rs (by omega) fun r hr => (e2 r hr).1
  have hsum : 0 ≤ rs.sum ∧ rs.sum ≤ 44 := by
    have := sum_bd rs 11 (by omega) e2
    omega
  have bd : ∀ (b : Int) (xs : List Int), 1 ≤ b → xs.sum * b ≤ 44 → (∀ t ∈ xs, 0 ≤ t) → ∀ t ∈ xs, 0 ≤ t ∧ t ≤ 44 := fun b xs hb h h0 t ht => by
    refine ⟨h0 t ht, ?_⟩
    have a1 : t ≤ xs.sum := by
      clear h
      induction xs with
      | nil => simp at ht
      | cons x xs ih =>
        have hn : 0 ≤ xs.sum := by
          have : ∀ ys : List Int, (∀ t ∈ ys, 0 ≤ t) → 0 ≤ ys.sum := by
            intro ys
            induction ys with
            | nil => simp
            | cons y ys ihy =>
              intro hy
              have := hy y (List.mem_cons_self ..)
              have := ihy fun z hz => hy z (List.mem_cons_of_mem _ hz)
              simp
              omega
          exact this xs fun z hz => h0 z (List.mem_cons_of_mem _ hz)
        have hx := h0 x (List.mem_cons_self ..)
        rcases List.mem_cons.mp ht with e | e
        · subst e
          simp
          omega
        · have := ih (fun z hz => h0 z (List.mem_cons_of_mem _ hz)) e
          simp
          omega
    have a2 : 0 ≤ xs.sum := by have := h0 t ht; omega
    have a3 : xs.sum * 1 ≤ xs.sum * b := Int.mul_le_mul_of_nonneg_left hb a2
    omega
  have b1 := bd one (tipsF one 0 rs) h1 (by omega) s1.2
  have b2 := bd other (tipsF other 0 rs) h3 (by omega) s2.2
  have len1 := tipsF_len one 0 rs
  have len2 := tipsF_len other 0 rs
  generalize hxs : tipsF one 0 rs = xs at *
  generalize hys : tipsF other 0 rs = ys at *
  -- first, second
  refine x_cut (fun ρ => ρ = env l2 (.sh (.tuple (nums rs))) .un .un one other many (.sh (.tuple (nums xs))) (.sh (.tuple (nums ys))) .un .un .un .un .un) ?_ ?_
  · simp [env, zr_some t1, zr_some t2, lm2]
  rintro _ rfl
  -- one tip more
  refine x_cut (fun ρ => ∃ (l3 : List PyData) (x2 : Sl) (zs : List Int), ρ = env l3 (.sh (.tuple (nums rs))) x2 .un one other many (.sh (.tuple (nums xs))) (.sh (.tuple (nums zs))) .un .un .un .un .un ∧ zs.length = many ∧ (∀ r ∈ zs, 0 ≤ r ∧ r ≤ 1000) ∧ Good (c + 9) l3 ∧ free [x2] 0 = true) ?_ ?_
  · simp [env]
    refine zr_mono (q_draw hg2 (by omega) (by omega) (by omega)) ?_
    rintro _ _ ⟨x1, l3, rfl, rfl, a1, a2, hg3⟩
    have hzs : ∀ r ∈ ys, 0 ≤ r ∧ r ≤ 1000 := fun r hr => ⟨(b2 r hr).1, by have := (b2 r hr).2; omega⟩
    by_cases hx1 : x1 = 0
    · subst hx1
      simp
      exact ⟨l3, _, ys, ⟨rfl, rfl, rfl⟩, by omega, hzs, hg3.mono (by omega), rfl⟩
    · simp [hx1]
      refine zr_mono (q_draw hg3 (by omega) (by omega) (by omega)) ?_
      rintro _ _ ⟨at_, l4, rfl, rfl, c1, c2, hg4⟩
      have hat : L2.atI (nums ys) at_ = some (.int ys[at_.toNat]) := atI_of c1 (by
        rw [List.getElem?_map, List.getElem?_eq_getElem (by omega)]
        rfl)
      have q1 : cutD (nums ys) none (some at_) = nums (ys.take at_.toNat) := by rw [cut_to c1]; simp
      have q2 : cutD (nums ys) (some (at_ + 1)) none = nums (ys.drop (at_ + 1).toNat) := by rw [cut_from (by omega)]; simp
      simp at hat q1 q2
      simp [hat, q1, q2, lim]
      refine ⟨by omega, by omega, l4, _, ys.take at_.toNat ++ (ys[at_.toNat] + 1) :: ys.drop (at_ + 1).toNat, ⟨rfl, rfl, by simp⟩, by simp; omega, fun r hr => ?_, hg4, rfl⟩
      rcases List.mem_append.mp hr with e | e
      · exact hzs r (List.mem_of_mem_take e)
      · rcases List.mem_cons.mp e with e | e
        · have := b2 _ (List.getElem_mem (show at_.toNat < ys.length by omega))
          omega
        · exact hzs r (List.mem_of_mem_drop e)
  rintro _ ⟨l3, x2, zs, rfl, len3, b3, hg3, f2⟩
  have hxs' : ∀ r ∈ xs, 0 ≤ r ∧ r ≤ 1000 := fun r hr => ⟨(b1 r hr).1, by have := (b1 r hr).2; omega⟩
  have hlx : xs.length = many := by omega
  -- rows, never
  refine x_cut (fun ρ => ρ = env l3 (.sh (.tuple (nums rs))) x2 .un one other many (.sh (.tuple (nums xs))) (.sh (.tuple (nums zs))) (.ow []) (.sh .none) .un .un .un) ?_ ?_
  · simp [env]
  rintro _ rfl
  refine x_cut (fun ρ => ∃ (nv : PyData) (x2 x11 : Sl), ρ = env l3 (.sh (.tuple (nums rs))) x2 .un one other many (.sh (.tuple (nums xs))) (.sh (.tuple (nums zs))) (.ow ((List.range many).map (rowX one other xs zs))) (.sh nv) x11 .un .un ∧ Nev one other xs zs many nv ∧ free [x2] 0 = true ∧ free [x11] 0 = true) ?_ ?_
  · refine hold_for h1 h2 h3 h4 h6 hlx len3 hxs' b3 (fun n => ?_) f2 (fun nv x2 x11 hv f2 f11 => ⟨nv, x2, x11, rfl, hv, f2, f11⟩)
    have h0 : (xs.take (n + 1)).sum ≤ xs.sum := by
      have e : xs.sum = (xs.take (n + 1)).sum + (xs.drop (n + 1)).sum := by rw [← List.sum_append, List.take_append_drop]
      have := sum_bd (xs.drop (n + 1)) 44 (by omega) fun x hx => b1 x (List.mem_of_mem_drop hx)
      omega
    have h9 : (xs.take (n + 1)).sum * one ≤ xs.sum * one := Int.mul_le_mul_of_nonneg_right h0 (by omega)
    unfold hi
    split <;> omega
  rintro _ ⟨nv, x2, x11, rfl, hv, f2, f11⟩
  -- the comparison
  refine x_cut (fun ρ => ∃ (x11 : Sl) (r : Sl), free [x11] 0 = true ∧ ρ = env l3 (.sh (.tuple (nums rs))) x2 .un one other many (.sh (.tuple (nums xs))) (.sh (.tuple (nums zs))) r (.sh nv) x11 .un .un) ?_ ?_
  · obtain ⟨r0, o0, e0, d, rfl, hj⟩ := q_judge (k := k + 1) one other xs zs h1 (by omega) h3 (by omega) (by omega) (by omega) (by omega) hxs' b3
    have hlev := jt_lev hj
    have hself := lev_refl 8 d hlev
    have hv' : Nev one other xs zs xs.length nv := by rw [hlx]; exact hv
    rcases jt_nev hj hv' with ⟨rfl, ed⟩ | ⟨a, rfl, ed⟩
    · rw [ed, hlx] at hlev hself
      simp [env, zr_some e0, o_ne, lm2, ed, hlx, hlev, hself]
      exact f11
    · rw [ed] at hlev hself
      simp [env, zr_some e0, o_ne, lm2, ed, hlev, hself]
      exact f11
  rintro _ ⟨x11, r, f11, rfl⟩
  -- rests, whole
  refine x_cut (fun ρ => ∃ (l4 : List PyData) (x y whole : Int), ρ = env l4 (.sh (.tuple (nums rs))) x2 .un one other many (.sh (.tuple (nums xs))) (.sh (.tuple (nums zs))) r (.sh nv) x11 (.sh (.list [.int x, .int y])) (.sh (.int whole)) ∧ 0 ≤ x ∧ x ≤ y ∧ y ≤ one - 1 ∧ 0 ≤ whole ∧ whole < 60 ∧ Good (c + 12) l4) ?_ ?_
  · simp [env]
    refine zr_mono (q_draw hg3 (by omega) (by omega) (by omega)) ?_
    rintro _ _ ⟨x, l4, rfl, rfl, a1, a2, hg4⟩
    simp
    refine zr_mono (q_draw hg4 (by omega) (by omega) (by omega)) ?_
    rintro _ _ ⟨y, l5, rfl, rfl, a3, a4, hg5⟩
    have sr := sort2 x y
    simp [sr, lm2]
    refine zr_mono (q_draw hg5 (by omega) (by omega) (by omega)) ?_
    rintro _ _ ⟨w, l6, rfl, rfl, a5, a6, hg6⟩
    simp [lm2]
    by_cases hxy : x ≤ y
    · simp [hxy]
      exact ⟨l6, x, y, w, ⟨rfl, ⟨rfl, rfl⟩, rfl⟩, a1, hxy, by omega, a5, a6, hg6⟩
    · simp [hxy]
      exact ⟨l6, y, x, w, ⟨rfl, ⟨rfl, rfl⟩, rfl⟩, a3, by omega, by omega, a5, a6, hg6⟩
  rintro _ ⟨l4, x, y, whole, rfl, g1, g2, g3, g4, g5, hg4⟩
  -- lost
  let L : List Int := (List.range (y + 1 - x).toNat).map fun j : Nat => (x + j + whole) / one - xs.sum
  have rgx : rgOk x = true ∧ rgOk (y + 1) = true := by
    constructor <;> simp [rgOk] <;> omega
  have nl : (y + 1 - x).toNat ≤ lim := by simp [lim]; omega
  refine x_cut (fun ρ => ρ = env l4 (.sh (.tuple (nums rs))) x2 (.ow (nums L)) one other many (.sh (.tuple (nums xs))) (.sh (.tuple (nums zs))) r (.sh nv) x11 (.sh (.list [.int x, .int y])) (.sh (.int whole))) ?_ ?_
  · have nl' : (y + 1 - x : Int) ≤ (lim : Nat) := by simp [lim]; omega
    have hone : 0 ≤ (lim : Int) := by simp [lim]
    simp [env, rgx, nl']
    refine zc_map (fA one whole) (fun d hd => ?_) ?_
    · obtain ⟨i, hi⟩ := List.getElem?_of_mem hd
      obtain ⟨hi2, rfl⟩ := mem_rng hi
      have t3 := q_tipsof (k := k + 1) one (x + i) [whole] h1 (by omega) (by omega) (by omega) (by simp) (by simp) (by intro r hr; simp at hr; omega)
      simp at t3
      simp [zr_some t3, lim, tipsF, fA]
    · simp [nl]
      refine zc_map (fB xs.sum) (fun d hd => ?_) ?_
      · obtain ⟨d', hd', rfl⟩ := List.mem_map.mp hd
        obtain ⟨i, hi⟩ := List.getElem?_of_mem hd'
        obtain ⟨hi2, rfl⟩ := mem_rng hi
        simp [fA, fB]
      · simp [rngD, fA, fB, L, Function.comp_def]
  rintro _ rfl
  have ne1 : 0 < (y + 1 - x).toNat := by omega
  have mono : ∀ a b : Int, a ≤ b → (a + whole) / one - xs.sum ≤ (b + whole) / one - xs.sum := fun a b h => by
    have := Int.ediv_le_ediv (by omega : 0 < one) (by omega : a + whole ≤ b + whole)
    omega
  have hmax : maxI L = some ((y + whole) / one - xs.sum) := by
    refine maxI_of ?_ fun z hz => ?_
    · refine List.mem_map.mpr ⟨(y + 1 - x).toNat - 1, by simp; omega, ?_⟩
      congr 3
      omega
    · obtain ⟨j, hj, rfl⟩ := List.mem_map.mp hz
      simp at hj
      exact mono _ _ (by omega)
  have hmin : minI L = some ((x + whole) / one - xs.sum) := by
    refine minI_of ?_ fun z hz => ?_
    · refine List.mem_map.mpr ⟨0, by simp; omega, by simp⟩
    · obtain ⟨j, hj, rfl⟩ := List.mem_map.mp hz
      exact mono _ _ (by omega)
  have ql := q_lost (k := k + 1) one x y whole xs h1 (by omega) g1 g2 g3 (by omega) (by omega) hxs' g4
  rw [Int.add_comm whole x, Int.add_comm whole y] at ql
  have im : ∀ m : Int, intsD [.int 0, .int m] = some [0, m] := fun m => rfl
  have mm : ∀ m : Int, maxI [0, m] = some (if 0 < m then m else 0) := fun m => rfl
  have gd := hg4.mono (show c + 12 ≤ c + 20 by omega)
  by_cases hneg : (y + whole) / one - xs.sum < 0
  · rw [if_pos hneg] at ql
    simp [env, zr_some ql, hmax, hneg, o_eq, lev, PyData.eqv, gd]
  · rw [if_neg hneg] at ql
    have e0 : (if 0 < (x + whole) / one - xs.sum then (x + whole) / one - xs.sum else 0) = (if xs.sum < (x + whole) / one then (x + whole) / one - xs.sum else 0) := by
      split <;> split <;> omega
    simp only [e0] at ql
    simp [env, zr_some ql, hmax, hneg, hmin, im, mm, lm2, e0, o_eq, lev, PyData.eqv, PyData.eqvAll, gd]
theorem pure_law (ns : List Int) (hl : ns.length ≤ 63) : run 1000 tab 30 11 [.sc ns] = some (.sh (.bool true), none) :=
  law1 (k := 28) (S := 8) (Hd := 10) (T := 4) 20 (by rfl) (by rfl) (by decide) (by decide) (fun c l hg hc => q_hold (k := 23) c l hg hc) ns hl
end
end Gk37
namespace Gk37
open PySem L2 PP PySem.Spec PyProof.Rows
/-! ### the head -/
def fa : List He.Fa := allFa ds cons
def fn : List He.DefD := ds.map FD.dd
abbrev R : PySem.W.OpenRow := PySem.W.OpenLaw.row PySem.Challenge.rw_raingauged_k37_two_buckets_and_lost_tips
abbrev hk : PySem.W.Hook := He.hookD 4 fa fn
def ob (s : PySem.W.SharedT) : He.AlD := He.obsDG 4 fa fn (HandSHeadRun.getT s)
theorem ob_eq (s : PySem.W.SharedT) : ob s = hk.obs s.abs := He.obsDG_eq (HandSHeadRun.getT_eq s)
def loose : List Str := (["RainError", "RecordError", "ArgumentError", "MAX_SIZE", "MAX_HOURS", "is_integer", "is_between", "check_bucket", "check_rests", "check_tips", "tips_of", "lost_tips", "judge_two", "_law_start", "_law_draw", "_law_buckets_hold"] : List Str)
set_option maxHeartbeats 0 in
theorem run_eq (w : World) : HandSHeadRun.RunEq R (PySem.W.view R.prog [20]) hk ob 6000 loose w := by
  intro os
  kernel_rfl
theorem lawA (K : PySem.W.Frag) (f : Addr) (fd : FuncData) (F : FunD K "law" "law" (defArgs s_law) (defBody s_law) (defScope s_law) [] [] f fd) (s : Shared) (us : List Value) (hl : us.length = 1) : BindsTo s fd ⟨us, []⟩ ([("script" : Str)].zip us) := FunD.bindsA (ps := ["script"]) F (fun _ _ _ _ _ _ us hl => match us, hl with | [_], _ => rfl) s us hl
end Gk37
open PySem PySem.W PySem.Calls PyProof.Rows
set_option maxHeartbeats 0 in
theorem PySem.Challenge.cw_raingauged_k37_two_buckets_and_lost_tips_holds : PySem.Challenge.rw_raingauged_k37_two_buckets_and_lost_tips.Holds := by
  w_on; o_law
  refine HandSHeadRun.head_any (r := OpenLaw.row PySem.Challenge.rw_raingauged_k37_two_buckets_and_lost_tips) (q := view (OpenLaw.row PySem.Challenge.rw_raingauged_k37_two_buckets_and_lost_tips).prog [20]) (H := Gk37.hk) (ob := Gk37.ob) (M := 6000) (loose := Gk37.loose) (d := HandSHeadRun.topDef (OpenLaw.row PySem.Challenge.rw_raingauged_k37_two_buckets_and_lost_tips).prog 20) (kwd := []) Gk37.ob_eq
    (by kernel_rfl) (fun s => by kernel_rfl) Gk37.run_eq (by kernel_rfl) (by kernel_rfl) (by kernel_rfl) (by rfl) (by first | assumption | decide +kernel) (by decide +kernel) ⟨rfl, rfl, rfl, rfl, rfl, by decide +kernel⟩ ?hw ?hc
  case hw => w_witness2
  case hc =>
    refine L2.walk_ofE (l := PySem.Challenge.rw_raingauged_k37_two_buckets_and_lost_tips) (n := 63) (k := 30) (x := "script") (CX := L2.CX0) rfl (by decide) (by kernel_rfl) ⟨rfl, by decide, by decide⟩ ?F (fun _ _ _ _ z => z)
    intro w mg fa h Y G hmg0
    obtain ⟨K, KX, c⟩ := Y
    have hmg : mg ("law" : PySem.Str) = some (.ref fa) := by
      have e : (HandSHeadRun.topDef (OpenLaw.row PySem.Challenge.rw_raingauged_k37_two_buckets_and_lost_tips).prog 20).name = ("law" : PySem.Str) := by kernel_rfl
      rw [← e]
      exact hmg0
    obtain ⟨fd, hb, hF⟩ := PP.law_facts (P := (PySem.Challenge.rw_raingauged_k37_two_buckets_and_lost_tips).prog) (w := w) (fu := 1000) (k := 30) (li := 11) (dl := Gk37.d_law) KX G c Gk37.good (by decide) rfl rfl rfl Gk37.lawA rfl hmg Gk37.tab rfl
    exact ⟨K, fd, PP.spLaw 1000 Gk37.tab 30 11 K, KX, hb, fun H a ns hl _ hS => PP.law_sp hS (Gk37.pure_law ns hl), hF⟩
