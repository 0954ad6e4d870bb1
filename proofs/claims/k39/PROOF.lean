import PyProof.Rows.All
import Wide.All
import OpenK.AllK
import Wide.FinOn
import HandS.ForMost
import HandS.Evl
import HandS.Wide
import HandS.Flow
import HandS.Deep
import HandS.TupAny
import HandS.IsInst
import HandS.Conv
import HandS.Zip
import HandS.Defaults
import HandS.Rev
import KE.SortData
import KE.GoesMore
import KE.GoesEnum
import HandS.Style
import HandS.Ends
import KE.KStateDown
import HandS.Words
import HandS.Head0
import HandS.Head1
import HandS.Head2
import HandS.HeadEnd
import HandS.HeadHook1
import HandS.HeadHook2
import PySem.Challenge.RW_raingauged_k39_levels_seen_hour_by_hour
set_option Elab.async false
set_option linter.all false
set_option maxRecDepth 100000
set_option maxHeartbeats 4000000
/-! A pure interpreter of a core of Python: values are PyData, lists are values; who may change a list is told by the slot's kind. -/
namespace PP
open PySem
/-- a slot: nothing; a value that is never changed any more; a list of one's own; the list that a caller lends; a dict of one's own -/
inductive Sl where
  | un
  | sh (d : PyData)
  | ow (l : List PyData)
  | io (l : List PyData)
  | od (m : List (PyData × PyData))
  | sc (l : List Int)
abbrev PEnv := List Sl
inductive O2 where
  | add | sub | mul | fdiv | mod | shl | shr | band | bor | eq | ne | lt | le | gt | ge | is | isnt | isin | notin | ix
  deriving DecidableEq
inductive O1 where
  | neg | not | truth | sorted | len | sum | abs | tuple | list | min | max | int | all | any | isint | isbool | istuple | isstr
  deriving DecidableEq
inductive B2 where
  | min | max
  deriving DecidableEq
/-- targets -/
inductive Tg where
  | nm (i : Nat) | nil | cons (a b : Tg) | tp (t : Tg) | ix (i : Nat) (k : Int)
  deriving DecidableEq
inductive CE where
  | k (d : PyData)
  | v (i : Nat)
  | mv (i : Nat)
  | op1 (o : O1) (a : CE)
  | op1v (o : O1) (i : Nat)
  | op2 (o : O2) (a b : CE)
  | op2v (o : O2) (i : Nat) (b : CE)
  | op2w (o : O2) (a : CE) (i : Nat)
  | op2x (o : O2) (i j : Nat)
  | bi2 (o : B2) (a b : CE)
  | chain (o o' : O2) (a b c : CE)
  | and (a b : CE)
  | or (a b : CE)
  | ite (c a b : CE)
  | nil
  | cons (a b : CE)
  | tup (a : CE)
  | lst (a : CE)
  | sl (a lo hi : CE)
  | slv (i : Nat) (lo hi : CE)
  | slsc (i : Nat) (lo hi : CE)
  | call (f : Nat) (as : CE)
  | callm (f : Nat) (i : Nat) (as : CE)
  | callsc (f : Nat) (i : Nat)
  | comp (it : CE) (vs : List Nat) (tg : Tg) (c : CE) (e : CE)
  | rng (a b : CE)
  | rng3 (a b c : CE)
  | enum (a : CE)
  | zip (a b : CE)
inductive CS where
  | pass
  | seq (a b : CS)
  | asg (t : Tg) (e : CE)
  | par (ts : Tg) (es : CE)
  | seti (i : Nat) (ix e : CE)
  | augi (i : Nat) (o : O2) (ix e : CE)
  | augn (i : Nat) (o : O2) (e : CE)
  | app (i : Nat) (e : CE)
  | ext (i : Nat) (e : CE)
  | drop (e : CE)
  | ite (c : CE) (a b : CS)
  | for (t : Tg) (it : CE) (b : CS)
  | while (c : CE) (b : CS)
  | ret (e : CE)
  | fail
/-! ### values -/
def lev : Nat → PyData → Bool
  | _, .none => true
  | _, .bool _ => true
  | _, .int _ => true
  | _, .str x => PyData.strOk x
  | n + 1, .list xs => xs.all (lev n)
  | n + 1, .tuple xs => xs.all (lev n)
  | _, _ => false
def lim : Nat := 1000000
def toD : Sl → Option PyData
  | .sh d => some d
  | .ow l => some (.list l)
  | .od m => some (.dict m)
  | _ => none
def truthD : PyData → Option Bool
  | .none => some false
  | .bool b => some b
  | .int i => some (i != 0)
  | .str s => if s.length ≤ lim then some ((s.length : Int) != 0) else none
  | .list l => some (!l.isEmpty)
  | .tuple l => some (!l.isEmpty)
  | .dict _ => none
def divOk (j : Int) : Bool := decide (0 < j) && decide (j.natAbs.log2 < 9000)
def mulOk (i j : Int) : Bool := decide (i.natAbs.log2 + j.natAbs.log2 < 1000000)
def rgOk (i : Int) : Bool := decide (-4000000000000000000 < i) && decide (i < 4000000000000000000)
def bl (b : Bool) : Option Sl := some (.sh (.bool b))
def it (i : Int) : Option Sl := some (.sh (.int i))
def op2 : O2 → PyData → PyData → Option Sl
  | .add, .int i, .int j => it (i + j)
  | .add, .list a, .list b => if a.length + b.length ≤ lim then some (.ow (a ++ b)) else none
  | .add, .tuple a, .tuple b => if a.length + b.length ≤ lim then some (.sh (.tuple (a ++ b))) else none
  | .add, .str a, .str b => if a.length + b.length ≤ lim then some (.sh (.str (a ++ b))) else none
  | .sub, .int i, .int j => it (i - j)
  | .mul, .int i, .int j => if mulOk i j then it (i * j) else none
  | .mul, .list a, .int j => if a.length ≤ 1000 && decide (0 ≤ j) && decide (j ≤ 1000) then some (.ow (List.replicate j.toNat a).flatten) else none
  | .fdiv, .int i, .int j => if divOk j then it (i / j) else none
  | .mod, .int i, .int j => if 0 < j then it (i % j) else none
  | .shl, .int i, .int j => if decide (0 ≤ j) && decide (j ≤ 1000) && decide (i.natAbs < 18446744073709551616) then it (i * 2 ^ j.toNat) else none
  | .shr, .int i, .int j => if 0 ≤ j then it (i / 2 ^ j.toNat) else none
  | .band, .int i, .int j => it (Builtin.bitAnd i j)
  | .bor, .int i, .int j => it (Builtin.bitOr i j)
  | .eq, a, b => if lev 8 a && lev 8 b then bl (PyData.eqv a b) else none
  | .ne, a, b => if lev 8 a && lev 8 b then bl (!PyData.eqv a b) else none
  | .lt, .int i, .int j => bl (decide (i < j))
  | .le, .int i, .int j => bl (decide (i ≤ j))
  | .gt, .int i, .int j => bl (decide (j < i))
  | .ge, .int i, .int j => bl (decide (j ≤ i))
  | .is, a, .none => bl (match a with | .none => true | _ => false)
  | .isnt, a, .none => bl (match a with | .none => false | _ => true)
  | .isin, a, .list l => if lev 8 a && l.all (lev 7) then bl (l.any fun z => PyData.eqv z a) else none
  | .notin, a, .list l => if lev 8 a && l.all (lev 7) then bl (!l.any fun z => PyData.eqv z a) else none
  | .ix, .list l, .int i => (L2.atI l i).map Sl.sh
  | .ix, .tuple l, .int i => (L2.atI l i).map Sl.sh
  | .ix, .str s, .int i => if s.length ≤ lim then (L2.atI s.cps.toList i).map fun c => Sl.sh (.str ⟨#[c]⟩) else none
  | _, _, _ => none
/-- the intsD of a list -/
def intsD : List PyData → Option (List Int)
  | [] => some []
  | .int i :: r => (intsD r).map (i :: ·)
  | _ :: _ => none
def boolsD : List PyData → Option (List Bool)
  | [] => some []
  | .bool i :: r => (boolsD r).map (i :: ·)
  | _ :: _ => none
def maxI : List Int → Option Int
  | [] => none
  | [x] => some x
  | x :: r => (maxI r).map fun m => if x < m then m else x
def minI : List Int → Option Int
  | [] => none
  | [x] => some x
  | x :: r => (minI r).map fun m => if m < x then m else x
def allike (l : List PyData) : Bool := l.all fun d => l.all fun e => PySem.W.alike d e
def tupNE : PyData → Bool
  | .tuple (_ :: _) => true
  | _ => false
def notTup : PyData → Bool
  | .none => false
  | .tuple _ => false
  | _ => true
def sortD (l : List PyData) : List PyData := l.mergeSort (PySem.W.dataLe false id)
def sortOk (l : List PyData) : Bool := allike l && (l.all tupNE || l.all notTup) && l.all (lev 7) && decide (l.length ≤ lim)
def op1 : O1 → PyData → Option Sl
  | .sorted, .list l => if sortOk l then some (.ow (sortD l)) else none
  | .neg, .int i => it (-i)
  | .not, d => (truthD d).map fun b => Sl.sh (.bool !b)
  | .truth, d => (truthD d).map fun b => Sl.sh (.bool b)
  | .len, .list l => it l.length
  | .len, .tuple l => it l.length
  | .len, .str s => if s.length ≤ lim then it s.length else none
  | .sum, .list l => (intsD l).map fun ns => Sl.sh (.int ns.sum)
  | .sum, .tuple l => (intsD l).map fun ns => Sl.sh (.int ns.sum)
  | .abs, .int i => it (if i < 0 then -i else i)
  | .tuple, .list l => some (.sh (.tuple l))
  | .tuple, .tuple l => some (.sh (.tuple l))
  | .list, .list l => some (.ow l)
  | .list, .tuple l => some (.ow l)
  | .min, .list l => (intsD l).bind fun ns => (minI ns).map fun m => Sl.sh (.int m)
  | .max, .list l => (intsD l).bind fun ns => (maxI ns).map fun m => Sl.sh (.int m)
  | .int, .int i => it i
  | .int, .bool b => it (if b then 1 else 0)
  | .all, .list l => (boolsD l).map fun bs => Sl.sh (.bool (bs.all id))
  | .any, .list l => (boolsD l).map fun bs => Sl.sh (.bool (bs.any id))
  | .isint, d => bl (match d with | .int _ => true | .bool _ => true | _ => false)
  | .isbool, d => bl (match d with | .bool _ => true | _ => false)
  | .istuple, d => bl (match d with | .tuple _ => true | _ => false)
  | .isstr, d => bl (match d with | .str _ => true | _ => false)
  | _, _ => none
def cutD (xs : List PyData) (lo hi : Option Int) : List PyData := (xs.drop (HT.sIx xs.length 0 lo)).take (HT.sIx xs.length xs.length hi - HT.sIx xs.length 0 lo)
/-- a bound of a slice: what is not written is .k .none -/
def bnd : CE → PyData → Option (Option Int)
  | .k .none, .none => some none
  | _, .int i => some (some i)
  | _, _ => none
def slice : PyData → Option Int → Option Int → Option Sl
  | .list l, a, b => some (.ow (cutD l a b))
  | .tuple l, a, b => some (.sh (.tuple (cutD l a b)))
  | _, _, _ => none
/-- what a walk gives -/
def items : Sl → Option (List PyData)
  | .ow l => some l
  | .sh (.list l) => some l
  | .sh (.tuple l) => some l
  | .sh (.str s) => some (s.cps.toList.map fun c => .str ⟨#[c]⟩)
  | _ => none
def enumD (l : List PyData) : List PyData := (List.range l.length).zipWith (fun (i : Nat) d => .tuple [.int (i : Int), d]) l
def zipD (l m : List PyData) : List PyData := List.zipWith (fun a b => .tuple [a, b]) l m
def seqD : PyData → Option (List PyData)
  | .list l => some l
  | .tuple l => some l
  | _ => none
/-- zip of two of one kind -/
def zip2 : PyData → PyData → Option (List PyData)
  | .list l, .list m => some (zipD l m)
  | .tuple l, .tuple m => some (zipD l m)
  | _, _ => none
def rngD (i : Int) (n : Nat) : List PyData := (List.range n).map fun j => .int (i + (j : Nat))
def rngDc (i c : Int) (n : Nat) : List PyData := (List.range n).map fun j => .int (i + (j : Nat) * c)
/-! ### slots -/
def peek (ρ : PEnv) (i : Nat) : Option PyData := match ρ[i]? with
  | some (.sh d) => some d
  | some (.ow l) => some (.list l)
  | some (.io l) => some (.list l)
  | some (.od m) => some (.dict m)
  | _ => none
def rdv (ρ : PEnv) (i : Nat) : Option (Sl × PEnv) := match ρ[i]? with
  | some (.sh d) => some (.sh d, ρ)
  | some (.ow l) => some (.sh (.list l), ρ.set i (.sh (.list l)))
  | some (.od m) => some (.sh (.dict m), ρ.set i (.sh (.dict m)))
  | _ => none
def rmv (ρ : PEnv) (i : Nat) : Option (Sl × PEnv) := match ρ[i]? with
  | some (.sh d) => some (.sh d, ρ)
  | some (.ow l) => some (.ow l, ρ.set i .un)
  | some (.od m) => some (.od m, ρ.set i .un)
  | _ => none
/-- may slot i be stored to -/
def free (ρ : PEnv) (i : Nat) : Bool := match ρ[i]? with
  | some (.io _) => false
  | some _ => true
  | none => false
def put (ρ : PEnv) (i : Nat) (s : Sl) : Option PEnv := if free ρ i then some (ρ.set i s) else none
def listAt (ρ : PEnv) (i : Nat) : Option (List PyData) := match ρ[i]? with
  | some (.ow l) => some l
  | some (.io l) => some l
  | _ => none
/-- the list of slot i changed -/
def upd (ρ : PEnv) (i : Nat) (f : List PyData → Option (List PyData)) : Option PEnv := match ρ[i]? with
  | some (.ow l) => (f l).map fun l' => ρ.set i (.ow l')
  | some (.io l) => (f l).map fun l' => ρ.set i (.io l')
  | _ => none
def setAt (ρ : PEnv) (i : Nat) (z : Int) (d : PyData) : Option PEnv := upd ρ i fun l => (L2.ixN l.length z).map fun j => l.set j d
def asgn : Tg → PyData → PEnv → Option PEnv
  | .nm i, d, ρ => put ρ i (.sh d)
  | .tp t, .tuple l, ρ => asgnL t l ρ
  | .ix i k, d, ρ => setAt ρ i k d
  | _, _, _ => none
where asgnL : Tg → List PyData → PEnv → Option PEnv
  | .nil, [], ρ => some ρ
  | .cons a b, d :: ds, ρ => (asgn a d ρ).bind (asgnL b ds)
  | _, _, _ => none
def wipeE (ρ : PEnv) : List Nat → PEnv
  | [] => ρ
  | v :: vs => (wipeE ρ vs).set v .un
/-- behind a block: its own names as they were -/
def backE (ρ : PEnv) (ρ' : PEnv) : List Nat → PEnv
  | [] => ρ'
  | v :: vs => backE ρ (ρ'.set v (ρ.getD v .un)) vs
def plainSl (ρ : PEnv) (v : Nat) : Bool := match ρ[v]? with
  | some .un => true
  | some (.sh _) => true
  | _ => false
/-- no two of the names fall together -/
def compLoop (g : PyData → PEnv → Option PEnv) (c : PEnv → Option (Sl × PEnv)) (e : PEnv → Option (Sl × PEnv)) (vs : List Nat) : List PyData → PEnv → List PyData → Option (List PyData × PEnv)
  | [], ρ, acc => some (acc, ρ)
  | d :: ds, ρ, acc => do
    let ρ1 ← g d ρ
    let (b, ρ2) ← c ρ1
    let b ← (toD b).bind truthD
    if b then
      let (r, ρ3) ← e ρ2
      let r ← toD r
      compLoop g c e vs ds (wipeE ρ3 vs) (acc ++ [r])
    else compLoop g c e vs ds (wipeE ρ2 vs) acc
/-- calls: the number of the def, the slots handed in; back: the value and the lent list -/
abbrev Calls := Nat → List Sl → Option (Sl × Option (List PyData))
section
variable (cl : Calls)
mutual
def ev : CE → PEnv → Option (Sl × PEnv)
  | .k d, ρ => some (.sh d, ρ)
  | .v i, ρ => rdv ρ i
  | .mv i, ρ => rmv ρ i
  | .op1 o a, ρ => do
    let (r, ρ1) ← ev a ρ
    let d ← toD r
    let z ← op1 o d
    some (z, ρ1)
  | .op1v o i, ρ => do
    let d ← peek ρ i
    let z ← op1 o d
    some (z, ρ)
  | .op2 o a b, ρ => do
    let (r, ρ1) ← ev a ρ
    let x ← toD r
    let (r2, ρ2) ← ev b ρ1
    let y ← toD r2
    let z ← op2 o x y
    some (z, ρ2)
  | .op2v o i b, ρ => do
    let _ ← peek ρ i
    let (r2, ρ2) ← ev b ρ
    let y ← toD r2
    let x ← peek ρ2 i
    let z ← op2 o x y
    some (z, ρ2)
  | .op2w o a i, ρ => do
    let (r, ρ1) ← ev a ρ
    let x ← toD r
    let y ← peek ρ1 i
    let z ← op2 o x y
    some (z, ρ1)
  | .op2x o i j, ρ => do
    let x ← peek ρ i
    let y ← peek ρ j
    let z ← op2 o x y
    some (z, ρ)
  | .bi2 o a b, ρ => do
    let (r, ρ1) ← ev a ρ
    let x ← toD r
    let (r2, ρ2) ← ev b ρ1
    let y ← toD r2
    match o, x, y with
    | .min, .int i, .int j => some (.sh (.int (if j < i then j else i)), ρ2)
    | .max, .int i, .int j => some (.sh (.int (if j > i then j else i)), ρ2)
    | _, _, _ => none
  | .chain o o' a b c, ρ => do
    let (r, ρ1) ← ev a ρ
    let x ← toD r
    let (r2, ρ2) ← ev b ρ1
    let y ← toD r2
    let z ← op2 o x y
    match z with
    | .sh (.bool true) =>
      let (r3, ρ3) ← ev c ρ2
      let w ← toD r3
      let z' ← op2 o' y w
      some (z', ρ3)
    | .sh (.bool false) => some (.sh (.bool false), ρ2)
    | _ => none
  | .and a b, ρ => do
    let (r, ρ1) ← ev a ρ
    let d ← toD r
    let t ← truthD d
    if t then ev b ρ1 else some (.sh d, ρ1)
  | .or a b, ρ => do
    let (r, ρ1) ← ev a ρ
    let d ← toD r
    let t ← truthD d
    if t then some (.sh d, ρ1) else ev b ρ1
  | .ite c a b, ρ => do
    let (r, ρ1) ← ev c ρ
    let t ← (toD r).bind truthD
    if t then ev a ρ1 else ev b ρ1
  | .nil, _ => none
  | .cons _ _, _ => none
  | .tup a, ρ => do
    let (ds, ρ1) ← evA a ρ
    if ds.length ≤ lim then some (.sh (.tuple ds), ρ1) else none
  | .lst a, ρ => do
    let (ds, ρ1) ← evA a ρ
    if ds.length ≤ lim then some (.ow ds, ρ1) else none
  | .sl a lo hi, ρ => do
    let (r, ρ1) ← ev a ρ
    let x ← toD r
    let (r2, ρ2) ← ev lo ρ1
    let l ← (toD r2).bind (bnd lo)
    let (r3, ρ3) ← ev hi ρ2
    let h ← (toD r3).bind (bnd hi)
    let z ← slice x l h
    some (z, ρ3)
  | .slv i lo hi, ρ => do
    let _ ← peek ρ i
    let (r2, ρ2) ← ev lo ρ
    let l ← (toD r2).bind (bnd lo)
    let (r3, ρ3) ← ev hi ρ2
    let h ← (toD r3).bind (bnd hi)
    let x ← peek ρ3 i
    let z ← slice x l h
    some (z, ρ3)
  | .slsc i lo hi, ρ => do
    match ρ[i]? with
    | some (.sc ns) =>
      let (r2, ρ2) ← ev lo ρ
      let l ← (toD r2).bind (bnd lo)
      let (r3, ρ3) ← ev hi ρ2
      let h ← (toD r3).bind (bnd hi)
      match ρ3[i]? with
      | some (.sc ms) => (slice (.list (ms.map .int)) l h).map fun z => (z, ρ3)
      | _ => none
    | _ => none
  | .call f as, ρ => do
    let (ds, ρ1) ← evA as ρ
    let (r, _) ← cl f (ds.map Sl.sh)
    some (r, ρ1)
  | .callm f i as, ρ => do
    let _ ← peek ρ i
    let (ds, ρ1) ← evA as ρ
    match ρ1[i]? with
    | some (.ow l) =>
      let (r, o) ← cl f (.io l :: ds.map Sl.sh)
      let l' ← o
      some (r, ρ1.set i (.ow l'))
    | some (.io l) =>
      let (r, o) ← cl f (.io l :: ds.map Sl.sh)
      let l' ← o
      some (r, ρ1.set i (.io l'))
    | _ => none
  | .callsc f i, ρ => do
    match ρ[i]? with
    | some (.sc ns) =>
      let (r, _) ← cl f [.sc ns]
      some (r, ρ)
    | _ => none
  | .comp t vs tg c e, ρ => do
    let (r, ρ1) ← ev t ρ
    let l ← items r
    if l.length ≤ lim && vs.all (plainSl ρ1) then
      let (acc, ρ2) ← compLoop (asgn tg) (ev c) (ev e) vs l (wipeE ρ1 vs) []
      some (.ow acc, backE ρ1 ρ2 vs)
    else none
  | .rng a b, ρ => do
    let (r, ρ1) ← ev a ρ
    let (r2, ρ2) ← ev b ρ1
    match r, r2 with
    | .sh (.int i), .sh (.int j) => if rgOk i && rgOk j then some (.ow (rngD i (j - i).toNat), ρ2) else none
    | _, _ => none
  | .rng3 a b c, ρ => do
    let (r, ρ1) ← ev a ρ
    let (r2, ρ2) ← ev b ρ1
    let (r3, ρ3) ← ev c ρ2
    match r, r2, r3 with
    | .sh (.int i), .sh (.int j), .sh (.int c) => if rgOk i && rgOk j && c == -1 then some (.ow (rngDc i (-1) (i - j).toNat), ρ3) else none
    | _, _, _ => none
  | .enum a, ρ => do
    let (r, ρ1) ← ev a ρ
    let d ← toD r
    let l ← seqD d
    some (.ow (enumD l), ρ1)
  | .zip a b, ρ => do
    let (r, ρ1) ← ev a ρ
    let d ← toD r
    let (r2, ρ2) ← ev b ρ1
    let d2 ← toD r2
    let l ← zip2 d d2
    some (.ow l, ρ2)
def evA : CE → PEnv → Option (List PyData × PEnv)
  | .nil, ρ => some ([], ρ)
  | .cons a b, ρ => do
    let (r, ρ1) ← ev a ρ
    let d ← toD r
    let (ds, ρ2) ← evA b ρ1
    some (d :: ds, ρ2)
  | _, _ => none
end
/-- values with their kinds -/
def evP : CE → PEnv → Option (List Sl × PEnv)
  | .nil, ρ => some ([], ρ)
  | .cons a b, ρ => do
    let (r, ρ1) ← ev cl a ρ
    let (ds, ρ2) ← evP b ρ1
    some (r :: ds, ρ2)
  | _, _ => none
def tst (c : CE) (ρ : PEnv) : Option (Bool × PEnv) := do
  let (r, ρ1) ← ev cl c ρ
  let t ← (toD r).bind truthD
  some (t, ρ1)
inductive Out where
  | nx (ρ : PEnv)
  | rt (r : Sl) (ρ : PEnv)
def putP : Tg → List Sl → PEnv → Option PEnv
  | .nil, [], ρ => some ρ
  | .cons (.nm i) b, s :: ss, ρ => (put ρ i s).bind (putP b ss)
  | _, _, _ => none
def forLoop (g : PyData → PEnv → Option PEnv) (b : PEnv → Option Out) : List PyData → PEnv → Option Out
  | [], ρ => some (.nx ρ)
  | d :: ds, ρ => do
    let ρ1 ← g d ρ
    match ← b ρ1 with
    | .nx ρ2 => forLoop g b ds ρ2
    | .rt r ρ2 => some (.rt r ρ2)
def whileLoop (c : PEnv → Option (Bool × PEnv)) (b : PEnv → Option Out) : Nat → PEnv → Option Out
  | 0, _ => none
  | n + 1, ρ => do
    let (t, ρ1) ← c ρ
    if t then
      match ← b ρ1 with
      | .nx ρ2 => whileLoop c b n ρ2
      | .rt r ρ2 => some (.rt r ρ2)
    else some (.nx ρ1)
def ex (F : Nat) : CS → PEnv → Option Out
  | .pass, ρ => some (.nx ρ)
  | .seq a b, ρ => do
    match ← ex F a ρ with
    | .nx ρ1 => ex F b ρ1
    | .rt r ρ1 => some (.rt r ρ1)
  | .asg t e, ρ => do
    let (r, ρ1) ← ev cl e ρ
    match t with
    | .nm i => (put ρ1 i r).map Out.nx
    | _ =>
      let d ← toD r
      (asgn t d ρ1).map Out.nx
  | .par ts es, ρ => do
    let (rs, ρ1) ← evP cl es ρ
    (putP ts rs ρ1).map Out.nx
  | .seti i ix e, ρ => do
    let (r, ρ1) ← ev cl e ρ
    let d ← toD r
    let _ ← peek ρ1 i
    let (r2, ρ2) ← ev cl ix ρ1
    let x ← toD r2
    match x with
    | .int z => (setAt ρ2 i z d).map Out.nx
    | _ => none
  | .augi i o ix e, ρ => do
    let _ ← peek ρ i
    let (r2, ρ1) ← ev cl ix ρ
    let x ← toD r2
    let l0 ← peek ρ1 i
    let old ← (match l0, x with
      | .list l, .int z => L2.atI l z
      | _, _ => none)
    let (r, ρ2) ← ev cl e ρ1
    let d ← toD r
    match x, old, d with
    | .int z, .int p, .int q => do
      let new ← (op2 o (.int p) (.int q)).bind toD
      (setAt ρ2 i z new).map Out.nx
    | _, _, _ => none
  | .augn i o e, ρ => do
    let old ← peek ρ i
    let (r, ρ1) ← ev cl e ρ
    let d ← toD r
    match old, d with
    | .int p, .int q => do
      let new ← op2 o (.int p) (.int q)
      (put ρ1 i new).map Out.nx
    | _, _ => none
  | .app i e, ρ => do
    let _ ← listAt ρ i
    let (r, ρ1) ← ev cl e ρ
    let d ← toD r
    (upd ρ1 i fun l => if l.length < lim then some (l ++ [d]) else none).map Out.nx
  | .ext i e, ρ => do
    let _ ← listAt ρ i
    let (r, ρ1) ← ev cl e ρ
    let d ← toD r
    match d with
    | .list m => (upd ρ1 i fun l => if l.length + m.length ≤ lim then some (l ++ m) else none).map Out.nx
    | _ => none
  | .drop e, ρ => do
    let (_, ρ1) ← ev cl e ρ
    some (.nx ρ1)
  | .ite c a b, ρ => do
    let (t, ρ1) ← tst cl c ρ
    if t then ex F a ρ1 else ex F b ρ1
  | .for t i b, ρ => do
    let (r, ρ1) ← ev cl i ρ
    let l ← items r
    forLoop (asgn t) (ex F b) l ρ1
  | .while c b, ρ => whileLoop (tst cl c) (ex F b) F ρ
  | .ret e, ρ => do
    let (r, ρ1) ← ev cl e ρ
    some (.rt r ρ1)
  | .fail, _ => none
end
/-- a def: how many parameters, how many slots, whether the first parameter is lent, its body -/
structure Fn where
  ps : Nat
  n : Nat
  io : Bool
  body : CS
def okR : Sl → Bool
  | .sh _ => true
  | .ow _ => true
  | .od _ => true
  | _ => false
def endRun (io : Bool) (r : Sl) (ρ : PEnv) : Option (Sl × Option (List PyData)) :=
  if okR r then
    if io then match ρ with
      | .io l :: _ => some (r, some l)
      | _ => none
    else some (r, none)
  else none
def run (F : Nat) (Γ : List Fn) : Nat → Calls
  | 0, _, _ => none
  | k + 1, f, as => do
    let fn ← Γ[f]?
    if as.length == fn.ps then
      let out ← ex (run F Γ k) F fn.body (as ++ List.replicate (fn.n - fn.ps) .un)
      match out with
      | .nx ρ => endRun fn.io (.sh .none) ρ
      | .rt r ρ => endRun fn.io r ρ
    else none
end PP
namespace PP
open PySem L2
def keyD : Key → PyData
  | .inl i => .int i
  | .inr x => .str x
mutual
/-- a value stands for data in a heap that is never changed, only grows -/
inductive Rep (K : PySem.W.Frag) (G : Hp) : V → PyData → Prop
  | non : Rep K G .non .none
  | bl (b : Bool) : Rep K G (.bl b) (.bool b)
  | int (i : Int) : Rep K G (.int i) (.int i)
  | str (x : Str) : Rep K G (.str x) (.str x)
  | lst {a : Addr} {xs : List V} {ds : List PyData} : G a = some (.lst xs) → Reps K G xs ds → Rep K G (.ref a) (.list ds)
  | tup {a : Addr} {xs : List V} {ds : List PyData} : SqT K G a xs → Reps K G xs ds → Rep K G (.ref a) (.tuple ds)
  | dK {a : Addr} {kvs : List (Key × V)} {m : List (PyData × PyData)} : G a = some (.dK kvs) → m.map (·.1) = kvs.map (fun p => keyD p.1) → Reps K G (kvs.map (·.2)) (m.map (·.2)) → Rep K G (.ref a) (.dict m)
  | dT {a : Addr} {kvs : List (List Key × V)} {m : List (PyData × PyData)} : G a = some (.dT kvs) → m.map (·.1) = kvs.map (fun p => .tuple (p.1.map keyD)) → Reps K G (kvs.map (·.2)) (m.map (·.2)) → Rep K G (.ref a) (.dict m)
inductive Reps (K : PySem.W.Frag) (G : Hp) : List V → List PyData → Prop
  | nil : Reps K G [] []
  | cons {v : V} {vs : List V} {d : PyData} {ds : List PyData} : Rep K G v d → Reps K G vs ds → Reps K G (v :: vs) (d :: ds)
end
abbrev Ex := Evl.Ex
section
variable {K : PySem.W.Frag} {G G' H H' : Hp}
mutual
theorem Rep.mono (e : Ex G G') : ∀ {v : V} {d : PyData}, Rep K G v d → Rep K G' v d
  | _, _, .non => .non
  | _, _, .bl b => .bl b
  | _, _, .int i => .int i
  | _, _, .str x => .str x
  | _, _, .lst h r => .lst (e _ _ h) (Reps.mono e r)
  | _, _, .tup h r => .tup (Evl.ex_t e h) (Reps.mono e r)
  | _, _, .dK h q r => .dK (e _ _ h) q (Reps.mono e r)
  | _, _, .dT h q r => .dT (e _ _ h) q (Reps.mono e r)
theorem Reps.mono (e : Ex G G') : ∀ {vs : List V} {ds : List PyData}, Reps K G vs ds → Reps K G' vs ds
  | _, _, .nil => .nil
  | _, _, .cons h r => .cons (Rep.mono e h) (Reps.mono e r)
end
theorem Reps.length : ∀ {vs : List V} {ds : List PyData}, Reps K G vs ds → vs.length = ds.length
  | _, _, .nil => rfl
  | _, _, .cons _ r => congrArg Nat.succ r.length
theorem Reps.get : ∀ {vs : List V} {ds : List PyData} {i : Nat} {d : PyData}, Reps K G vs ds → ds[i]? = some d → ∃ v, vs[i]? = some v ∧ Rep K G v d
  | _, _, _, _, .nil, h => by simp at h
  | _, _, 0, d, .cons h r, e => by
    simp at e
    subst e
    exact ⟨_, rfl, h⟩
  | _, _, i + 1, d, .cons h r, e => by
    obtain ⟨v, h1, h2⟩ := Reps.get (i := i) r (by simpa using e)
    exact ⟨v, by simpa using h1, h2⟩
theorem Reps.get' : ∀ {vs : List V} {ds : List PyData} {i : Nat} {v : V}, Reps K G vs ds → vs[i]? = some v → ∃ d, ds[i]? = some d ∧ Rep K G v d
  | _, _, _, _, .nil, h => by simp at h
  | _, _, 0, d, .cons h r, e => by
    simp at e
    subst e
    exact ⟨_, rfl, h⟩
  | _, _, i + 1, d, .cons h r, e => by
    obtain ⟨v, h1, h2⟩ := Reps.get' (i := i) r (by simpa using e)
    exact ⟨v, by simpa using h1, h2⟩
theorem Reps.append : ∀ {vs ws : List V} {ds es : List PyData}, Reps K G vs ds → Reps K G ws es → Reps K G (vs ++ ws) (ds ++ es)
  | _, _, _, _, .nil, s => s
  | _, _, _, _, .cons h r, s => .cons h (Reps.append r s)
theorem Reps.take : ∀ {vs : List V} {ds : List PyData} (n : Nat), Reps K G vs ds → Reps K G (vs.take n) (ds.take n)
  | _, _, 0, _ => .nil
  | _, _, _ + 1, .nil => .nil
  | _, _, n + 1, .cons r t => .cons r (Reps.take n t)
theorem Reps.drop : ∀ {vs : List V} {ds : List PyData} (n : Nat), Reps K G vs ds → Reps K G (vs.drop n) (ds.drop n)
  | _, _, 0, r => r
  | _, _, _ + 1, .nil => .nil
  | _, _, n + 1, .cons _ t => Reps.drop n t
theorem Reps.set {v : V} {d : PyData} (h : Rep K G v d) : ∀ {vs : List V} {ds : List PyData} (i : Nat), Reps K G vs ds → Reps K G (vs.set i v) (ds.set i d)
  | _, _, _, .nil => .nil
  | _, _, 0, .cons _ t => .cons h t
  | _, _, i + 1, .cons q t => .cons q (Reps.set h i t)
theorem Reps.rep : ∀ {vs : List V} {ds : List PyData} (n : Nat), Reps K G vs ds → Reps K G (List.replicate n vs).flatten (List.replicate n ds).flatten
  | _, _, 0, _ => .nil
  | vs, ds, n + 1, r => by
    rw [List.replicate_succ, List.replicate_succ, List.flatten_cons, List.flatten_cons]
    exact r.append (Reps.rep n r)
theorem Reps.mem : ∀ {vs : List V} {ds : List PyData} {d : PyData}, Reps K G vs ds → d ∈ ds → ∃ v, v ∈ vs ∧ Rep K G v d
  | _, _, _, .cons h r, m => by
    rcases List.mem_cons.mp m with e | m
    · exact ⟨_, List.mem_cons_self, e ▸ h⟩
    · obtain ⟨v, h1, h2⟩ := Reps.mem r m
      exact ⟨v, List.mem_cons_of_mem _ h1, h2⟩
theorem reps_ints : ∀ (ns : List Int), Reps K G (ns.map V.int) (ns.map PyData.int)
  | [] => .nil
  | n :: ns => .cons (.int n) (reps_ints ns)
/-- the ints of a list -/
theorem reps_intsD : ∀ {ds : List PyData} {vs : List V} {ns : List Int}, Reps K G vs ds → intsD ds = some ns → vs = ns.map V.int
  | [], _, ns, .nil, h => by
    simp [intsD] at h
    subst h
    rfl
  | d :: ds, _, ns, .cons (v := v) h1 r, h => by
    cases h1 with
    | int i =>
      simp only [intsD, Option.map_eq_some_iff] at h
      obtain ⟨ms, h2, rfl⟩ := h
      rw [reps_intsD r h2]
      rfl
    | _ => simp [intsD] at h
theorem reps_boolsD : ∀ {ds : List PyData} {vs : List V} {bs : List Bool}, Reps K G vs ds → boolsD ds = some bs → vs = bs.map V.bl
  | [], _, ns, .nil, h => by
    simp [boolsD] at h
    subst h
    rfl
  | d :: ds, _, ns, .cons (v := v) h1 r, h => by
    cases h1 with
    | bl i =>
      simp only [boolsD, Option.map_eq_some_iff] at h
      obtain ⟨ms, h2, rfl⟩ := h
      rw [reps_boolsD r h2]
      rfl
    | _ => simp [boolsD] at h
end
/-! ### the slots' entries -/
abbrev Ent := Option V × Sl
def ownA : Ent → Option Addr
  | (some (.ref a), .ow _) => some a
  | (some (.ref a), .io _) => some a
  | (some (.ref a), .od _) => some a
  | _ => none
theorem ownA_sh (v : Option V) (d : PyData) : ownA (v, .sh d) = none := by
  cases v with
  | none => rfl
  | some x => cases x <;> rfl
theorem ownA_un (v : Option V) : ownA (v, .un) = none := by
  cases v with
  | none => rfl
  | some x => cases x <;> rfl
/-- a dict of one's own: its object -/
inductive DicO (K : PySem.W.Frag) (G : Hp) : HO → List (PyData × PyData) → Prop
  | dK {kvs : List (Key × V)} {m : List (PyData × PyData)} : m.map (·.1) = kvs.map (fun p => keyD p.1) → Reps K G (kvs.map (·.2)) (m.map (·.2)) → DicO K G (.dK kvs) m
  | dT {kvs : List (List Key × V)} {m : List (PyData × PyData)} : m.map (·.1) = kvs.map (fun p => .tuple (p.1.map keyD)) → Reps K G (kvs.map (·.2)) (m.map (·.2)) → DicO K G (.dT kvs) m
theorem DicO.mono {K : PySem.W.Frag} {G G' : Hp} {o : HO} {m : List (PyData × PyData)} (e : Ex G G') (h : DicO K G o m) : DicO K G' o m := by
  cases h with
  | dK h r => exact .dK h (r.mono e)
  | dT h r => exact .dT h (r.mono e)
/-- the object itself as it lies now (it may change), what is within never changes any more -/
inductive Rep1 (K : PySem.W.Frag) (G H : Hp) : V → PyData → Prop
  | non : Rep1 K G H .non .none
  | bl (b : Bool) : Rep1 K G H (.bl b) (.bool b)
  | int (i : Int) : Rep1 K G H (.int i) (.int i)
  | str (x : Str) : Rep1 K G H (.str x) (.str x)
  | lst {a : Addr} {xs : List V} {ds : List PyData} : H a = some (.lst xs) → Reps K G xs ds → Rep1 K G H (.ref a) (.list ds)
  | tup {a : Addr} {xs : List V} {ds : List PyData} : SqT K G a xs → Reps K G xs ds → Rep1 K G H (.ref a) (.tuple ds)
  | dic {a : Addr} {o : HO} {m : List (PyData × PyData)} : H a = some o → DicO K G o m → Rep1 K G H (.ref a) (.dict m)
theorem Rep.one {K : PySem.W.Frag} {G H : Hp} {v : V} {d : PyData} (e : Ex G H) (h : Rep K G v d) : Rep1 K G H v d := by
  cases h with
  | non => exact .non
  | bl b => exact .bl b
  | int i => exact .int i
  | str x => exact .str x
  | lst q r => exact .lst (e _ _ q) r
  | tup q r => exact .tup q r
  | dK q h r => exact .dic (e _ _ q) (.dK h r)
  | dT q h r => exact .dic (e _ _ q) (.dT h r)
structure Fr where
  G0 : Hp
  H0 : Hp
  IO : Addr → Prop
def EntOk (K : PySem.W.Frag) (B : Fr) (G H : Hp) : Ent → Prop
  | (_, .un) => True
  | (v, .sh d) => ∃ x, v = some x ∧ Rep K G x d
  | (v, .ow l) => ∃ a vs, v = some (.ref a) ∧ B.H0 a = none ∧ G a = none ∧ H a = some (.lst vs) ∧ Reps K G vs l
  | (v, .io l) => ∃ a vs, v = some (.ref a) ∧ B.IO a ∧ G a = none ∧ H a = some (.lst vs) ∧ Reps K G vs l
  | (v, .od m) => ∃ a o, v = some (.ref a) ∧ B.H0 a = none ∧ G a = none ∧ H a = some o ∧ DicO K G o m
  | (v, .sc ns) => ∃ a, v = some (.ref a) ∧ SqL K G a (ns.map V.int)
structure Ok (K : PySem.W.Frag) (B : Fr) (G : Hp) (L : List Ent) (H : Hp) : Prop where
  fr : ∀ a o, B.H0 a = some o → ¬ B.IO a → H a = some o
  sub : Ex G H
  gn : ∀ a o, G a = some o → B.G0 a = some o ∨ B.H0 a = none
  g0 : Ex B.G0 G
  ios : ∀ a, B.IO a → H a ≠ none
  ent : ∀ (n : Nat) (p : Ent), L[n]? = some p → EntOk K B G H p
  dis : ∀ (m n : Nat) (p q : Ent) (a : Addr), L[m]? = some p → L[n]? = some q → ownA p = some a → ownA q = some a → m = n
section
variable {K : PySem.W.Frag} {B : Fr} {G G' H H' : Hp} {L : List Ent} {p : Ent}
theorem Ok.tail (h : Ok K B G (p :: L) H) : Ok K B G L H :=
  ⟨h.fr, h.sub, h.gn, h.g0, h.ios, fun n q e => h.ent (n + 1) q (by simpa using e), fun m n q r a e1 e2 o1 o2 => Nat.succ.inj (h.dis (m + 1) (n + 1) q r a (by simpa using e1) (by simpa using e2) o1 o2)⟩
theorem Ok.head (h : Ok K B G (p :: L) H) : EntOk K B G H p := h.ent 0 p rfl
theorem Ok.rep {x : V} {d : PyData} (h : Ok K B G ((some x, .sh d) :: L) H) : Rep K G x d := by
  obtain ⟨y, e, r⟩ := h.head
  cases e
  exact r
theorem EntOk.own_of {p : Ent} {a : Addr} (h : EntOk K B G H p) (e : ownA p = some a) : G a = none ∧ H a ≠ none := by
  obtain ⟨v, s⟩ := p
  cases s with
  | un => simp [ownA] at e
  | sh d => simp [ownA] at e
  | sc d => simp [ownA] at e
  | ow l =>
    obtain ⟨b, vs, rfl, h0, h1, h2, h3⟩ := h
    simp [ownA] at e
    subst e
    exact ⟨h1, by rw [h2]; simp⟩
  | io l =>
    obtain ⟨b, vs, rfl, h0, h1, h2, h3⟩ := h
    simp [ownA] at e
    subst e
    exact ⟨h1, by rw [h2]; simp⟩
  | od m =>
    obtain ⟨b, vs, rfl, h0, h1, h2, h3⟩ := h
    simp [ownA] at e
    subst e
    exact ⟨h1, by rw [h2]; simp⟩
/-- a further entry that owns nothing -/
theorem Ok.consU (h : Ok K B G L H) (hp : EntOk K B G H p) (ho : ownA p = none) : Ok K B G (p :: L) H := by
  refine ⟨h.fr, h.sub, h.gn, h.g0, h.ios, fun n q e => ?_, fun m n q r a e1 e2 o1 o2 => ?_⟩
  · cases n with
    | zero =>
      simp at e
      subst e
      exact hp
    | succ n => exact h.ent n q (by simpa using e)
  · cases m with
    | zero =>
      simp at e1
      subst e1
      rw [ho] at o1
      cases o1
    | succ m =>
      cases n with
      | zero =>
        simp at e2
        subst e2
        rw [ho] at o2
        cases o2
      | succ n => exact congrArg Nat.succ (h.dis m n q r a (by simpa using e1) (by simpa using e2) o1 o2)
theorem Ok.consR {x : V} {d : PyData} (h : Ok K B G L H) (r : Rep K G x d) : Ok K B G ((some x, .sh d) :: L) H := h.consU ⟨x, rfl, r⟩ (ownA_sh _ _)
/-- an owning entry that stands apart -/
theorem Ok.consO {a : Addr} (h : Ok K B G L H) (hp : EntOk K B G H p) (ho : ownA p = some a) (hd : ∀ (n : Nat) (q : Ent), L[n]? = some q → ownA q ≠ some a) : Ok K B G (p :: L) H := by
  refine ⟨h.fr, h.sub, h.gn, h.g0, h.ios, fun n q e => ?_, fun m n q r b e1 e2 o1 o2 => ?_⟩
  · cases n with
    | zero =>
      simp at e
      subst e
      exact hp
    | succ n => exact h.ent n q (by simpa using e)
  · cases m with
    | zero =>
      simp at e1
      subst e1
      rw [ho] at o1
      cases o1
      cases n with
      | zero => rfl
      | succ n => exact absurd o2 (hd n r (by simpa using e2))
    | succ m =>
      cases n with
      | zero =>
        simp at e2
        subst e2
        rw [ho] at o2
        cases o2
        exact absurd o1 (hd m q (by simpa using e1))
      | succ n => exact congrArg Nat.succ (h.dis m n q r b (by simpa using e1) (by simpa using e2) o1 o2)
theorem ex_new {p : Addr} {o : HO} (h : H p = none) : Ex H (L2.upd H p o) := Evl.Ex.new h
theorem ex_sub {p : Addr} {o : HO} (e : Ex G H) (h : H p = none) : Ex (L2.upd G p o) (L2.upd H p o) := fun a u q => by
  by_cases z : a = p
  · subst z
    rw [upd_same] at q ⊢
    exact q
  · rw [upd_ne z] at q ⊢
    exact e a u q
theorem Ok.fresh0 (h : Ok K B G L H) {q : Addr} (hq : H q = none) : B.H0 q = none := by
  cases e : B.H0 q with
  | none => rfl
  | some o =>
    by_cases i : B.IO q
    · exact absurd hq (h.ios q i)
    · rw [h.fr q o e i] at hq
      cases hq
theorem Ok.freshG (h : Ok K B G L H) {q : Addr} (hq : H q = none) : G q = none := by
  cases e : G q with
  | none => rfl
  | some o =>
    rw [h.sub q o e] at hq
    cases hq
/-- entries stay when the shared heap grows and the owned objects stay -/
theorem EntOk.stay {p : Ent} (h : EntOk K B G H p) (eg : Ex G G') (hg : ∀ a, ownA p = some a → G' a = none) (hh : ∀ a o, ownA p = some a → H a = some o → H' a = some o) : EntOk K B G' H' p := by
  obtain ⟨v, s⟩ := p
  cases s with
  | un => trivial
  | sh d =>
    obtain ⟨x, e, r⟩ := h
    exact ⟨x, e, r.mono eg⟩
  | sc d =>
    obtain ⟨x, e, r⟩ := h
    exact ⟨x, e, Evl.ex_l eg r⟩
  | ow l =>
    obtain ⟨b, vs, rfl, h0, h1, h2, h3⟩ := h
    exact ⟨b, vs, rfl, h0, hg b rfl, hh b _ rfl h2, h3.mono eg⟩
  | io l =>
    obtain ⟨b, vs, rfl, h0, h1, h2, h3⟩ := h
    exact ⟨b, vs, rfl, h0, hg b rfl, hh b _ rfl h2, h3.mono eg⟩
  | od m =>
    obtain ⟨b, vs, rfl, h0, h1, h2, h3⟩ := h
    exact ⟨b, vs, rfl, h0, hg b rfl, hh b _ rfl h2, h3.mono eg⟩
/-- a new object that is shared at once -/
theorem Ok.newG {q : Addr} {o : HO} (h : Ok K B G L H) (hq : H q = none) : Ok K B (L2.upd G q o) L (L2.upd H q o) := by
  have g := h.freshG hq
  have z := h.fresh0 hq
  refine ⟨fun a u e i => ?_, ex_sub h.sub hq, fun a u e => ?_, h.g0.trans (ex_new g), fun a i => ?_, fun n p e => ?_, h.dis⟩
  · have ha : a ≠ q := fun k => by
      subst k
      rw [z] at e
      cases e
    rw [upd_ne ha]
    exact h.fr a u e i
  · by_cases ha : a = q
    · subst ha
      exact .inr z
    · rw [upd_ne ha] at e
      exact h.gn a u e
  · by_cases ha : a = q
    · subst ha
      exact absurd hq (h.ios a i)
    · rw [upd_ne ha]
      exact h.ios a i
  · have k := h.ent n p e
    refine k.stay (ex_new g) (fun a oa => ?_) (fun a u oa ha => ?_)
    · have w := k.own_of oa
      by_cases ha : a = q
      · subst ha
        exact absurd hq w.2
      · rw [upd_ne ha]
        exact w.1
    · by_cases ha' : a = q
      · subst ha'
        rw [hq] at ha
        cases ha
      · rw [upd_ne ha']
        exact ha
/-- a new object of one's own -/
theorem Ok.newH {q : Addr} {o : HO} (h : Ok K B G L H) (hq : H q = none) : Ok K B G L (L2.upd H q o) := by
  have z := h.fresh0 hq
  refine ⟨fun a u e i => ?_, h.sub.trans (ex_new hq), h.gn, h.g0, fun a i => ?_, fun n p e => ?_, h.dis⟩
  · have ha : a ≠ q := fun k => by
      subst k
      rw [z] at e
      cases e
    rw [upd_ne ha]
    exact h.fr a u e i
  · by_cases ha : a = q
    · subst ha
      exact absurd hq (h.ios a i)
    · rw [upd_ne ha]
      exact h.ios a i
  · have k := h.ent n p e
    refine k.stay (Evl.Ex.refl G) (fun a oa => (k.own_of oa).1) (fun a u oa ha => ?_)
    by_cases ha' : a = q
    · subst ha'
      rw [hq] at ha
      cases ha
    · rw [upd_ne ha']
      exact ha
theorem Ok.newL {q : Addr} {xs : List V} {ds : List PyData} (h : Ok K B G L H) (hq : H q = none) (r : Reps K G xs ds) : Ok K B G ((some (.ref q), .ow ds) :: L) (L2.upd H q (.lst xs)) := by
  refine (h.newH hq).consO (a := q) ⟨q, xs, rfl, h.fresh0 hq, h.freshG hq, upd_same, r⟩ rfl fun n p e o => ?_
  exact ((h.ent n p e).own_of o).2 hq
theorem Ok.newD {q : Addr} {o : HO} {m : List (PyData × PyData)} (h : Ok K B G L H) (hq : H q = none) (r : DicO K G o m) : Ok K B G ((some (.ref q), .od m) :: L) (L2.upd H q o) := by
  refine (h.newH hq).consO (a := q) ⟨q, o, rfl, h.fresh0 hq, h.freshG hq, upd_same, r⟩ rfl fun n p e o => ?_
  exact ((h.ent n p e).own_of o).2 hq
theorem Ok.newT {q : Addr} {xs : List V} {ds : List PyData} (h : Ok K B G L H) (hq : H q = none) (r : Reps K G xs ds) : Ok K B (L2.upd G q (.tup xs)) ((some (.ref q), .sh (.tuple ds)) :: L) (L2.upd H q (.tup xs)) :=
  (h.newG hq).consR (.tup (.inl (.inl upd_same)) (r.mono (ex_new (h.freshG hq))))
/-- what one owns is shared from now on -/
theorem Ok.shareA {v : Option V} {s : Sl} {a : Addr} {o : HO} (h : Ok K B G ((v, s) :: L) H) (ho : ownA (v, s) = some a) (ha : H a = some o) (h0 : B.H0 a = none) : Ok K B (L2.upd G a o) L H := by
  have hg := (h.head.own_of ho).1
  have hL := h.tail
  refine ⟨h.fr, fun b u e => ?_, fun b u e => ?_, h.g0.trans (ex_new hg), h.ios, fun n p e => ?_, hL.dis⟩
  · by_cases k : b = a
    · subst k
      rw [upd_same] at e
      rw [← e]
      exact ha
    · rw [upd_ne k] at e
      exact h.sub b u e
  · by_cases k : b = a
    · subst k
      exact .inr h0
    · rw [upd_ne k] at e
      exact h.gn b u e
  · have k := hL.ent n p e
    refine k.stay (ex_new hg) (fun b ob => ?_) (fun b u _ q => q)
    have nb : b ≠ a := fun z => by
      subst z
      have := h.dis (n + 1) 0 p (v, s) b (by simpa using e) rfl ob ho
      cases this
    rw [upd_ne nb]
    exact (k.own_of ob).1
theorem Ok.share {x : V} {s : Sl} {d : PyData} (h : Ok K B G ((some x, s) :: L) H) (e : toD s = some d) : ∃ G', Ex G G' ∧ Ok K B G' ((some x, .sh d) :: L) H := by
  cases s with
  | un => simp [toD] at e
  | io l => simp [toD] at e
  | sc l => simp [toD] at e
  | sh d' =>
    simp [toD] at e
    subst e
    exact ⟨G, Evl.Ex.refl G, h⟩
  | ow l =>
    simp [toD] at e
    subst e
    obtain ⟨a, vs, e1, h0, h1, h2, h3⟩ := h.head
    cases e1
    have e' : Ex G (L2.upd G a (.lst vs)) := ex_new h1
    exact ⟨_, e', (h.shareA rfl h2 h0).consR (.lst upd_same (h3.mono e'))⟩
  | od m =>
    simp [toD] at e
    subst e
    obtain ⟨a, o, e1, h0, h1, h2, h3⟩ := h.head
    cases e1
    have e' : Ex G (L2.upd G a o) := ex_new h1
    refine ⟨_, e', (h.shareA rfl h2 h0).consR ?_⟩
    cases h3 with
    | dK q r => exact .dK upd_same q (r.mono e')
    | dT q r => exact .dT upd_same q (r.mono e')
/-- an entry goes, a thing of its own kind comes in its place: the object changes -/
theorem Ok.setA {n : Nat} {p p' : Ent} {a : Addr} {o : HO} (h : Ok K B G L H) (e : L[n]? = some p) (ho : ownA p = some a) (ho' : ownA p' = some a) (hi : B.H0 a = none ∨ B.IO a) (hp : EntOk K B G (L2.upd H a o) p') : Ok K B G (L.set n p') (L2.upd H a o) := by
  have hg := ((h.ent n p e).own_of ho).1
  have hn : n < L.length := (List.getElem?_eq_some_iff.mp e).1
  refine ⟨fun b u q i => ?_, fun b u q => ?_, h.gn, h.g0, fun b i => ?_, fun m q em => ?_, fun m k q r b e1 e2 o1 o2 => ?_⟩
  · have nb : b ≠ a := fun z => by
      subst z
      rcases hi with hi | hi
      · rw [hi] at q
        cases q
      · exact i hi
    rw [upd_ne nb]
    exact h.fr b u q i
  · have nb : b ≠ a := fun z => by
      subst z
      rw [hg] at q
      cases q
    rw [upd_ne nb]
    exact h.sub b u q
  · by_cases z : b = a
    · subst z
      rw [upd_same]
      simp
    · rw [upd_ne z]
      exact h.ios b i
  · by_cases z : m = n
    · subst z
      rw [List.getElem?_set_self hn] at em
      cases em
      exact hp
    · rw [List.getElem?_set_ne (Ne.symm z)] at em
      have k := h.ent m q em
      refine k.stay (Evl.Ex.refl G) (fun b ob => (k.own_of ob).1) (fun b u ob hb => ?_)
      have nb : b ≠ a := fun w => by
        subst w
        exact z (h.dis m n q p b em e ob ho)
      rw [upd_ne nb]
      exact hb
  · have back : ∀ {m : Nat} {q : Ent} {b : Addr}, (L.set n p')[m]? = some q → ownA q = some b → ∃ q0, L[m]? = some q0 ∧ ownA q0 = some b := fun {m q b} em ob => by
      by_cases z : m = n
      · subst z
        rw [List.getElem?_set_self hn] at em
        cases em
        rw [ho'] at ob
        cases ob
        exact ⟨p, e, ho⟩
      · rw [List.getElem?_set_ne (Ne.symm z)] at em
        exact ⟨q, em, ob⟩
    obtain ⟨q0, f1, g1⟩ := back e1 o1
    obtain ⟨r0, f2, g2⟩ := back e2 o2
    exact h.dis m k q0 r0 b f1 f2 g1 g2
/-- an entry that owns nothing in the place of another -/
theorem Ok.setU {n : Nat} {p' : Ent} (h : Ok K B G L H) (hp : EntOk K B G H p') (ho : ownA p' = none) : Ok K B G (L.set n p') H := by
  have mem : ∀ {m : Nat} {q : Ent}, (L.set n p')[m]? = some q → q = p' ∨ L[m]? = some q := fun {m q} em => by
    by_cases z : n = m
    · subst z
      by_cases hn : n < L.length
      · rw [List.getElem?_set_self hn] at em
        cases em
        exact .inl rfl
      · rw [List.getElem?_eq_none (by rw [List.length_set]; omega)] at em
        cases em
    · rw [List.getElem?_set_ne z] at em
      exact .inr em
  refine ⟨h.fr, h.sub, h.gn, h.g0, h.ios, fun m q em => ?_, fun m k q r b e1 e2 o1 o2 => ?_⟩
  · rcases mem em with z | z
    · subst z
      exact hp
    · exact h.ent m q z
  · rcases mem e1 with z | z
    · subst z
      rw [ho] at o1
      cases o1
    · rcases mem e2 with w | w
      · subst w
        rw [ho] at o2
        cases o2
      · exact h.dis m k q r b z w o1 o2
/-- the head goes into place n -/
theorem Ok.setH {n : Nat} {p : Ent} (h : Ok K B G (p :: L) H) : Ok K B G (L.set n p) H := by
  cases ho : ownA p with
  | none => exact h.tail.setU h.head ho
  | some a =>
    have mem : ∀ {m : Nat} {q : Ent}, (L.set n p)[m]? = some q → (q = p ∧ m = n) ∨ L[m]? = some q := fun {m q} em => by
      by_cases z : n = m
      · subst z
        by_cases hn : n < L.length
        · rw [List.getElem?_set_self hn] at em
          cases em
          exact .inl ⟨rfl, rfl⟩
        · rw [List.getElem?_eq_none (by rw [List.length_set]; omega)] at em
          cases em
      · rw [List.getElem?_set_ne z] at em
        exact .inr em
    refine ⟨h.fr, h.sub, h.gn, h.g0, h.ios, fun m q em => ?_, fun m k q r b e1 e2 o1 o2 => ?_⟩
    · rcases mem em with z | z
      · rw [z.1]
        exact h.head
      · exact h.tail.ent m q z
    · rcases mem e1 with z | z
      · rcases mem e2 with w | w
        · rw [z.2, w.2]
        · rw [z.1] at o1
          have := h.dis 0 (k + 1) p r b rfl (by simpa using w) o1 o2
          cases this
      · rcases mem e2 with w | w
        · rw [w.1] at o2
          have := h.dis (m + 1) 0 q p b (by simpa using z) rfl o1 o2
          cases this
        · exact h.tail.dis m k q r b z w o1 o2
/-- the entry at n comes to the head, nothing is left at n -/
theorem Ok.take {n : Nat} {p : Ent} {u : Option V} (h : Ok K B G L H) (e : L[n]? = some p) : Ok K B G (p :: L.set n (u, .un)) H := by
  have hn : n < L.length := (List.getElem?_eq_some_iff.mp e).1
  have h1 : Ok K B G (L.set n (u, .un)) H := h.setU trivial (ownA_un u)
  cases ho : ownA p with
  | none => exact h1.consU (h.ent n p e) ho
  | some a =>
    refine h1.consO (h.ent n p e) ho fun m q em oq => ?_
    by_cases z : m = n
    · subst z
      rw [List.getElem?_set_self hn] at em
      cases em
      rw [ownA_un] at oq
      cases oq
    · rw [List.getElem?_set_ne (Ne.symm z)] at em
      exact z (h.dis m n q p a em e oq ho)
/-- fewer entries -/
theorem Ok.sub' {L' : List Ent} (h : Ok K B G L H) (f : Nat → Nat) (hf : ∀ m n, m < L'.length → n < L'.length → f m = f n → m = n) (hl : ∀ n, n < L'.length → L[f n]? = L'[n]?) : Ok K B G L' H := by
  have lt : ∀ {n : Nat} {p : Ent}, L'[n]? = some p → n < L'.length := fun {n p} e => (List.getElem?_eq_some_iff.mp e).1
  refine ⟨h.fr, h.sub, h.gn, h.g0, h.ios, fun n p e => h.ent (f n) p ((hl n (lt e)).trans e), fun m n p q a e1 e2 o1 o2 => hf m n (lt e1) (lt e2) (h.dis _ _ p q a ((hl m (lt e1)).trans e1) ((hl n (lt e2)).trans e2) o1 o2)⟩
end
end PP
namespace PP
open PySem L2 PySem.Spec PyProof.Rows
theorem lim_le {n : Nat} (h : n ≤ lim) : n ≤ sizeLine := Nat.le_trans h (by rw [sizeLine_eq]; decide)
theorem lim_lt {n : Nat} (h : n < lim) : n < sizeLine := Nat.lt_of_lt_of_le h (by rw [sizeLine_eq]; decide)
/-! ### data of some depth -/
mutual
theorem lev_can : ∀ (n : Nat) (d : PyData), lev n d = true → d.canLay0 = true
  | _, .none, _ => rfl
  | _, .bool _, _ => rfl
  | _, .int _, _ => rfl
  | 0, .str x, h => h
  | _ + 1, .str x, h => h
  | 0, .list xs, h => by simp [lev] at h
  | 0, .tuple xs, h => by simp [lev] at h
  | n + 1, .list xs, h => levs_can n xs h
  | n + 1, .tuple xs, h => levs_can n xs h
  | 0, .dict _, h => by simp [lev] at h
  | _ + 1, .dict _, h => by simp [lev] at h
theorem levs_can : ∀ (n : Nat) (ds : List PyData), ds.all (lev n) = true → PyData.canLayAll0 ds = true
  | _, [], _ => rfl
  | n, d :: ds, h => by
    rw [List.all_cons, Bool.and_eq_true] at h
    show (PyData.canLay0 d && PyData.canLayAll0 ds) = true
    rw [lev_can n d h.1, levs_can n ds h.2]
    rfl
end
mutual
theorem lev_depth : ∀ (n : Nat) (d : PyData), lev n d = true → d.depth ≤ n
  | _, .none, _ => Nat.zero_le _
  | _, .bool _, _ => Nat.zero_le _
  | _, .int _, _ => Nat.zero_le _
  | _, .str x, h => Nat.zero_le _
  | 0, .list xs, h => by simp [lev] at h
  | 0, .tuple xs, h => by simp [lev] at h
  | n + 1, .list xs, h => Nat.succ_le_succ (levs_depth n xs h)
  | n + 1, .tuple xs, h => Nat.succ_le_succ (levs_depth n xs h)
  | 0, .dict _, h => by simp [lev] at h
  | _ + 1, .dict _, h => by simp [lev] at h
theorem levs_depth : ∀ (n : Nat) (ds : List PyData), ds.all (lev n) = true → PyData.depthAll ds ≤ n
  | _, [], _ => Nat.zero_le _
  | n, d :: ds, h => by
    rw [List.all_cons, Bool.and_eq_true] at h
    exact Nat.max_le.mpr ⟨lev_depth n d h.1, levs_depth n ds h.2⟩
end
theorem lev_shaped {n : Nat} {d : PyData} (hn : n ≤ 64) (h : lev n d = true) : SeqAt.shaped d = true := by
  unfold SeqAt.shaped
  rw [lev_can n d h, decide_eq_true (Nat.le_trans (lev_depth n d h) hn)]
  rfl
section
variable {K : PySem.W.Frag} {G H : Hp}
mutual
theorem Rep.dp (e : Ex G H) : ∀ (n : Nat) {v : V} {d : PyData}, lev n d = true → Rep K G v d → Dp K H v d
  | _, _, _, _, .non => .non
  | _, _, _, _, .bl b => .bl b
  | _, _, _, _, .int i => .int i
  | _, _, _, _, .str x => .str x
  | 0, _, _, h, .lst _ _ => by simp [lev] at h
  | 0, _, _, h, .tup _ _ => by simp [lev] at h
  | n + 1, _, _, h, .lst q r => .lst (.inl (.inl (e _ _ q))) (Reps.dp e n h r)
  | n + 1, _, _, h, .tup q r => .tup (Evl.ex_t e q) (Reps.dp e n h r)
  | 0, _, _, h, .dK _ _ _ => by simp [lev] at h
  | 0, _, _, h, .dT _ _ _ => by simp [lev] at h
  | _ + 1, _, _, h, .dK _ _ _ => by simp [lev] at h
  | _ + 1, _, _, h, .dT _ _ _ => by simp [lev] at h
theorem Reps.dp (e : Ex G H) : ∀ (n : Nat) {vs : List V} {ds : List PyData}, ds.all (lev n) = true → Reps K G vs ds → DpAll K H vs ds
  | _, _, _, _, .nil => .nil
  | n, _, _, h, .cons r rs => by
    rw [List.all_cons, Bool.and_eq_true] at h
    exact .cons (Rep.dp e n h.1 r) (Reps.dp e n h.2 rs)
end
end
theorem Rep1.dp {K : PySem.W.Frag} {G H : Hp} {v : V} {d : PyData} (e : Ex G H) (n : Nat) (h : lev n d = true) (r : Rep1 K G H v d) : Dp K H v d := by
  cases r with
  | non => exact .non
  | bl b => exact .bl b
  | int i => exact .int i
  | str x => exact .str x
  | lst q r =>
    cases n with
    | zero => simp [lev] at h
    | succ n => exact .lst (.inl (.inl q)) (r.dp e n h)
  | tup q r =>
    cases n with
    | zero => simp [lev] at h
    | succ n => exact .tup (Evl.ex_t e q) (r.dp e n h)
  | dic q r => cases n <;> simp [lev] at h
/-! ### operators -/
def opf : O2 → Value → Value → Sem Value
  | .add => binaryOp .Add
  | .sub => binaryOp .Sub
  | .mul => binaryOp .Mult
  | .fdiv => binaryOp .FloorDiv
  | .mod => binaryOp .Mod
  | .shl => binaryOp .LShift
  | .shr => binaryOp .RShift
  | .band => binaryOp .BitAnd
  | .bor => binaryOp .BitOr
  | .eq => compareOp .Eq
  | .ne => compareOp .NotEq
  | .lt => compareOp .Lt
  | .le => compareOp .LtE
  | .gt => compareOp .Gt
  | .ge => compareOp .GtE
  | .is => compareOp .Is
  | .isnt => compareOp .IsNot
  | .isin => compareOp .In
  | .notin => compareOp .NotIn
  | .ix => getItem
/-- the strongest reading -/
def s2 (X : Cx) (o : O2) : R2 := fun x y H Q => ∀ (pins : List (Addr × Obj)) (s : Shared) (σ : L2.St) (v u : Value), Inv X pins σ H s → RelV x v → RelV y u → wpAny (model X.prog X.w) X.A (opf o v u) (EP X pins σ Q) X.xe s
theorem s2_of {X : Cx} {o : O2} {r : R2} (h : OpR X (opf o) r) {x y : V} {H : Hp} {Q : VK} (q : r x y H Q) : s2 X o x y H Q := fun pins s σ v u I rx ry => h pins s σ H x y v u Q I rx ry q
def sIx (X : Cx) : R2 := fun x y H Q => ∀ (value slice : Expr) (pins : List (Addr × Obj)) (s : Shared) (σ : L2.St) (v u : Value), Inv X pins σ H s → RelV x v → RelV y u → subscripted slice false v u = operate [v, u] (getItem v u) →
  wpAny (model X.prog X.w) X.A (subscriptTail value slice v u) (EP X pins σ Q) X.xe s
theorem ix_s (X : Cx) : IxR X (sIx X) := fun value slice pins s σ H x y v u Q I rx ry h hs => h value slice pins s σ v u I rx ry hs
theorem sIx_of {X : Cx} {r : R2} (h : IxR X r) {x y : V} {H : Hp} {Q : VK} (q : r x y H Q) : sIx X x y H Q := fun value slice pins s σ v u I rx ry hs => h value slice pins s σ H x y v u Q I rx ry q hs
section
variable {X : Cx} {B : Fr} {G H : Hp} {L : List Ent} {x y : V} {d e : PyData} {r : Sl} {Q : VK}
abbrev Post (X : Cx) (B : Fr) (G : Hp) (L : List Ent) (r : Sl) (Q : VK) : Prop := ∀ v G' H', Ex G G' → Ok X.K B G' ((some v, r) :: L) H' → Q v H'
theorem post_int (ok : Ok X.K B G L H) {i : Int} (q : Post X B G L (.sh (.int i)) Q) : Q (.int i) H := q _ G H (Evl.Ex.refl G) (ok.consR (.int i))
theorem post_bl (ok : Ok X.K B G L H) {b : Bool} (q : Post X B G L (.sh (.bool b)) Q) : Q (.bl b) H := q _ G H (Evl.Ex.refl G) (ok.consR (.bl b))
theorem post_str (ok : Ok X.K B G L H) {b : Str} (q : Post X B G L (.sh (.str b)) Q) : Q (.str b) H := q _ G H (Evl.Ex.refl G) (ok.consR (.str b))
theorem mulOk_c {i j : Int} (h : mulOk i j = true) : CMulW i j := by
  simpa [mulOk, CMulW] using h
theorem divOk_c {i j : Int} (h : divOk j = true) : CDivW i j := by
  unfold divOk at h
  rw [Bool.and_eq_true] at h
  exact ⟨of_decide_eq_true h.1, of_decide_eq_true h.2⟩
theorem cutD_eq (xs : List V) (ds : List PyData) (lo hi : Option Int) (r : Reps X.K G xs ds) : Reps X.K G (cutV xs lo hi) (cutD ds lo hi) := by
  unfold cutV cutD
  rw [r.length]
  exact (r.drop _).take _
theorem atI_rep {vs : List V} {ds : List PyData} {i : Int} {d : PyData} (r : Reps X.K G vs ds) (h : atI ds i = some d) : ∃ v, atI vs i = some v ∧ Rep X.K G v d := by
  unfold atI at h ⊢
  rw [r.length]
  cases e : ixN ds.length i with
  | none =>
    rw [e] at h
    cases h
  | some j =>
    rw [e] at h
    exact r.get h
theorem len_append_nil {α : Type} {a b : List α} (h : a = []) : a ++ b = b := by rw [h]; rfl
theorem op2_ok (hu : X.A.units + 65 < cLine) : ∀ (o : O2) (d e : PyData), op2 o d e = some r → o ≠ .ix → Ok X.K B G L H → Rep1 X.K G H x d → Rep1 X.K G H y e → Post X B G L r Q → s2 X o x y H Q := by
  intro o d e h hix ok rx ry q
  have hs := ok.sub
  cases o
  case ix => exact absurd rfl hix
  case eq =>
    simp only [op2, Option.ite_none_right_eq_some, Bool.and_eq_true, bl, Option.some.injEq] at h
    obtain ⟨⟨h1, h2⟩, rfl⟩ := h
    exact s2_of (op_eqD (by omega)) ⟨d, e, rx.dp hs 8 h1, ry.dp hs 8 h2, lev_shaped (by decide) h1, lev_shaped (by decide) h2, post_bl ok q⟩
  case ne =>
    simp only [op2, Option.ite_none_right_eq_some, Bool.and_eq_true, bl, Option.some.injEq] at h
    obtain ⟨⟨h1, h2⟩, rfl⟩ := h
    exact s2_of (op_neD (by omega)) ⟨d, e, rx.dp hs 8 h1, ry.dp hs 8 h2, lev_shaped (by decide) h1, lev_shaped (by decide) h2, post_bl ok q⟩
  case is =>
    cases ry <;> simp only [op2, bl, Option.some.injEq, reduceCtorEq] at h
    subst h
    refine s2_of op_isN ⟨rfl, ?_⟩
    cases rx <;> exact post_bl ok q
  case isnt =>
    cases ry <;> simp only [op2, bl, Option.some.injEq, reduceCtorEq] at h
    subst h
    refine s2_of op_notN ⟨rfl, ?_⟩
    cases rx <;> exact post_bl ok q
  case isin =>
    cases ry <;> simp only [op2, bl, Option.ite_none_right_eq_some, Bool.and_eq_true, Option.some.injEq, reduceCtorEq] at h
    rename_i a xs ds ha ra
    obtain ⟨⟨h1, h2⟩, rfl⟩ := h
    have h3 : lev 8 (.list ds) = true := h2
    exact s2_of (op_inD (by omega)) ⟨d, ds, rx.dp hs 8 h1, Rep1.dp hs 8 h3 (.lst ha ra), lev_shaped (by decide) h1, lev_shaped (by decide) h3, post_bl ok q⟩
  case notin =>
    cases ry <;> simp only [op2, bl, Option.ite_none_right_eq_some, Bool.and_eq_true, Option.some.injEq, reduceCtorEq] at h
    rename_i a xs ds ha ra
    obtain ⟨⟨h1, h2⟩, rfl⟩ := h
    have h3 : lev 8 (.list ds) = true := h2
    exact s2_of (op_notInD (by omega)) ⟨d, ds, rx.dp hs 8 h1, Rep1.dp hs 8 h3 (.lst ha ra), lev_shaped (by decide) h1, lev_shaped (by decide) h3, post_bl ok q⟩
  case add =>
    cases rx <;> cases ry <;> simp only [op2, it, Option.ite_none_right_eq_some, Option.some.injEq, reduceCtorEq] at h
    · subst h
      exact s2_of op_add ⟨_, _, rfl, rfl, post_int ok q⟩
    · obtain ⟨h1, rfl⟩ := h
      exact s2_of op_add_str ⟨_, _, rfl, rfl, lim_le h1, post_str ok q⟩
    · rename_i a xs ds ha ra b ys es hb rb
      obtain ⟨h1, rfl⟩ := h
      refine s2_of op_cat ⟨a, b, xs, ys, rfl, rfl, ha, hb, ?_, fun p hp => q _ G _ (Evl.Ex.refl G) (ok.newL hp (ra.append rb))⟩
      rw [ra.length, rb.length]
      exact lim_le h1
    · rename_i a xs ds ha ra b ys es hb rb
      obtain ⟨h1, rfl⟩ := h
      refine s2_of op_catA ⟨a, b, xs, ys, rfl, rfl, Evl.ex_t hs ha, Evl.ex_t hs hb, ?_, fun z => ?_, fun z1 z2 => ?_, fun z1 z2 p hp => ?_⟩
      · rw [ra.length, rb.length]
        exact lim_le h1
      · subst z
        cases ra
        exact q _ G _ (Evl.Ex.refl G) (ok.consR (.tup hb rb))
      · subst z2
        cases rb
        rw [List.append_nil] at q
        exact q _ G _ (Evl.Ex.refl G) (ok.consR (.tup ha ra))
      · exact q _ _ _ (ex_new (ok.freshG hp)) (ok.newT hp (ra.append rb))
  case sub =>
    cases rx <;> cases ry <;> simp only [op2, it, Option.ite_none_right_eq_some, Option.some.injEq, reduceCtorEq] at h
    subst h
    exact s2_of op_sub ⟨_, _, rfl, rfl, post_int ok q⟩
  case mul =>
    cases rx <;> cases ry <;> simp only [op2, it, Option.ite_none_right_eq_some, Option.some.injEq, reduceCtorEq] at h
    · obtain ⟨h1, rfl⟩ := h
      exact s2_of op_mulW ⟨_, _, rfl, rfl, mulOk_c h1, post_int ok q⟩
    · rename_i a xs ds ha ra j
      obtain ⟨h1, rfl⟩ := h
      simp only [Bool.and_eq_true, decide_eq_true_eq] at h1
      obtain ⟨⟨h1, h2⟩, h3⟩ := h1
      refine s2_of op_rep ⟨a, j, xs, rfl, rfl, ha, by omega, by omega, ?_, fun p hp => q _ G _ (Evl.Ex.refl G) (ok.newL hp (ra.rep _))⟩
      rw [ra.length, sizeLine_eq]
      exact Nat.le_trans (Nat.mul_le_mul h1 (show j.toNat ≤ 1000 by omega)) (by decide)
  case fdiv =>
    cases rx <;> cases ry <;> simp only [op2, it, Option.ite_none_right_eq_some, Option.some.injEq, reduceCtorEq] at h
    obtain ⟨h1, rfl⟩ := h
    exact s2_of op_fdivW ⟨_, _, rfl, rfl, divOk_c h1, post_int ok q⟩
  case mod =>
    cases rx <;> cases ry <;> simp only [op2, it, Option.ite_none_right_eq_some, Option.some.injEq, reduceCtorEq] at h
    obtain ⟨h1, rfl⟩ := h
    exact s2_of op_mod ⟨_, _, rfl, rfl, h1, post_int ok q⟩
  case shl =>
    cases rx <;> cases ry <;> simp only [op2, it, Option.ite_none_right_eq_some, Option.some.injEq, reduceCtorEq] at h
    obtain ⟨h1, rfl⟩ := h
    simp only [Bool.and_eq_true, decide_eq_true_eq] at h1
    exact s2_of op_shl ⟨_, _, rfl, rfl, ⟨h1.1.1, by omega, by omega⟩, post_int ok q⟩
  case shr =>
    cases rx <;> cases ry <;> simp only [op2, it, Option.ite_none_right_eq_some, Option.some.injEq, reduceCtorEq] at h
    obtain ⟨h1, rfl⟩ := h
    exact s2_of op_shr ⟨_, _, rfl, rfl, h1, post_int ok q⟩
  case band =>
    cases rx <;> cases ry <;> simp only [op2, it, Option.ite_none_right_eq_some, Option.some.injEq, reduceCtorEq] at h
    subst h
    exact s2_of op_and ⟨_, _, rfl, rfl, post_int ok q⟩
  case bor =>
    cases rx <;> cases ry <;> simp only [op2, it, Option.ite_none_right_eq_some, Option.some.injEq, reduceCtorEq] at h
    subst h
    exact s2_of op_or ⟨_, _, rfl, rfl, post_int ok q⟩
  case lt =>
    cases rx <;> cases ry <;> simp only [op2, bl, Option.ite_none_right_eq_some, Option.some.injEq, reduceCtorEq] at h
    subst h
    exact s2_of op_lt ⟨_, _, rfl, rfl, post_bl ok q⟩
  case le =>
    cases rx <;> cases ry <;> simp only [op2, bl, Option.ite_none_right_eq_some, Option.some.injEq, reduceCtorEq] at h
    subst h
    exact s2_of op_le ⟨_, _, rfl, rfl, post_bl ok q⟩
  case gt =>
    cases rx <;> cases ry <;> simp only [op2, bl, Option.ite_none_right_eq_some, Option.some.injEq, reduceCtorEq] at h
    subst h
    exact s2_of op_gt ⟨_, _, rfl, rfl, post_bl ok q⟩
  case ge =>
    cases rx <;> cases ry <;> simp only [op2, bl, Option.ite_none_right_eq_some, Option.some.injEq, reduceCtorEq] at h
    subst h
    exact s2_of op_ge ⟨_, _, rfl, rfl, post_bl ok q⟩
/-- a[i]: the container's value as it lies now -/
theorem ix_ok : ∀ (d e : PyData), op2 .ix d e = some r → Ok X.K B G L H → Rep1 X.K G H x d → Rep1 X.K G H y e → Post X B G L r Q → sIx X x y H Q := by
  intro d e h ok rx ry q
  have hs := ok.sub
  cases ry <;> cases rx <;> simp only [op2, it, Option.ite_none_right_eq_some, Option.some.injEq, Option.map_eq_some_iff, reduceCtorEq] at h
  · obtain ⟨h1, c, h2, rfl⟩ := h
    exact sIx_of ix_str ⟨_, _, c, rfl, rfl, lim_le h1, h2, post_str ok q⟩
  · rename_i a xs ds ha ra
    obtain ⟨c, h2, rfl⟩ := h
    obtain ⟨v, h3, h4⟩ := atI_rep ra h2
    exact sIx_of ix_list ⟨_, _, _, v, rfl, rfl, .inl (.inl ha), h3, q _ G H (Evl.Ex.refl G) (ok.consR h4)⟩
  · rename_i a xs ds ha ra
    obtain ⟨c, h2, rfl⟩ := h
    obtain ⟨v, h3, h4⟩ := atI_rep ra h2
    exact sIx_of ix_tup ⟨_, _, _, v, rfl, rfl, Evl.ex_t hs ha, h3, q _ G H (Evl.Ex.refl G) (ok.consR h4)⟩
end
end PP
namespace PP
open PySem L2 PySem.Spec PyProof.Rows
section
variable {prog : Program} {w : World} {A : Around} {E : Value → Shared → Prop} {s : Shared} {l : Addr} {its : List Value} {ns : List Int} {Q : Value → Shared → Prop}
theorem iter_tupA {items : Array Value} (hl : s.heap.IsTuple l items)
    (h : ∀ s₂ : Shared, s₂ = { s with heap := s.heap.push { cls := .type "tuple_iterator", data := .fields #[.ref l, .int 0 0] } } →
      (s₂.heap.IsTupleIter s.heap.objs.size l 0 ∧ s₂.heap.IsTuple l items) → (∀ b ∈ [s.heap.objs.size, l], b < s₂.heap.objs.size) → l ≠ s.heap.objs.size → Q (.ref s.heap.objs.size) s₂) : wpAny (model prog w) A (pyIter (.ref l)) Q E s := by
  have hlt : l < s.heap.objs.size := by obtain ⟨_, e, _⟩ := hl; exact Heap.lt_size e
  refine wpAny_pyIter_tuple hl (h _ rfl ⟨⟨_, Heap.get?_push_size _ rfl, rfl, rfl⟩, hl.push _⟩ (fun b hb => ?_) (Nat.ne_of_lt hlt))
  rw [Heap.size_push]
  rcases List.mem_cons.mp hb with rfl | hb
  · exact Nat.lt_succ_self _
  · rcases List.mem_cons.mp hb with rfl | hb
    · exact Nat.lt_succ_of_lt hlt
    · cases hb
theorem old_keptT {h' : Heap} {ob : Obj} (hk : ∀ b o, b ∉ [s.heap.objs.size] → (s.heap.push ob).get? b = some o → h'.get? b = some o) : ∀ b o, s.heap.get? b = some o → h'.get? b = some o := fun b o e => by
  refine hk b o (fun hm => ?_) (Heap.get?_push_of_some _ e)
  rcases List.mem_cons.mp hm with e1 | hm
  · have := Heap.lt_size e
    rw [e1] at this
    exact absurd this (Nat.lt_irrefl _)
  · cases hm
theorem sumT_raw (hh : A.handled = none) (hl : s.heap.IsTuple l its.toArray) (hi : IntsAre its ns)
    (h : ∀ h' tk t', (∀ b o, s.heap.get? b = some o → h'.get? b = some o) → Q (.int ns.sum t') { s with heap := h', toks := tk }) : wpAny (model prog w) A (call (.builtin "sum") [.ref l]) Q E s := by
  obtain ⟨xs, e⟩ := hi.allInts.items
  have hn : numsOf (intItems xs).toList = ns := by rw [← e]; exact hi.numsOf
  rw [nums_intItems] at hn
  rw [e] at hl
  refine call_sum_walkG (iter_tupA hl fun s₂ e st hfp hlI => ?_)
  subst e
  refine ⟨_, _, _, _, _, _, numAt xs, rfl, Walks.tuple (A := A.in1) hh _ l hlI (intItems xs), st, hfp, (fun _ _ => intItems_at), fun h' tk t' hk => ?_⟩
  have := h h' tk t' (old_keptT hk)
  have e2 : preSum (numAt xs) (intItems xs).size = ns.sum := by
    rw [preSum_eq, List.take_of_length_le (by simp [intItems]), hn]
  rw [e2]
  exact this
theorem maxT_raw (hh : A.handled = none) (hl : s.heap.IsTuple l its.toArray) (hi : IntsAre its ns) (hne : 0 < ns.length)
    (h : ∀ h' tk M t', (∀ b o, s.heap.get? b = some o → h'.get? b = some o) → M ∈ ns → (∀ a, a ∈ ns → a ≤ M) → Q (.int M t') { s with heap := h', toks := tk }) : wpAny (model prog w) A (call (.builtin "max") [.ref l]) Q E s := by
  obtain ⟨xs, e⟩ := hi.allInts.items
  have hn : numsOf (intItems xs).toList = ns := by rw [← e]; exact hi.numsOf
  rw [nums_intItems] at hn
  subst hn
  rw [e] at hl
  have hsz : 0 < xs.size := by simpa using hne
  refine call_max_walk (iter_tupA hl fun s₂ e st hfp hlI => ?_)
  subst e
  refine ⟨_, _, _, _, _, _, _, rfl, Walks.tuple (A := A.in1) hh _ l hlI (intItems xs), st, hfp, by simpa [intItems] using hsz, CmpOf.ints_gt (numAt xs) (fun _ _ => intItems_at), fun v h' tk hP hk => ?_⟩
  obtain ⟨t, rfl⟩ := intItems_at (show (intItems xs)[_]? = some v from by simpa [intItems] using hP)
  obtain ⟨h1, h2⟩ := argBest_gt (numAt xs) (xs.size - 1)
  refine h h' tk _ t (old_keptT hk) ?_ fun a ha => ?_
  · rw [numAt_eq]; exact PySem.getD_mem (by rw [List.length_map, Array.length_toList]; exact Nat.lt_of_le_of_lt h1 (by omega))
  · obtain ⟨j, hj, rfl⟩ := mem_getD ha
    rw [List.length_map, Array.length_toList] at hj
    rw [← numAt_eq]; exact h2 j (by omega)
theorem minT_raw (hh : A.handled = none) (hl : s.heap.IsTuple l its.toArray) (hi : IntsAre its ns) (hne : 0 < ns.length)
    (h : ∀ h' tk M t', (∀ b o, s.heap.get? b = some o → h'.get? b = some o) → M ∈ ns → (∀ a, a ∈ ns → M ≤ a) → Q (.int M t') { s with heap := h', toks := tk }) : wpAny (model prog w) A (call (.builtin "min") [.ref l]) Q E s := by
  obtain ⟨xs, e⟩ := hi.allInts.items
  have hn : numsOf (intItems xs).toList = ns := by rw [← e]; exact hi.numsOf
  rw [nums_intItems] at hn
  subst hn
  rw [e] at hl
  have hsz : 0 < xs.size := by simpa using hne
  refine call_min_walk (iter_tupA hl fun s₂ e st hfp hlI => ?_)
  subst e
  refine ⟨_, _, _, _, _, _, _, rfl, Walks.tuple (A := A.in1) hh _ l hlI (intItems xs), st, hfp, by simpa [intItems] using hsz, CmpOf.ints_lt (numAt xs) (fun _ _ => intItems_at), fun v h' tk hP hk => ?_⟩
  obtain ⟨t, rfl⟩ := intItems_at (show (intItems xs)[_]? = some v from by simpa [intItems] using hP)
  obtain ⟨h1, h2⟩ := argBest_lt (numAt xs) (xs.size - 1)
  refine h h' tk _ t (old_keptT hk) ?_ fun a ha => ?_
  · rw [numAt_eq]; exact PySem.getD_mem (by rw [List.length_map, Array.length_toList]; exact Nat.lt_of_le_of_lt h1 (by omega))
  · obtain ⟨j, hj, rfl⟩ := mem_getD ha
    rw [List.length_map, Array.length_toList] at hj
    rw [← numAt_eq]; exact h2 j (by omega)
end
section
variable {X : Cx}
def rSumT (K : PySem.W.Frag) : List V → Hp → VK → Prop := fun vs H Q => ∃ (a : Addr) (ns : List Int), vs = [V.ref a] ∧ SqT K H a (ns.map V.int) ∧ Q (.int ns.sum) H
def rMaxT (K : PySem.W.Frag) : List V → Hp → VK → Prop := fun vs H Q => ∃ (a : Addr) (ns : List Int), vs = [V.ref a] ∧ SqT K H a (ns.map V.int) ∧ 0 < ns.length ∧ ∀ m, m ∈ ns → (∀ y, y ∈ ns → y ≤ m) → Q (.int m) H
def rMinT (K : PySem.W.Frag) : List V → Hp → VK → Prop := fun vs H Q => ∃ (a : Addr) (ns : List Int), vs = [V.ref a] ∧ SqT K H a (ns.map V.int) ∧ 0 < ns.length ∧ ∀ m, m ∈ ns → (∀ y, y ∈ ns → m ≤ y) → Q (.int m) H
theorem cr_sumT (hc : X.calm = true) : CallR X (.builtin "sum") (rSumT X.K) := by
  intro pins s σ H vs us Q I r h
  obtain ⟨a, ns, rfl, hs, q⟩ := h
  obtain ⟨its, rv, hl, _⟩ := I.tuple hs
  rw [Vals.ref1 r]
  exact sumT_raw (I.ok.hd hc) hl rv.ints fun h' tk t' hk => ⟨.int _, H, I.kept hk, ⟨_, rfl⟩, q⟩
theorem cr_maxT (hc : X.calm = true) : CallR X (.builtin "max") (rMaxT X.K) := by
  intro pins s σ H vs us Q I r h
  obtain ⟨a, ns, rfl, hs, hn, q⟩ := h
  obtain ⟨its, rv, hl, _⟩ := I.tuple hs
  rw [Vals.ref1 r]
  exact maxT_raw (I.ok.hd hc) hl rv.ints hn fun h' tk m t' hk h1 h2 => ⟨.int _, H, I.kept hk, ⟨_, rfl⟩, q m h1 h2⟩
theorem cr_minT (hc : X.calm = true) : CallR X (.builtin "min") (rMinT X.K) := by
  intro pins s σ H vs us Q I r h
  obtain ⟨a, ns, rfl, hs, hn, q⟩ := h
  obtain ⟨its, rv, hl, _⟩ := I.tuple hs
  rw [Vals.ref1 r]
  exact minT_raw (I.ok.hd hc) hl rv.ints hn fun h' tk m t' hk h1 h2 => ⟨.int _, H, I.kept hk, ⟨_, rfl⟩, q m h1 h2⟩
end
/-! ### sorted -/
section
variable {X : Cx} {G H : Hp} {s : Shared} {σ : L2.St} {pins : List (Addr × Obj)}
theorem each_rep : ∀ {vs : List V} {us : List Value} {ds : List PyData}, Vals vs us → Reps X.K G vs ds → PySem.W.EachIs (fun u d => ∃ v, RelV v u ∧ Rep X.K G v d) us ds
  | _, _, _, .nil, .nil => .nil
  | _, _, _, .cons r rs, .cons p ps => .cons ⟨_, r, p⟩ (each_rep rs ps)
theorem each_back : ∀ {us : List Value} {ds : List PyData}, PySem.W.EachIs (fun u d => ∃ v, RelV v u ∧ Rep X.K G v d) us ds → ∃ vs, Vals vs us ∧ Reps X.K G vs ds
  | _, _, .nil => ⟨[], .nil, .nil⟩
  | _, _, .cons ⟨v, r, p⟩ t => by
    obtain ⟨vs, a, b⟩ := each_back t
    exact ⟨v :: vs, .cons r a, .cons p b⟩
theorem each_reads (I : Inv X pins σ H s) (e : Ex G H) : ∀ {vs : List V} {us : List Value} {ds : List PyData}, ds.all (lev 7) = true → Vals vs us → Reps X.K G vs ds → PySem.W.EachIs (fun u d => ∃ as, Reads s.heap u (id d) as) us ds
  | _, _, _, _, .nil, .nil => .nil
  | _, _, _, h, .cons r rs, .cons p ps => by
    rw [List.all_cons, Bool.and_eq_true] at h
    exact .cons (Dp.reads I _ _ _ (p.dp e 7 h.1) r) (each_reads I e h.2 rs ps)
def rSortD (X : Cx) (G : Hp) : List V → Hp → VK → Prop := fun vs H Q => ∃ (a : Addr) (xs : List V) (ds : List PyData), vs = [V.ref a] ∧ SqL X.K H a xs ∧ Reps X.K G xs ds ∧ Ex G H ∧ sortOk ds = true ∧
  ∀ (ys : List V) (p : Addr), Reps X.K G ys (sortD ds) → H p = none → Q (.ref p) (L2.upd H p (.lst ys))
theorem cr_sortD (hu : X.A.units + 65 < cLine) : CallR X (.builtin "sorted") (rSortD X G) := by
  intro pins s σ H vs us Q I r h
  obtain ⟨a, xs, ds, rfl, hs, hr, eg, hk, q⟩ := h
  obtain ⟨its, rv, hl, hz⟩ := I.list hs
  rw [Vals.ref1 r]
  unfold sortOk at hk
  simp only [Bool.and_eq_true, decide_eq_true_eq] at hk
  obtain ⟨⟨⟨h1, h2⟩, h3⟩, h4⟩ := hk
  have hal : PySem.W.AllAlike (ds.map id) := by
    rw [List.map_id]
    intro d hd d' hd'
    exact List.all_eq_true.mp (List.all_eq_true.mp h1 d hd) d' hd'
  have hso : PySem.W.Sortable (ds.map id) := by
    rw [List.map_id]
    rw [Bool.or_eq_true] at h2
    rcases h2 with h2 | h2
    · refine .inl fun d hd => ?_
      have := List.all_eq_true.mp h2 d hd
      unfold tupNE at this
      split at this
      · exact ⟨_, _, rfl⟩
      · cases this
    · refine .inr fun d hd => ?_
      have := List.all_eq_true.mp h2 d hd
      unfold notTup at this
      split at this
      · cases this
      · cases this
      · exact ⟨by assumption, by assumption⟩
  refine PySem.W.sorted_data (enc := id) hl.isList (each_rep rv hr) (each_reads I eg h3 rv hr) hal hso (lim_le h4) (fun b hb => ?_) fun out h5 h6 => ?_
  · have := lev_depth 7 b (List.all_eq_true.mp h3 b hb)
    show X.A.units + 2 + b.depth < cLine
    omega
  · obtain ⟨ys, y1, y2⟩ := each_back h6
    obtain ⟨ep, he'⟩ := PyProof.Rows.sortedAll_at s.heap its out.toArray
    have hlen : ys.length ≤ sizeLine := by
      rw [y1.length, h5]
      exact lim_le h4
    exact ⟨.ref _, L2.upd H (s.heap.objs.size + 1) (.lst ys), I.laid (t' := s.toks) (fun _ _ => PyProof.Rows.sortedAll_old) (Nat.le_succ _) ⟨hlen, out, ep, y1, he'⟩, rfl, q ys _ y2 (I.hok.fresh (Nat.le_succ _))⟩
end
/-! ### calls of built-ins -/
def s1 (X : Cx) (f : Value) : List V → Hp → VK → Prop := fun vs H Q => ∀ (pins : List (Addr × Obj)) (s : Shared) (σ : L2.St) (us : List Value), Inv X pins σ H s → Vals vs us → wpAny (model X.prog X.w) X.A (call f us) (EP X pins σ Q) X.xe s
theorem s1_r (X : Cx) (f : Value) : CallR X f (s1 X f) := fun pins s σ H xs us Q I r h => h pins s σ us I r
theorem s1_of {X : Cx} {f : Value} {r : List V → Hp → VK → Prop} (h : CallR X f r) {vs : List V} {H : Hp} {Q : VK} (q : r vs H Q) : s1 X f vs H Q := fun pins s σ us I rx => h pins s σ H vs us Q I rx q
theorem maxI_mem : ∀ {ns : List Int} {m : Int}, maxI ns = some m → m ∈ ns ∧ ∀ y ∈ ns, y ≤ m
  | [], m, h => by simp [maxI] at h
  | [x], m, h => by
    simp [maxI] at h
    subst h
    simp
  | x :: y :: r, m, h => by
    simp only [maxI, Option.map_eq_some_iff] at h
    obtain ⟨k, h1, h2⟩ := h
    have ih := maxI_mem (ns := y :: r) h1
    by_cases c : x < k
    · rw [if_pos c] at h2
      subst h2
      refine ⟨List.mem_cons_of_mem _ ih.1, fun z hz => ?_⟩
      rcases List.mem_cons.mp hz with rfl | hz
      · omega
      · exact ih.2 z hz
    · rw [if_neg c] at h2
      subst h2
      refine ⟨List.mem_cons_self, fun z hz => ?_⟩
      rcases List.mem_cons.mp hz with rfl | hz
      · omega
      · have := ih.2 z hz
        omega
theorem minI_mem : ∀ {ns : List Int} {m : Int}, minI ns = some m → m ∈ ns ∧ ∀ y ∈ ns, m ≤ y
  | [], m, h => by simp [minI] at h
  | [x], m, h => by
    simp [minI] at h
    subst h
    simp
  | x :: y :: r, m, h => by
    simp only [minI, Option.map_eq_some_iff] at h
    obtain ⟨k, h1, h2⟩ := h
    have ih := minI_mem (ns := y :: r) h1
    by_cases c : k < x
    · rw [if_pos c] at h2
      subst h2
      refine ⟨List.mem_cons_of_mem _ ih.1, fun z hz => ?_⟩
      rcases List.mem_cons.mp hz with rfl | hz
      · omega
      · exact ih.2 z hz
    · rw [if_neg c] at h2
      subst h2
      refine ⟨List.mem_cons_self, fun z hz => ?_⟩
      rcases List.mem_cons.mp hz with rfl | hz
      · omega
      · have := ih.2 z hz
        omega
theorem mem_pos {α : Type} {x : α} {l : List α} (h : x ∈ l) : 0 < l.length := List.length_pos_of_mem h
def f1 : O1 → Option Value
  | .len => some (.builtin "len")
  | .sum => some (.builtin "sum")
  | .abs => some (.builtin "abs")
  | .tuple => some (.type "tuple")
  | .list => some (.type "list")
  | .min => some (.builtin "min")
  | .max => some (.builtin "max")
  | .int => some (.type "int")
  | .all => some (.builtin "all")
  | .any => some (.builtin "any")
  | .sorted => some (.builtin "sorted")
  | _ => none
def isTy : O1 → Option String
  | .isint => some "int"
  | .isbool => some "bool"
  | .istuple => some "tuple"
  | .isstr => some "str"
  | _ => none
section
variable {X : Cx} {B : Fr} {G H : Hp} {L : List Ent} {x : V} {d : PyData} {r : Sl} {Q : VK} {f : Value}
theorem op1_call (hu : X.A.units + 65 < cLine) (hc : X.calm = true) : ∀ (o : O1) (d : PyData), f1 o = some f → op1 o d = some r → Ok X.K B G L H → Rep1 X.K G H x d → Post X B G L r Q → s1 X f [x] H Q := by
  intro o d hf h ok rx q
  have hs := ok.sub
  cases o <;> simp only [f1, Option.some.injEq, reduceCtorEq] at hf <;> subst hf
  case len =>
    cases rx <;> simp only [op1, it, Option.ite_none_right_eq_some, Option.some.injEq, reduceCtorEq] at h
    · obtain ⟨h1, rfl⟩ := h
      exact s1_of call_len ⟨_, _, rfl, ⟨lim_le h1, rfl⟩, post_int ok q⟩
    · rename_i a xs ds ha ra
      subst h
      rw [← ra.length] at q
      exact s1_of call_len ⟨_, _, rfl, .inl ⟨xs, .inl (.inl ha), rfl⟩, post_int ok q⟩
    · rename_i a xs ds ha ra
      subst h
      rw [← ra.length] at q
      exact s1_of call_len ⟨_, _, rfl, .inr ⟨xs, Evl.ex_t hs ha, rfl⟩, post_int ok q⟩
  case sorted =>
    cases rx <;> simp only [op1, Option.ite_none_right_eq_some, Option.some.injEq, reduceCtorEq] at h
    rename_i a xs ds ha ra
    obtain ⟨h1, rfl⟩ := h
    exact s1_of (cr_sortD (G := G) hu) ⟨a, xs, ds, rfl, .inl (.inl ha), ra, hs, h1, fun ys p r2 hp => q _ _ _ (Evl.Ex.refl G) (ok.newL hp r2)⟩
  case sum =>
    cases rx <;> simp only [op1, Option.map_eq_some_iff, reduceCtorEq] at h
    · rename_i a xs ds ha ra
      obtain ⟨ns, h1, rfl⟩ := h
      have e := reps_intsD ra h1
      subst e
      exact s1_of (cr_sum hc) ⟨a, ns, rfl, .inl (.inl ha), post_int ok q⟩
    · rename_i a xs ds ha ra
      obtain ⟨ns, h1, rfl⟩ := h
      have e := reps_intsD ra h1
      subst e
      exact s1_of (cr_sumT hc) ⟨a, ns, rfl, Evl.ex_t hs ha, post_int ok q⟩
  case abs =>
    cases rx <;> simp only [op1, it, Option.some.injEq, reduceCtorEq] at h
    subst h
    exact s1_of call_abs ⟨_, rfl, post_int ok q⟩
  case tuple =>
    cases rx <;> simp only [op1, it, Option.some.injEq, reduceCtorEq] at h
    · rename_i a xs ds ha ra
      subst h
      exact s1_of call_tuple_of ⟨a, xs, rfl, .inl ⟨.inl (.inl ha), fun p hp => q _ _ _ (ex_new (ok.freshG hp)) (ok.newT hp ra)⟩⟩
    · rename_i a xs ds ha ra
      subst h
      exact s1_of call_tuple_of ⟨a, xs, rfl, .inr ⟨Evl.ex_t hs ha, q _ _ _ (Evl.Ex.refl G) (ok.consR (.tup ha ra))⟩⟩
  case list =>
    cases rx <;> simp only [op1, it, Option.some.injEq, reduceCtorEq] at h
    · rename_i a xs ds ha ra
      subst h
      exact s1_of call_list_of ⟨a, xs, rfl, .inl (.inl (.inl ha)), fun p hp => q _ _ _ (Evl.Ex.refl G) (ok.newL hp ra)⟩
    · rename_i a xs ds ha ra
      subst h
      exact s1_of call_list_of ⟨a, xs, rfl, .inr (Evl.ex_t hs ha), fun p hp => q _ _ _ (Evl.Ex.refl G) (ok.newL hp ra)⟩
  case min =>
    cases rx <;> simp only [op1, Option.bind_eq_some_iff, Option.map_eq_some_iff, reduceCtorEq] at h
    rename_i a xs ds ha ra
    obtain ⟨ns, h1, m, h2, rfl⟩ := h
    have e := reps_intsD ra h1
    subst e
    obtain ⟨h3, h4⟩ := minI_mem h2
    refine s1_of (cr_min hc) ⟨a, ns, rfl, .inl (.inl ha), mem_pos h3, fun k k1 k2 => ?_⟩
    have e : k = m := Int.le_antisymm (k2 m h3) (h4 k k1)
    subst e
    exact post_int ok q
  case max =>
    cases rx <;> simp only [op1, Option.bind_eq_some_iff, Option.map_eq_some_iff, reduceCtorEq] at h
    rename_i a xs ds ha ra
    obtain ⟨ns, h1, m, h2, rfl⟩ := h
    have e := reps_intsD ra h1
    subst e
    obtain ⟨h3, h4⟩ := maxI_mem h2
    refine s1_of (cr_max hc) ⟨a, ns, rfl, .inl (.inl ha), mem_pos h3, fun k k1 k2 => ?_⟩
    have e : k = m := Int.le_antisymm (h4 k k1) (k2 m h3)
    subst e
    exact post_int ok q
  case int =>
    cases rx <;> simp only [op1, it, Option.some.injEq, reduceCtorEq] at h
    · subst h
      exact s1_of call_int1 (.inr ⟨_, rfl, post_int ok q⟩)
    · subst h
      exact s1_of call_int1 (.inl ⟨_, rfl, post_int ok q⟩)
  case all =>
    cases rx <;> simp only [op1, Option.map_eq_some_iff, reduceCtorEq] at h
    rename_i a xs ds ha ra
    obtain ⟨bs, h1, rfl⟩ := h
    have e := reps_boolsD ra h1
    subst e
    exact s1_of (cr_all hc) ⟨a, bs, rfl, .inl (.inl ha), post_bl ok q⟩
  case any =>
    cases rx <;> simp only [op1, Option.map_eq_some_iff, reduceCtorEq] at h
    rename_i a xs ds ha ra
    obtain ⟨bs, h1, rfl⟩ := h
    have e := reps_boolsD ra h1
    subst e
    exact s1_of (cr_any hc) ⟨a, bs, rfl, .inl (.inl ha), post_bl ok q⟩
def tyD : PyData → String
  | .none => "NoneType"
  | .bool _ => "bool"
  | .int _ => "int"
  | .str _ => "str"
  | .list _ => "list"
  | .tuple _ => "tuple"
  | .dict _ => "dict"
theorem rep1_ty (hs : Ex G H) {d : PyData} (h : Rep1 X.K G H x d) : TyX X.K H x (.type (tyD d)) := by
  cases h with
  | non => exact .base .non
  | bl b => exact .base (.bl b)
  | int i => exact .base (.int i)
  | str x => exact .base (.str x)
  | lst h _ => exact .base (.lst h)
  | tup h _ =>
    rcases h with (h | ⟨o, h⟩) | ⟨o, its, n, h, c, _⟩
    · exact .base (.tup (hs _ _ h))
    · exact .fTuple (hs _ _ h)
    · exact .kTuple h c
  | dic h k =>
    cases k with
    | dK _ _ => exact .base (.dK h)
    | dT _ _ => exact .base (.dT h)
theorem kit_NoneType_int : kitB "NoneType" "int" = some false := by decide +kernel
theorem kit_NoneType_bool : kitB "NoneType" "bool" = some false := by decide +kernel
theorem kit_NoneType_tuple : kitB "NoneType" "tuple" = some false := by decide +kernel
theorem kit_NoneType_str : kitB "NoneType" "str" = some false := by decide +kernel
theorem kit_bool_int : kitB "bool" "int" = some true := by decide +kernel
theorem kit_bool_bool : kitB "bool" "bool" = some true := by decide +kernel
theorem kit_bool_tuple : kitB "bool" "tuple" = some false := by decide +kernel
theorem kit_bool_str : kitB "bool" "str" = some false := by decide +kernel
theorem kit_int_int : kitB "int" "int" = some true := by decide +kernel
theorem kit_int_bool : kitB "int" "bool" = some false := by decide +kernel
theorem kit_int_tuple : kitB "int" "tuple" = some false := by decide +kernel
theorem kit_int_str : kitB "int" "str" = some false := by decide +kernel
theorem kit_str_int : kitB "str" "int" = some false := by decide +kernel
theorem kit_str_bool : kitB "str" "bool" = some false := by decide +kernel
theorem kit_str_tuple : kitB "str" "tuple" = some false := by decide +kernel
theorem kit_str_str : kitB "str" "str" = some true := by decide +kernel
theorem kit_list_int : kitB "list" "int" = some false := by decide +kernel
theorem kit_list_bool : kitB "list" "bool" = some false := by decide +kernel
theorem kit_list_tuple : kitB "list" "tuple" = some false := by decide +kernel
theorem kit_list_str : kitB "list" "str" = some false := by decide +kernel
theorem kit_tuple_int : kitB "tuple" "int" = some false := by decide +kernel
theorem kit_tuple_bool : kitB "tuple" "bool" = some false := by decide +kernel
theorem kit_tuple_tuple : kitB "tuple" "tuple" = some true := by decide +kernel
theorem kit_tuple_str : kitB "tuple" "str" = some false := by decide +kernel
theorem kit_dict_int : kitB "dict" "int" = some false := by decide +kernel
theorem kit_dict_bool : kitB "dict" "bool" = some false := by decide +kernel
theorem kit_dict_tuple : kitB "dict" "tuple" = some false := by decide +kernel
theorem kit_dict_str : kitB "dict" "str" = some false := by decide +kernel
theorem kits : ∀ (o : O1) (t : String) (d : PyData), isTy o = some t → ∃ b, op1 o d = some (.sh (.bool b)) ∧ kitB (tyD d) t = some b := by
  intro o t d h
  cases o <;> simp only [isTy, Option.some.injEq, reduceCtorEq] at h <;> subst h <;> cases d
  · exact ⟨_, rfl, kit_NoneType_int⟩
  · exact ⟨_, rfl, kit_bool_int⟩
  · exact ⟨_, rfl, kit_int_int⟩
  · exact ⟨_, rfl, kit_str_int⟩
  · exact ⟨_, rfl, kit_list_int⟩
  · exact ⟨_, rfl, kit_tuple_int⟩
  · exact ⟨_, rfl, kit_dict_int⟩
  · exact ⟨_, rfl, kit_NoneType_bool⟩
  · exact ⟨_, rfl, kit_bool_bool⟩
  · exact ⟨_, rfl, kit_int_bool⟩
  · exact ⟨_, rfl, kit_str_bool⟩
  · exact ⟨_, rfl, kit_list_bool⟩
  · exact ⟨_, rfl, kit_tuple_bool⟩
  · exact ⟨_, rfl, kit_dict_bool⟩
  · exact ⟨_, rfl, kit_NoneType_tuple⟩
  · exact ⟨_, rfl, kit_bool_tuple⟩
  · exact ⟨_, rfl, kit_int_tuple⟩
  · exact ⟨_, rfl, kit_str_tuple⟩
  · exact ⟨_, rfl, kit_list_tuple⟩
  · exact ⟨_, rfl, kit_tuple_tuple⟩
  · exact ⟨_, rfl, kit_dict_tuple⟩
  · exact ⟨_, rfl, kit_NoneType_str⟩
  · exact ⟨_, rfl, kit_bool_str⟩
  · exact ⟨_, rfl, kit_int_str⟩
  · exact ⟨_, rfl, kit_str_str⟩
  · exact ⟨_, rfl, kit_list_str⟩
  · exact ⟨_, rfl, kit_tuple_str⟩
  · exact ⟨_, rfl, kit_dict_str⟩
theorem op1_isi : ∀ (o : O1) (t : String) (d : PyData), isTy o = some t → op1 o d = some r → Ok X.K B G L H → Rep1 X.K G H x d → Post X B G L r Q → s1 X (.builtin "isinstance") [x, .ty t] H Q := by
  intro o t d ht h ok rx q
  obtain ⟨b, h1, h2⟩ := kits o t d ht
  rw [h] at h1
  cases h1
  exact s1_of call_isi ⟨x, .ty t, _, _, b, rfl, .ty t, rep1_ty ok.sub rx, kit_ty h2, post_bl ok q⟩
theorem tru_of (hs : Ex G H) {b : Bool} {d : PyData} (h : truthD d = some b) (rx : Rep1 X.K G H x d) : TruV X.K x H b := by
  cases rx with
  | non => simpa [truthD, TruV] using h.symm
  | bl c => simpa [truthD, TruV] using h.symm
  | int i =>
    simp only [truthD, Option.some.injEq] at h
    exact h.symm
  | str z =>
    simp only [truthD, Option.ite_none_right_eq_some, Option.some.injEq] at h
    exact ⟨lim_le h.1, h.2.symm⟩
  | lst ha ra =>
    rename_i a xs ds
    simp only [truthD, Option.some.injEq] at h
    refine .inl ⟨xs, .inl (.inl ha), ?_⟩
    rw [← h]
    cases ra <;> rfl
  | tup ha ra =>
    rename_i a xs ds
    simp only [truthD, Option.some.injEq] at h
    refine .inr (.inl ⟨xs, Evl.ex_t hs ha, ?_⟩)
    rw [← h]
    cases ra <;> rfl
  | dic _ _ => simp [truthD] at h
/-! ### slices -/
theorem slice_ok : ∀ (d : PyData) (lo hi : Option Int), slice d lo hi = some r → Ok X.K B G L H → Rep1 X.K G H x d → Post X B G L r Q → (fun x lo hi H Q => rSlL X.K x lo hi H Q ∨ rSlA X.K x lo hi H Q) x lo hi H Q := by
  intro d lo hi e ok rx q
  have hs := ok.sub
  cases rx <;> simp only [slice, Option.some.injEq, reduceCtorEq] at e
  · rename_i a xs ds ha ra
    subst e
    exact .inl ⟨a, xs, rfl, .inl (.inl ha), fun p hp => q _ _ _ (Evl.Ex.refl G) (ok.newL hp (cutD_eq xs ds lo hi ra))⟩
  · rename_i a xs ds ha ra
    subst e
    refine .inr ⟨a, xs, rfl, Evl.ex_t hs ha, fun z => ?_, fun z p hp => q _ _ _ (ex_new (ok.freshG hp)) (ok.newT hp (cutD_eq xs ds lo hi ra))⟩
    have e3 : cutD ds lo hi = ds := by
      unfold cutD
      rw [← ra.length, z.1, z.2, List.drop_zero, Nat.sub_zero, ra.length, List.take_length]
    rw [e3] at q
    exact q _ _ _ (Evl.Ex.refl G) (ok.consR (.tup ha ra))
/-- a slice of the script -/
theorem slice_sc {a : Addr} {ns : List Int} : ∀ (lo hi : Option Int), slice (.list (ns.map .int)) lo hi = some r → Ok X.K B G L H → SqL X.K G a (ns.map V.int) → Post X B G L r Q → (fun x lo hi H Q => rSlL X.K x lo hi H Q ∨ rSlA X.K x lo hi H Q) (.ref a) lo hi H Q := by
  intro lo hi e ok ha q
  have hs := ok.sub
  simp only [slice, Option.some.injEq] at e
  subst e
  exact .inl ⟨a, _, rfl, Evl.ex_l hs ha, fun p hp => q _ _ _ (Evl.Ex.refl G) (ok.newL hp (cutD_eq _ _ lo hi (reps_ints ns)))⟩
theorem sl_any : SlR X (fun x lo hi H Q => rSlL X.K x lo hi H Q ∨ rSlA X.K x lo hi H Q) := SlR.or sl_list sl_tupA
end
end PP
namespace PP
open PySem L2 PySem.Spec PyProof.Rows
/-! ### slots -/
section
variable {K : PySem.W.Frag} {B : Fr} {G H : Hp} {τ : List Ent} {σ : L2.St} {ρ ρ' : PEnv} {i : Nat} {s r : Sl}
theorem zget (hl : σ.length = ρ.length) (h : ρ[i]? = some s) : ∃ v, σ[i]? = some v ∧ (τ ++ σ.zip ρ)[τ.length + i]? = some (v, s) := by
  have hi : i < ρ.length := (List.getElem?_eq_some_iff.mp h).1
  refine ⟨σ[i]'(by omega), List.getElem?_eq_getElem (by omega), ?_⟩
  rw [List.getElem?_append_right (Nat.le_add_right _ _), Nat.add_sub_cancel_left, List.getElem?_zip_eq_some]
  exact ⟨List.getElem?_eq_getElem (by omega), h⟩
theorem zip_set : ∀ {σ : L2.St} {ρ : PEnv} {i : Nat} {v : Option V} {s : Sl}, σ[i]? = some v → (σ.zip ρ).set i (v, s) = σ.zip (ρ.set i s)
  | [], _, _, _, _, h => by simp at h
  | _ :: _, [], _, _, _, _ => by simp
  | x :: σ, y :: ρ, 0, v, s, h => by
    simp at h
    subst h
    rfl
  | x :: σ, y :: ρ, i + 1, v, s, h => by
    have ih := zip_set (σ := σ) (ρ := ρ) (i := i) (v := v) (s := s) (by simpa using h)
    show (x, y) :: (σ.zip ρ).set i (v, s) = (x, y) :: σ.zip (ρ.set i s)
    rw [ih]
theorem zip_set2 : ∀ {σ : L2.St} {ρ : PEnv} {i : Nat} {v : Option V} {s : Sl}, (σ.zip ρ).set i (v, s) = (σ.set i v).zip (ρ.set i s)
  | [], _, i, _, _ => by simp
  | _ :: _, [], _, _, _ => by simp
  | x :: σ, y :: ρ, 0, v, s => rfl
  | x :: σ, y :: ρ, i + 1, v, s => by
    show (x, y) :: (σ.zip ρ).set i (v, s) = (x, y) :: (σ.set i v).zip (ρ.set i s)
    rw [zip_set2]
theorem zset {v : Option V} (h : σ[i]? = some v) : (τ ++ σ.zip ρ).set (τ.length + i) (v, s) = τ ++ σ.zip (ρ.set i s) := by
  rw [List.set_append_right _ _ (Nat.le_add_right _ _), Nat.add_sub_cancel_left, zip_set h]
theorem zset2 {v : Option V} : (τ ++ σ.zip ρ).set (τ.length + i) (v, s) = τ ++ (σ.set i v).zip (ρ.set i s) := by
  rw [List.set_append_right _ _ (Nat.le_add_right _ _), Nat.add_sub_cancel_left, zip_set2]
/-- a slot's value as it lies -/
theorem peek_ok (hl : σ.length = ρ.length) (ok : Ok K B G (τ ++ σ.zip ρ) H) {d : PyData} (h : peek ρ i = some d) : ∃ x, σ[i]? = some (some x) ∧ Rep1 K G H x d := by
  unfold peek at h
  cases e : ρ[i]? with
  | none =>
    rw [e] at h
    cases h
  | some s =>
    rw [e] at h
    obtain ⟨v, e1, e2⟩ := zget (τ := τ) hl e
    have k := ok.ent _ _ e2
    cases s <;> simp only [Option.some.injEq, reduceCtorEq] at h <;> subst h
    · obtain ⟨x, rfl, r⟩ := k
      exact ⟨x, e1, r.one ok.sub⟩
    · obtain ⟨a, vs, rfl, _, _, h2, h3⟩ := k
      exact ⟨_, e1, .lst h2 h3⟩
    · obtain ⟨a, vs, rfl, _, _, h2, h3⟩ := k
      exact ⟨_, e1, .lst h2 h3⟩
    · obtain ⟨a, o, rfl, _, _, h2, h3⟩ := k
      exact ⟨_, e1, .dic h2 h3⟩
theorem rdv_len (h : rdv ρ i = some (r, ρ')) : ρ'.length = ρ.length := by
  unfold rdv at h
  split at h <;> simp only [Option.some.injEq, Prod.mk.injEq, reduceCtorEq] at h <;> obtain ⟨rfl, rfl⟩ := h <;> simp
theorem rmv_len (h : rmv ρ i = some (r, ρ')) : ρ'.length = ρ.length := by
  unfold rmv at h
  split at h <;> simp only [Option.some.injEq, Prod.mk.injEq, reduceCtorEq] at h <;> obtain ⟨rfl, rfl⟩ := h <;> simp
theorem rdv_ok (hl : σ.length = ρ.length) (ok : Ok K B G (τ ++ σ.zip ρ) H) (h : rdv ρ i = some (r, ρ')) : ∃ x G', σ[i]? = some (some x) ∧ Ex G G' ∧ Ok K B G' ((some x, r) :: (τ ++ σ.zip ρ')) H := by
  unfold rdv at h
  cases e : ρ[i]? with
  | none =>
    rw [e] at h
    cases h
  | some s =>
    rw [e] at h
    obtain ⟨v, e1, e2⟩ := zget (τ := τ) hl e
    have k := ok.ent _ _ e2
    have hd := ok.take (u := v) e2
    cases s <;> simp only [Option.some.injEq, Prod.mk.injEq, reduceCtorEq] at h <;> obtain ⟨rfl, rfl⟩ := h
    · obtain ⟨x, rfl, r⟩ := k
      exact ⟨x, G, e1, Evl.Ex.refl G, ok.consR r⟩
    · rename_i l
      obtain ⟨a, vs, rfl, _⟩ := k
      obtain ⟨G', eg, q⟩ := hd.share rfl
      refine ⟨_, G', e1, eg, ?_⟩
      have z := q.tail.setU (n := τ.length + i) (p' := (some (.ref a), .sh (.list l))) q.head (ownA_sh _ _)
      rw [List.set_set, zset e1] at z
      exact z.consR q.rep
    · rename_i m
      obtain ⟨a, o, rfl, _⟩ := k
      obtain ⟨G', eg, q⟩ := hd.share rfl
      refine ⟨_, G', e1, eg, ?_⟩
      have z := q.tail.setU (n := τ.length + i) (p' := (some (.ref a), .sh (.dict m))) q.head (ownA_sh _ _)
      rw [List.set_set, zset e1] at z
      exact z.consR q.rep
theorem rmv_ok (hl : σ.length = ρ.length) (ok : Ok K B G (τ ++ σ.zip ρ) H) (h : rmv ρ i = some (r, ρ')) : ∃ x G', σ[i]? = some (some x) ∧ Ex G G' ∧ Ok K B G' ((some x, r) :: (τ ++ σ.zip ρ')) H := by
  unfold rmv at h
  cases e : ρ[i]? with
  | none =>
    rw [e] at h
    cases h
  | some s =>
    rw [e] at h
    obtain ⟨v, e1, e2⟩ := zget (τ := τ) hl e
    have k := ok.ent _ _ e2
    have hd := ok.take (u := v) e2
    rw [zset e1] at hd
    cases s <;> simp only [Option.some.injEq, Prod.mk.injEq, reduceCtorEq] at h <;> obtain ⟨rfl, rfl⟩ := h
    · obtain ⟨x, rfl, r⟩ := k
      exact ⟨x, G, e1, Evl.Ex.refl G, ok.consR r⟩
    · obtain ⟨a, vs, rfl, _⟩ := k
      exact ⟨_, G, e1, Evl.Ex.refl G, hd⟩
    · obtain ⟨a, o, rfl, _⟩ := k
      exact ⟨_, G, e1, Evl.Ex.refl G, hd⟩
/-- the head is stored in slot i -/
theorem put_ok {x : V} (ok : Ok K B G ((some x, s) :: (τ ++ σ.zip ρ)) H) : Ok K B G (τ ++ (σ.set i (some x)).zip (ρ.set i s)) H := by
  have z := ok.setH (n := τ.length + i)
  rw [zset2] at z
  exact z
theorem put_eq (h : put ρ i s = some ρ') : ρ' = ρ.set i s := by
  unfold put at h
  split at h
  · exact (Option.some.inj h).symm
  · cases h
end
/-! ### the strongest readings -/
def WE (X : Cx) (e : Expr) : TE := fun σ H Q => ∀ (pins : List (Addr × Obj)) (s : Shared), Inv X pins σ H s → wpAny (model X.prog X.w) X.A (eval e X.env) (EP X pins σ Q) X.xe s
def WT (X : Cx) (e : Expr) : TT := fun σ H Q => ∀ (pins : List (Addr × Obj)) (s : Shared), Inv X pins σ H s → wpAny (model X.prog X.w) X.A (isTrue e X.env (eval e X.env)) (TP X pins σ Q) X.xe s
def WW (X : Cx) (e : Expr) : TT := fun σ H Q => ∀ (whole : Sem Value) (pins : List (Addr × Obj)) (s : Shared), Inv X pins σ H s → wpAny (model X.prog X.w) X.A (isTrue e X.env whole) (TP X pins σ Q) X.xe s
def WA (X : Cx) (es : List Expr) : TA := fun σ H Q => ∀ (pos : Pos) (pins : List (Addr × Obj)) (s : Shared), Inv X pins σ H s → wpAny (model X.prog X.w) X.A (spliced (backTo pos (starEach es X.env))) (AP X pins σ Q) X.xe s
theorem pe_W (X : Cx) (e : Expr) : PE X e (WE X e) := ⟨fun pins s σ H Q I h => h pins s I⟩
theorem pt_W (X : Cx) (e : Expr) : PT X e (WT X e) := ⟨fun pins s σ H Q I h => h pins s I⟩
theorem pw_W (X : Cx) (e : Expr) : PW X e (WW X e) := ⟨fun whole pins s σ H Q I h => h whole pins s I⟩
theorem pa_W (X : Cx) (es : List Expr) : PA X es (WA X es) := ⟨fun pos pins s σ H Q I h => h pos pins s I⟩
theorem WE_of {X : Cx} {e : Expr} {t : TE} (h : PE X e t) {σ : L2.St} {H : Hp} {Q : VK} (q : t σ H Q) : WE X e σ H Q := fun pins s I => h.run pins s σ H Q I q
theorem WT_of {X : Cx} {e : Expr} {t : TT} (h : PT X e t) {σ : L2.St} {H : Hp} {Q : Bool → Hp → Prop} (q : t σ H Q) : WT X e σ H Q := fun pins s I => h.run pins s σ H Q I q
theorem WW_of {X : Cx} {e : Expr} {t : TT} (h : PW X e t) {σ : L2.St} {H : Hp} {Q : Bool → Hp → Prop} (q : t σ H Q) : WW X e σ H Q := fun whole pins s I => h.run whole pins s σ H Q I q
theorem WA_of {X : Cx} {es : List Expr} {t : TA} (h : PA X es t) {σ : L2.St} {H : Hp} {Q : List V → Hp → Prop} (q : t σ H Q) : WA X es σ H Q := fun pos pins s I => h.run pos pins s σ H Q I q
section
variable (X : Cx) (cl : Calls)
/-- e does what c does -/
def SE (e : Expr) (c : CE) : Prop := ∀ (B : Fr) (G H : Hp) (τ : List Ent) (σ : L2.St) (ρ ρ' : PEnv) (r : Sl) (Q : VK), σ.length = ρ.length → ev cl c ρ = some (r, ρ') → Ok X.K B G (τ ++ σ.zip ρ) H →
  (∀ v G' H', ρ'.length = ρ.length → Ex G G' → Ok X.K B G' ((some v, r) :: (τ ++ σ.zip ρ')) H' → Q v H') → WE X e σ H Q
/-- the same, its value shared -/
def SD (e : Expr) (c : CE) : Prop := ∀ (B : Fr) (G H : Hp) (τ : List Ent) (σ : L2.St) (ρ ρ' : PEnv) (r : Sl) (d : PyData) (Q : VK), σ.length = ρ.length → ev cl c ρ = some (r, ρ') → toD r = some d → Ok X.K B G (τ ++ σ.zip ρ) H →
  (∀ v G' H', ρ'.length = ρ.length → Ex G G' → Ok X.K B G' (τ ++ σ.zip ρ') H' → Rep X.K G' v d → Q v H') → WE X e σ H Q
def ST (tr : TT) (c : CE) : Prop := ∀ (B : Fr) (G H : Hp) (τ : List Ent) (σ : L2.St) (ρ ρ' : PEnv) (r : Sl) (b : Bool) (Q : Bool → Hp → Prop), σ.length = ρ.length → ev cl c ρ = some (r, ρ') → (toD r).bind truthD = some b → Ok X.K B G (τ ++ σ.zip ρ) H →
  (∀ G' H', ρ'.length = ρ.length → Ex G G' → Ok X.K B G' (τ ++ σ.zip ρ') H' → Q b H') → tr σ H Q
def SA (es : List Expr) (c : CE) : Prop := ∀ (B : Fr) (G H : Hp) (τ : List Ent) (σ : L2.St) (ρ ρ' : PEnv) (ds : List PyData) (Q : List V → Hp → Prop), σ.length = ρ.length → evA cl c ρ = some (ds, ρ') → Ok X.K B G (τ ++ σ.zip ρ) H →
  (∀ vs G' H', ρ'.length = ρ.length → Ex G G' → Ok X.K B G' (τ ++ σ.zip ρ') H' → Reps X.K G' vs ds → Q vs H') → WA X es σ H Q
end
section
variable {X : Cx} {cl : Calls} {e a b : Expr} {es : List Expr} {c ca cb cc : CE} {pos : Pos}
theorem SE.sd (h : SE X cl e c) : SD X cl e c := fun B G H τ σ ρ ρ' r d Q hl he hd ok q => h B G H τ σ ρ ρ' r Q hl he ok fun v G' H' l eg k => by
  obtain ⟨G2, e2, k2⟩ := k.share hd
  exact q v G2 H' l (eg.trans e2) k2.tail k2.rep
/-- a plain test -/
theorem SD.st (h : SD X cl e c) (hp : ∀ whole, isTrue e X.env whole = (do let v ← whole; standAt e.pos; holding [v] (truthy v))) : ST X cl (WT X e) c := fun B G H τ σ ρ ρ' r b Q hl he hb ok q => by
  obtain ⟨d, h1, h2⟩ := Option.bind_eq_some_iff.mp hb
  refine WT_of (pt_truth (pe_W X e) hp) ?_
  exact h B G H τ σ ρ ρ' r d _ hl he h1 ok fun v G' H' l eg k rv => ⟨b, tru_of k.sub h2 (rv.one k.sub), q G' H' l eg k⟩
theorem se_k {x : Const} {j : Nat} {d : PyData} (h : match x, d with
    | .none, .none => True
    | .bool p, .bool q => p = q
    | .int p, .int q => p = q
    | .str p, .str q => p = q
    | _, _ => False) : SE X cl (.Constant x j pos) (.k d) := by
  intro B G H τ σ ρ ρ' r Q hl he ok q
  simp only [ev, Option.some.injEq, Prod.mk.injEq] at he
  obtain ⟨rfl, rfl⟩ := he
  have q' : ∀ v, Rep X.K G v d → Q v H := fun v rv => q v G H rfl (Evl.Ex.refl G) (ok.consR rv)
  cases x <;> cases d <;> simp only at h
  · exact WE_of pe_non (q' _ .non)
  · subst h
    exact WE_of pe_bl (q' _ (.bl _))
  · subst h
    exact WE_of pe_int (q' _ (.int _))
  · subst h
    exact WE_of pe_str (q' _ (.str _))
/-- a constant of the module -/
theorem se_c {x : Str} {d : PyData} {v : V} {u : Value} (hg : Gl X x) (hm : X.mg x = some u) (r : RelV v u) (hv : ∀ G, Rep X.K G v d) (hd : (x == ("__debug__" : Str)) = false) : SE X cl (.Name x pos) (.k d) := by
  intro B G H τ σ ρ ρ' r' Q hl he ok q
  simp only [ev, Option.some.injEq, Prod.mk.injEq] at he
  obtain ⟨rfl, rfl⟩ := he
  exact WE_of (pe_glob hg hm r hd) (q _ G H rfl (Evl.Ex.refl G) (ok.consR (hv G)))
theorem se_v {x : Str} {i : Nat} (hN : X.N[i]? = some x) (hv : Vis X.env.scope x) (hd : (x == ("__debug__" : Str)) = false) (hcd : (x == ("__classdict__" : Str)) = false) : SE X cl (.Name x pos) (.v i) := by
  intro B G H τ σ ρ ρ' r Q hl he ok q
  simp only [ev] at he
  obtain ⟨z, G', e1, eg, k⟩ := rdv_ok hl ok he
  exact WE_of (pe_var hN hv hd hcd) ⟨z, e1, q z G' H (rdv_len he) eg k⟩
theorem se_mv {x : Str} {i : Nat} (hN : X.N[i]? = some x) (hv : Vis X.env.scope x) (hd : (x == ("__debug__" : Str)) = false) (hcd : (x == ("__classdict__" : Str)) = false) : SE X cl (.Name x pos) (.mv i) := by
  intro B G H τ σ ρ ρ' r Q hl he ok q
  simp only [ev] at he
  obtain ⟨z, G', e1, eg, k⟩ := rmv_ok hl ok he
  exact WE_of (pe_var hN hv hd hcd) ⟨z, e1, q z G' H (rmv_len he) eg k⟩
/-! operands: an expression, or a name as it lies -/
def R2Of (X : Cx) (o : O2) : R2 := s2 X o
/-- two operands -/
theorem s_op2 {o : O2} {rd : R2} {B : Fr} {G H : Hp} {τ : List Ent} {σ : L2.St} {ρ ρ' : PEnv} {r : Sl} {Q : VK}
    (hrd : ∀ {G H : Hp} {L : List Ent} {x y : V} {d e : PyData} {r : Sl} {Q : VK}, op2 o d e = some r → Ok X.K B G L H → Rep1 X.K G H x d → Rep1 X.K G H y e → Post X B G L r Q → rd x y H Q)
    (ha : SD X cl a ca) (hb : SD X cl b cb) (hl : σ.length = ρ.length) (he : ev cl (.op2 o ca cb) ρ = some (r, ρ')) (ok : Ok X.K B G (τ ++ σ.zip ρ) H)
    (q : ∀ v G' H', ρ'.length = ρ.length → Ex G G' → Ok X.K B G' ((some v, r) :: (τ ++ σ.zip ρ')) H' → Q v H') : tOp rd (WE X a) (WE X b) σ H Q := by
  simp only [ev, bind, Option.bind_eq_some_iff, Option.some.injEq, Prod.exists, Prod.mk.injEq] at he
  obtain ⟨r1, ρ1, e1, d1, t1, r2, ρ2, e2, d2, t2, z, e3, rfl, rfl⟩ := he
  refine ha B G H τ σ ρ ρ1 r1 d1 _ hl e1 t1 ok fun v G1 H1 l1 x1 k1 v1 => ?_
  refine hb B G1 H1 τ σ ρ1 ρ2 r2 d2 _ (by omega) e2 t2 k1 fun u G2 H2 l2 x2 k2 u2 => ?_
  exact hrd e3 k2 ((v1.mono x2).one k2.sub) (u2.one k2.sub) fun v' G' H' eg k' => q v' G' H' (by omega) ((x1.trans x2).trans eg) k'
theorem s_op2v {o : O2} {rd : R2} {i : Nat} {B : Fr} {G H : Hp} {τ : List Ent} {σ : L2.St} {ρ ρ' : PEnv} {r : Sl} {Q : VK}
    (hrd : ∀ {G H : Hp} {L : List Ent} {x y : V} {d e : PyData} {r : Sl} {Q : VK}, op2 o d e = some r → Ok X.K B G L H → Rep1 X.K G H x d → Rep1 X.K G H y e → Post X B G L r Q → rd x y H Q)
    (hb : SD X cl b cb) (hl : σ.length = ρ.length) (he : ev cl (.op2v o i cb) ρ = some (r, ρ')) (ok : Ok X.K B G (τ ++ σ.zip ρ) H)
    (q : ∀ v G' H', ρ'.length = ρ.length → Ex G G' → Ok X.K B G' ((some v, r) :: (τ ++ σ.zip ρ')) H' → Q v H') : tOp rd (tVar i) (WE X b) σ H Q := by
  simp only [ev, bind, Option.bind_eq_some_iff, Option.some.injEq, Prod.exists, Prod.mk.injEq] at he
  obtain ⟨d0, e0, r2, ρ2, e2, d2, t2, d1, p1, z, e3, rfl, rfl⟩ := he
  obtain ⟨v, s0, _⟩ := peek_ok hl ok e0
  refine ⟨v, s0, ?_⟩
  refine hb B G H τ σ ρ ρ2 r2 d2 _ hl e2 t2 ok fun u G2 H2 l2 x2 k2 u2 => ?_
  obtain ⟨v', s1, v1⟩ := peek_ok (by omega) k2 p1
  rw [s0] at s1
  cases s1
  exact hrd e3 k2 v1 (u2.one k2.sub) fun v' G' H' eg k' => q v' G' H' l2 (x2.trans eg) k'
theorem s_op2w {o : O2} {rd : R2} {i : Nat} {B : Fr} {G H : Hp} {τ : List Ent} {σ : L2.St} {ρ ρ' : PEnv} {r : Sl} {Q : VK}
    (hrd : ∀ {G H : Hp} {L : List Ent} {x y : V} {d e : PyData} {r : Sl} {Q : VK}, op2 o d e = some r → Ok X.K B G L H → Rep1 X.K G H x d → Rep1 X.K G H y e → Post X B G L r Q → rd x y H Q)
    (ha : SD X cl a ca) (hl : σ.length = ρ.length) (he : ev cl (.op2w o ca i) ρ = some (r, ρ')) (ok : Ok X.K B G (τ ++ σ.zip ρ) H)
    (q : ∀ v G' H', ρ'.length = ρ.length → Ex G G' → Ok X.K B G' ((some v, r) :: (τ ++ σ.zip ρ')) H' → Q v H') : tOp rd (WE X a) (tVar i) σ H Q := by
  simp only [ev, bind, Option.bind_eq_some_iff, Option.some.injEq, Prod.exists, Prod.mk.injEq] at he
  obtain ⟨r1, ρ1, e1, d1, t1, d2, p2, z, e3, rfl, rfl⟩ := he
  refine ha B G H τ σ ρ ρ1 r1 d1 _ hl e1 t1 ok fun v G1 H1 l1 x1 k1 v1 => ?_
  obtain ⟨u, s1, u1⟩ := peek_ok (by omega) k1 p2
  exact ⟨u, s1, hrd e3 k1 (v1.one k1.sub) u1 fun v' G' H' eg k' => q v' G' H' l1 (x1.trans eg) k'⟩
theorem s_op2x {o : O2} {rd : R2} {i j : Nat} {B : Fr} {G H : Hp} {τ : List Ent} {σ : L2.St} {ρ ρ' : PEnv} {r : Sl} {Q : VK}
    (hrd : ∀ {G H : Hp} {L : List Ent} {x y : V} {d e : PyData} {r : Sl} {Q : VK}, op2 o d e = some r → Ok X.K B G L H → Rep1 X.K G H x d → Rep1 X.K G H y e → Post X B G L r Q → rd x y H Q)
    (hl : σ.length = ρ.length) (he : ev cl (.op2x o i j) ρ = some (r, ρ')) (ok : Ok X.K B G (τ ++ σ.zip ρ) H)
    (q : ∀ v G' H', ρ'.length = ρ.length → Ex G G' → Ok X.K B G' ((some v, r) :: (τ ++ σ.zip ρ')) H' → Q v H') : tOp rd (tVar i) (tVar j) σ H Q := by
  simp only [ev, bind, Option.bind_eq_some_iff, Option.some.injEq, Prod.exists, Prod.mk.injEq] at he
  obtain ⟨d1, p1, d2, p2, z, e3, rfl, rfl⟩ := he
  obtain ⟨v, s0, v1⟩ := peek_ok hl ok p1
  obtain ⟨u, s1, u1⟩ := peek_ok hl ok p2
  exact ⟨v, s0, u, s1, hrd e3 ok v1 u1 fun v' G' H' eg k' => q v' G' H' rfl eg k'⟩
/-! the operators of the text -/
def opB : O2 → Option Operator
  | .add => some .Add
  | .sub => some .Sub
  | .mul => some .Mult
  | .fdiv => some .FloorDiv
  | .mod => some .Mod
  | .shl => some .LShift
  | .shr => some .RShift
  | .band => some .BitAnd
  | .bor => some .BitOr
  | _ => none
def opC : O2 → Option CmpOp
  | .eq => some .Eq
  | .ne => some .NotEq
  | .lt => some .Lt
  | .le => some .LtE
  | .gt => some .Gt
  | .ge => some .GtE
  | .is => some .Is
  | .isnt => some .IsNot
  | .isin => some .In
  | .notin => some .NotIn
  | _ => none
theorem opB_f {o : O2} {op : Operator} (h : opB o = some op) : opf o = binaryOp op ∧ o ≠ .ix := by
  cases o <;> simp only [opB, Option.some.injEq, reduceCtorEq] at h <;> subst h <;> exact ⟨rfl, fun z => by cases z⟩
theorem opC_f {o : O2} {op : CmpOp} (h : opC o = some op) : opf o = compareOp op ∧ o ≠ .ix := by
  cases o <;> simp only [opC, Option.some.injEq, reduceCtorEq] at h <;> subst h <;> exact ⟨rfl, fun z => by cases z⟩
theorem s2B {o : O2} {op : Operator} (h : opB o = some op) : OpR X (binaryOp op) (s2 X o) := fun pins s σ H x y v u Q I rx ry q => by
  rw [← (opB_f h).1]
  exact q pins s σ v u I rx ry
theorem s2C {o : O2} {op : CmpOp} (h : opC o = some op) : OpR X (compareOp op) (s2 X o) := fun pins s σ H x y v u Q I rx ry q => by
  rw [← (opC_f h).1]
  exact q pins s σ v u I rx ry
/-- a place of an operand: its reading, and that the two-place forms read so -/
inductive Opd (X : Cx) (cl : Calls) : Expr → CE ⊕ Nat → Prop
  | e {a : Expr} {c : CE} (h : SD X cl a c) : Opd X cl a (.inl c)
  | v {x : Str} {i : Nat} {pos : Pos} (hN : X.N[i]? = some x) (hv : Vis X.env.scope x) (hd : (x == ("__debug__" : Str)) = false) (hcd : (x == ("__classdict__" : Str)) = false) : Opd X cl (.Name x pos) (.inr i)
def mk2 (o : O2) : CE ⊕ Nat → CE ⊕ Nat → CE
  | .inl a, .inl b => .op2 o a b
  | .inr i, .inl b => .op2v o i b
  | .inl a, .inr j => .op2w o a j
  | .inr i, .inr j => .op2x o i j
theorem s_mk2 {o : O2} {rd : R2} {oa ob : CE ⊕ Nat} (ha : Opd X cl a oa) (hb : Opd X cl b ob) :
    ∃ ta tb, PE X a ta ∧ PE X b tb ∧ ∀ (B : Fr) (G H : Hp) (τ : List Ent) (σ : L2.St) (ρ ρ' : PEnv) (r : Sl) (Q : VK),
      (∀ {G H : Hp} {L : List Ent} {x y : V} {d e : PyData} {r : Sl} {Q : VK}, op2 o d e = some r → Ok X.K B G L H → Rep1 X.K G H x d → Rep1 X.K G H y e → Post X B G L r Q → rd x y H Q) →
      σ.length = ρ.length → ev cl (mk2 o oa ob) ρ = some (r, ρ') → Ok X.K B G (τ ++ σ.zip ρ) H →
      (∀ v G' H', ρ'.length = ρ.length → Ex G G' → Ok X.K B G' ((some v, r) :: (τ ++ σ.zip ρ')) H' → Q v H') → tOp rd ta tb σ H Q := by
  cases ha with
  | e ha =>
    cases hb with
    | e hb => exact ⟨_, _, pe_W X _, pe_W X _, fun B G H τ σ ρ ρ' r Q hrd hl he ok q => s_op2 (fun h => hrd h) ha hb hl he ok q⟩
    | v h1 h2 h3 h4 => exact ⟨_, _, pe_W X _, pe_var h1 h2 h3 h4, fun B G H τ σ ρ ρ' r Q hrd hl he ok q => s_op2w (fun h => hrd h) ha hl he ok q⟩
  | v h1 h2 h3 h4 =>
    cases hb with
    | e hb => exact ⟨_, _, pe_var h1 h2 h3 h4, pe_W X _, fun B G H τ σ ρ ρ' r Q hrd hl he ok q => s_op2v (fun h => hrd h) hb hl he ok q⟩
    | v h1' h2' h3' h4' => exact ⟨_, _, pe_var h1 h2 h3 h4, pe_var h1' h2' h3' h4', fun B G H τ σ ρ ρ' r Q hrd hl he ok q => s_op2x (fun h => hrd h) hl he ok q⟩
variable {oa ob : CE ⊕ Nat} {o : O2}
theorem se_bin (hu : X.A.units + 65 < cLine) {op : Operator} (h : opB o = some op) (ha : Opd X cl a oa) (hb : Opd X cl b ob) : SE X cl (.BinOp a op b pos) (mk2 o oa ob) := by
  intro B G H τ σ ρ ρ' r Q hl he ok q
  obtain ⟨ta, tb, pa, pb, w⟩ := s_mk2 (o := o) (rd := s2 X o) ha hb
  exact WE_of (pe_op (s2B h) pa pb) (w B G H τ σ ρ ρ' r Q (fun h1 h2 h3 h4 h5 => op2_ok hu o _ _ h1 (opB_f h).2 h2 h3 h4 h5) hl he ok q)
theorem se_cmp (hu : X.A.units + 65 < cLine) {op : CmpOp} (h : opC o = some op) (hm : behindInMarks op b = false) (ha : Opd X cl a oa) (hb : Opd X cl b ob) : SE X cl (.Compare a [op] [b] pos) (mk2 o oa ob) := by
  intro B G H τ σ ρ ρ' r Q hl he ok q
  obtain ⟨ta, tb, pa, pb, w⟩ := s_mk2 (o := o) (rd := s2 X o) ha hb
  exact WE_of (pe_cmpR (s2C h) pa pb hm) (w B G H τ σ ρ ρ' r Q (fun h1 h2 h3 h4 h5 => op2_ok hu o _ _ h1 (opC_f h).2 h2 h3 h4 h5) hl he ok q)
theorem se_ix (hs : PlainIx b) (ha : Opd X cl a oa) (hb : Opd X cl b ob) : SE X cl (.Subscript a b pos) (mk2 .ix oa ob) := by
  intro B G H τ σ ρ ρ' r Q hl he ok q
  obtain ⟨ta, tb, pa, pb, w⟩ := s_mk2 (o := .ix) (rd := sIx X) ha hb
  exact WE_of (pe_ix (ix_s X) pa pb hs) (w B G H τ σ ρ ρ' r Q (fun h1 h2 h3 h4 h5 => ix_ok _ _ h1 h2 h3 h4 h5) hl he ok q)
/-- what a comparison gives is a truth value -/
theorem opC_bool {op : CmpOp} (h : opC o = some op) {x y : PyData} {r : Sl} (e : op2 o x y = some r) : ∃ b, r = .sh (.bool b) := by
  cases o <;> simp only [opC, Option.some.injEq, reduceCtorEq] at h <;> cases x <;> cases y <;> simp only [op2, bl, Option.ite_none_right_eq_some, Option.some.injEq, reduceCtorEq] at e <;>
    first
      | exact ⟨_, e.symm⟩
      | exact ⟨_, e.2.symm⟩
theorem mk2_res {r : Sl} {ρ ρ' : PEnv} (he : ev cl (mk2 o oa ob) ρ = some (r, ρ')) : ∃ x y, op2 o x y = some r := by
  cases oa <;> cases ob <;> simp only [mk2, ev, bind, Option.bind_eq_some_iff, Option.some.injEq, Prod.exists, Prod.mk.injEq] at he
  · obtain ⟨_, _, _, _, _, _, _, _, _, _, _, h, rfl, _⟩ := he
    exact ⟨_, _, h⟩
  · obtain ⟨_, _, _, _, _, _, _, _, h, rfl, _⟩ := he
    exact ⟨_, _, h⟩
  · obtain ⟨_, _, _, _, _, _, _, _, _, _, h, rfl, _⟩ := he
    exact ⟨_, _, h⟩
  · obtain ⟨_, _, _, _, _, h, rfl, _⟩ := he
    exact ⟨_, _, h⟩
theorem st_cmp (hu : X.A.units + 65 < cLine) {op : CmpOp} (h : opC o = some op) (hm : behindInMarks op b = false) (ha : Opd X cl a oa) (hb : Opd X cl b ob) : ST X cl (WT X (.Compare a [op] [b] pos)) (mk2 o oa ob) := by
  intro B G H τ σ ρ ρ' r t Q hl he hb' ok q
  obtain ⟨ta, tb, pa, pb, w⟩ := s_mk2 (o := o) (rd := s2 X o) ha hb
  refine WT_of (pt_cmpR (s2C h) pa pb hm) ?_
  refine w B G H τ σ ρ ρ' r _ (fun h1 h2 h3 h4 h5 => op2_ok hu o _ _ h1 (opC_f h).2 h2 h3 h4 h5) hl he ok fun v G' H' l eg k => ?_
  obtain ⟨x, y, e⟩ := mk2_res he
  obtain ⟨b', rfl⟩ := opC_bool h e
  have e2 : b' = t := by simpa [toD, truthD] using hb'
  subst e2
  have rv := k.rep
  cases rv
  exact ⟨_, rfl, q G' H' l eg k.tail⟩
end
end PP
namespace PP
open PySem L2 PySem.Spec PyProof.Rows
/-! ### arguments -/
def notStar : Expr → Bool
  | .Starred .. => false
  | _ => true
theorem star_cons {e : Expr} {es : List Expr} {env : Env} (h : notStar e = true) : starEach (e :: es) env = (false, eval e env) :: starEach es env := by
  cases e <;> first
    | rfl
    | cases h
theorem star_plain {pos : Pos} {env : Env} : ∀ {es : List Expr}, es.all notStar = true → (backTo pos (starEach es env)).any (·.1) = false
  | [], _ => rfl
  | e :: es, h => by
    rw [List.all_cons, Bool.and_eq_true] at h
    rw [star_cons h.1]
    show (false || (backTo pos (starEach es env)).any (·.1)) = false
    rw [star_plain h.2]
    rfl
theorem star_none {pos : Pos} {env : Env} : ∀ {es : List Expr}, es.all notStar = true → (backTo pos (starEach es env)).all (fun x => !x.1) = true
  | [], _ => rfl
  | e :: es, h => by
    rw [List.all_cons, Bool.and_eq_true] at h
    rw [star_cons h.1]
    show (true && (backTo pos (starEach es env)).all (fun x => !x.1)) = true
    rw [star_none h.2]
    rfl
section
variable {X : Cx} {cl : Calls} {e a b : Expr} {es : List Expr} {c ca cb cc : CE} {pos p : Pos} {x : Str} {oa ob : CE ⊕ Nat}
theorem sa_nil : SA X cl [] .nil := by
  intro B G H τ σ ρ ρ' ds Q hl he ok q
  simp only [evA, Option.some.injEq, Prod.mk.injEq] at he
  obtain ⟨rfl, rfl⟩ := he
  exact WA_of pa_nil (q [] G H rfl (Evl.Ex.refl G) ok .nil)
theorem sa_cons (hs : notStar e = true) (ha : SD X cl e ca) (hb : SA X cl es cb) : SA X cl (e :: es) (.cons ca cb) := by
  intro B G H τ σ ρ ρ' ds Q hl he ok q
  simp only [evA, bind, Option.bind_eq_some_iff, Option.some.injEq, Prod.exists, Prod.mk.injEq] at he
  obtain ⟨r, ρ1, e1, d, e2, ds', ρ2, e3, rfl, rfl⟩ := he
  refine WA_of (pa_cons (pe_W X e) (pa_W X es) (star_cons hs)) ?_
  refine ha B G H τ σ ρ ρ1 r d _ hl e1 e2 ok fun v G1 H1 l1 x1 k1 v1 => ?_
  refine hb B G1 H1 τ σ ρ1 ρ2 ds' _ (by omega) e3 k1 fun vs G2 H2 l2 x2 k2 v2 => ?_
  exact q (v :: vs) G2 H2 (by omega) (x1.trans x2) k2 (.cons (v1.mono x2) v2)
/-- one operand -/
def mk1 (o : O1) : CE ⊕ Nat → CE
  | .inl a => .op1 o a
  | .inr i => .op1v o i
theorem s_mk1 {o : O1} {rd : V → Hp → VK → Prop} (ha : Opd X cl a oa) :
    ∃ ta, PE X a ta ∧ ∀ (B : Fr) (G H : Hp) (τ : List Ent) (σ : L2.St) (ρ ρ' : PEnv) (r : Sl) (Q : VK),
      (∀ {G H : Hp} {L : List Ent} {x : V} {d : PyData} {r : Sl} {Q : VK}, op1 o d = some r → Ok X.K B G L H → Rep1 X.K G H x d → Post X B G L r Q → rd x H Q) →
      σ.length = ρ.length → ev cl (mk1 o oa) ρ = some (r, ρ') → Ok X.K B G (τ ++ σ.zip ρ) H →
      (∀ v G' H', ρ'.length = ρ.length → Ex G G' → Ok X.K B G' ((some v, r) :: (τ ++ σ.zip ρ')) H' → Q v H') → ta σ H fun x H1 => rd x H1 Q := by
  cases ha with
  | e ha =>
    refine ⟨_, pe_W X _, fun B G H τ σ ρ ρ' r Q hrd hl he ok q => ?_⟩
    simp only [mk1, ev, bind, Option.bind_eq_some_iff, Option.some.injEq, Prod.exists, Prod.mk.injEq] at he
    obtain ⟨r1, ρ1, e1, d1, t1, z, e3, rfl, rfl⟩ := he
    exact ha B G H τ σ ρ ρ1 r1 d1 _ hl e1 t1 ok fun v G1 H1 l1 x1 k1 v1 => hrd e3 k1 (v1.one k1.sub) fun v' G' H' eg k' => q v' G' H' l1 (x1.trans eg) k'
  | v h1 h2 h3 h4 =>
    refine ⟨_, pe_var h1 h2 h3 h4, fun B G H τ σ ρ ρ' r Q hrd hl he ok q => ?_⟩
    simp only [mk1, ev, bind, Option.bind_eq_some_iff, Option.some.injEq, Prod.exists, Prod.mk.injEq] at he
    obtain ⟨d1, p1, z, e3, rfl, rfl⟩ := he
    obtain ⟨v, s0, v1⟩ := peek_ok hl ok p1
    exact ⟨v, s0, hrd e3 ok v1 fun v' G' H' eg k' => q v' G' H' rfl eg k'⟩
theorem opd_star (ha : Opd X cl a oa) (h : notStar a = true ∨ True) : True := trivial
theorem se_neg (ha : Opd X cl a oa) : SE X cl (.UnaryOp .USub a pos) (mk1 .neg oa) := by
  intro B G H τ σ ρ ρ' r Q hl he ok q
  obtain ⟨ta, pa, w⟩ := s_mk1 (o := .neg) (rd := rU fun i => .int (-i)) ha
  refine WE_of (pe_un un_neg pa) (w B G H τ σ ρ ρ' r Q (fun {G H L x d r Q} h ok rx q => ?_) hl he ok q)
  cases rx <;> simp only [op1, it, Option.some.injEq, reduceCtorEq] at h
  subst h
  exact ⟨_, rfl, post_int ok q⟩
theorem se_not (ha : Opd X cl a oa) : SE X cl (.UnaryOp .Not a pos) (mk1 .not oa) := by
  intro B G H τ σ ρ ρ' r Q hl he ok q
  obtain ⟨ta, pa, w⟩ := s_mk1 (o := .not) (rd := fun x H1 Q => ∃ k, TruV X.K x H1 k ∧ Q (.bl (!k)) H1) ha
  refine WE_of (pe_notT pa) (w B G H τ σ ρ ρ' r Q (fun {G H L x d r Q} h ok rx q => ?_) hl he ok q)
  simp only [op1, Option.map_eq_some_iff] at h
  obtain ⟨b, h1, rfl⟩ := h
  exact ⟨b, tru_of ok.sub h1 rx, post_bl ok q⟩
/-- a truth test of an operand as it lies -/
theorem st_opd (hp : ∀ whole, isTrue a X.env whole = (do let v ← whole; standAt a.pos; holding [v] (truthy v))) (ha : Opd X cl a oa) :
    ∀ (B : Fr) (G H : Hp) (τ : List Ent) (σ : L2.St) (ρ ρ' : PEnv) (r : Sl) (Q : Bool → Hp → Prop) , σ.length = ρ.length → ev cl (mk1 .not oa) ρ = some (r, ρ') → Ok X.K B G (τ ++ σ.zip ρ) H →
      (∀ b G' H', r = .sh (.bool !b) → ρ'.length = ρ.length → Ex G G' → Ok X.K B G' (τ ++ σ.zip ρ') H' → Q b H') → WT X a σ H Q := by
  intro B G H τ σ ρ ρ' r Q hl he ok q
  cases ha with
  | e ha =>
    simp only [mk1, ev, bind, Option.bind_eq_some_iff, Option.some.injEq, Prod.exists, Prod.mk.injEq] at he
    obtain ⟨r1, ρ1, e1, d1, t1, z, e3, rfl, rfl⟩ := he
    simp only [op1, Option.map_eq_some_iff] at e3
    obtain ⟨b, h1, rfl⟩ := e3
    exact SD.st ha hp B G H τ σ ρ ρ1 r1 b Q hl e1 (by rw [t1]; exact h1) ok fun G' H' l eg k => q b G' H' rfl l eg k
  | v h1 h2 h3 h4 =>
    simp only [mk1, ev, bind, Option.bind_eq_some_iff, Option.some.injEq, Prod.exists, Prod.mk.injEq] at he
    obtain ⟨d1, p1, z, e3, rfl, rfl⟩ := he
    simp only [op1, Option.map_eq_some_iff] at e3
    obtain ⟨b, h5, rfl⟩ := e3
    obtain ⟨v, s0, v1⟩ := peek_ok hl ok p1
    exact WT_of (pt_truth (pe_var h1 h2 h3 h4) hp) ⟨v, s0, b, tru_of ok.sub h5 v1, q b G H rfl rfl (Evl.Ex.refl G) ok⟩
/-- an operand as a test -/
theorem st_truth (hp : ∀ whole, isTrue a X.env whole = (do let v ← whole; standAt a.pos; holding [v] (truthy v))) (ha : Opd X cl a oa) : ST X cl (WT X a) (mk1 .truth oa) := by
  intro B G H τ σ ρ ρ' r b Q hl he hb ok q
  cases ha with
  | e ha =>
    simp only [mk1, ev, bind, Option.bind_eq_some_iff, Option.some.injEq, Prod.exists, Prod.mk.injEq] at he
    obtain ⟨r1, ρ1, e1, d1, t1, z, e3, rfl, rfl⟩ := he
    simp only [op1, Option.map_eq_some_iff] at e3
    obtain ⟨b', h1, rfl⟩ := e3
    have e2 : b' = b := by simpa [toD, truthD] using hb
    subst e2
    exact SD.st ha hp B G H τ σ ρ ρ1 r1 b' Q hl e1 (by rw [t1]; exact h1) ok q
  | v h1 h2 h3 h4 =>
    simp only [mk1, ev, bind, Option.bind_eq_some_iff, Option.some.injEq, Prod.exists, Prod.mk.injEq] at he
    obtain ⟨d1, p1, z, e3, rfl, rfl⟩ := he
    simp only [op1, Option.map_eq_some_iff] at e3
    obtain ⟨b', h5, rfl⟩ := e3
    have e2 : b' = b := by simpa [toD, truthD] using hb
    subst e2
    obtain ⟨v, s0, v1⟩ := peek_ok hl ok p1
    exact WT_of (pt_truth (pe_var h1 h2 h3 h4) hp) ⟨v, s0, b', tru_of ok.sub h5 v1, q G H rfl (Evl.Ex.refl G) ok⟩
/-- a built-in called with one operand -/
def bltOf : O1 → Option Str
  | .len => some "len"
  | .sum => some "sum"
  | .abs => some "abs"
  | .tuple => some "tuple"
  | .list => some "list"
  | .min => some "min"
  | .max => some "max"
  | .int => some "int"
  | .all => some "all"
  | .any => some "any"
  | .sorted => some "sorted"
  | _ => none
theorem blt_f1 {o : O1} (h : bltOf o = some x) : ∃ f, f1 o = some f ∧ bootBuiltins x = some f ∧ x ≠ "__name__" ∧ (x == ("__debug__" : Str)) = false ∧ ((∃ id, f = .builtin id) ∨ ∃ T, f = .type T) := by
  cases o <;> simp only [bltOf, Option.some.injEq, reduceCtorEq] at h <;> subst h
  · exact ⟨_, rfl, by decide +kernel, by decide, by decide, .inl ⟨_, rfl⟩⟩
  · exact ⟨_, rfl, by decide +kernel, by decide, by decide, .inl ⟨_, rfl⟩⟩
  · exact ⟨_, rfl, by decide +kernel, by decide, by decide, .inl ⟨_, rfl⟩⟩
  · exact ⟨_, rfl, by decide +kernel, by decide, by decide, .inl ⟨_, rfl⟩⟩
  · exact ⟨_, rfl, by decide +kernel, by decide, by decide, .inr ⟨_, rfl⟩⟩
  · exact ⟨_, rfl, by decide +kernel, by decide, by decide, .inr ⟨_, rfl⟩⟩
  · exact ⟨_, rfl, by decide +kernel, by decide, by decide, .inl ⟨_, rfl⟩⟩
  · exact ⟨_, rfl, by decide +kernel, by decide, by decide, .inl ⟨_, rfl⟩⟩
  · exact ⟨_, rfl, by decide +kernel, by decide, by decide, .inr ⟨_, rfl⟩⟩
  · exact ⟨_, rfl, by decide +kernel, by decide, by decide, .inl ⟨_, rfl⟩⟩
  · exact ⟨_, rfl, by decide +kernel, by decide, by decide, .inl ⟨_, rfl⟩⟩
/-- any built-in or type called -/
theorem pe_callV {f : Value} {t : TA} (hf : (∃ id, f = .builtin id) ∨ ∃ T, f = .type T) (hg : Gl X x) (hm : X.mg x = none) (hv : bootBuiltins x = some f) (hn : x ≠ "__name__") (hdb : (x == ("__debug__" : Str)) = false)
    (hs : (e :: es).all notStar = true) (ha : PA X (e :: es) t) : PE X (.Call (.Name x p) (e :: es) [] pos) (tCB (s1 X f) t) := by
  have hs' := hs
  rw [List.all_cons, Bool.and_eq_true] at hs'
  rcases hf with ⟨id, rfl⟩ | ⟨T, rfl⟩
  · exact pe_callB (s1_r X _) hg hm hv ha hn hdb (star_cons hs'.1) (star_plain hs'.2)
  · exact pe_callTy (s1_r X _) hg hm hv ha hn hdb (star_cons hs'.1) (star_plain hs'.2)
theorem se_b1 {o : O1} (hu : X.A.units + 65 < cLine) (hc : X.calm = true) (hb : bltOf o = some x) (hg : Gl X x) (hm : X.mg x = none) (hs : notStar a = true) (ha : Opd X cl a oa) : SE X cl (.Call (.Name x p) [a] [] pos) (mk1 o oa) := by
  intro B G H τ σ ρ ρ' r Q hl he ok q
  obtain ⟨f, hf, hv, hn, hd, hk⟩ := blt_f1 hb
  obtain ⟨ta, pa, w⟩ := s_mk1 (o := o) (rd := fun y => s1 X f [y]) ha
  refine WE_of (pe_callV (es := []) hk hg hm hv hn hd (by simp [hs]) (pa_cons pa pa_nil (star_cons hs))) ?_
  exact w B G H τ σ ρ ρ' r Q (fun h ok rx q => op1_call hu hc o _ hf h ok rx q) hl he ok q
def isTyN (o : O1) : Option Str := match o with
  | .isint => some "int"
  | .isbool => some "bool"
  | .istuple => some "tuple"
  | .isstr => some "str"
  | _ => none
theorem isTyN_t {o : O1} {y : Str} (h : isTyN o = some y) : ∃ t, isTy o = some t ∧ bootBuiltins y = some (.type t) ∧ y ≠ "__name__" ∧ (y == ("__debug__" : Str)) = false := by
  cases o <;> simp only [isTyN, Option.some.injEq, reduceCtorEq] at h <;> subst h <;> exact ⟨_, rfl, by decide +kernel, by decide, by decide⟩
theorem se_isi {o : O1} {y : Str} {p2 : Pos} (hb : isTyN o = some y) (hg : Gl X "isinstance") (hm : X.mg "isinstance" = none) (hg2 : Gl X y) (hm2 : X.mg y = none) (hs : notStar a = true) (ha : Opd X cl a oa) :
    SE X cl (.Call (.Name "isinstance" p) [a, .Name y p2] [] pos) (mk1 o oa) := by
  intro B G H τ σ ρ ρ' r Q hl he ok q
  obtain ⟨t, ht, hv, hn, hd⟩ := isTyN_t hb
  obtain ⟨ta, pa, w⟩ := s_mk1 (o := o) (rd := fun z => s1 X (.builtin "isinstance") [z, .ty t]) ha
  refine WE_of (pe_callV (f := .builtin "isinstance") (.inl ⟨_, rfl⟩) hg hm (by decide +kernel) (by decide) (by decide) (by simp [hs]; rfl) (pa_cons pa (pa_cons (pe_bltn (v := .ty t) hg2 hm2 hv rfl hn hd) pa_nil (star_cons rfl)) (star_cons hs))) ?_
  exact w B G H τ σ ρ ρ' r Q (fun h ok rx q => op1_isi o t _ ht h ok rx q) hl he ok q
/-! max, min of two -/
theorem se_bi2 {o : B2} (hc : X.calm = true) (hx : o = .min ∧ x = "min" ∨ o = .max ∧ x = "max") (hg : Gl X x) (hm : X.mg x = none) (hs : notStar a = true) (hs2 : notStar b = true) (ha : SD X cl a ca) (hb : SD X cl b cb) :
    SE X cl (.Call (.Name x p) [a, b] [] pos) (.bi2 o ca cb) := by
  intro B G H τ σ ρ ρ' r Q hl he ok q
  simp only [ev, bind, Option.bind_eq_some_iff, Prod.exists] at he
  obtain ⟨r1, ρ1, e1, d1, t1, r2, ρ2, e2, d2, t2, e3⟩ := he
  have pa : PA X [a, b] (tCons (WE X a) (tCons (WE X b) tNil)) := pa_cons (pe_W X a) (pa_cons (pe_W X b) pa_nil (star_cons hs2)) (star_cons hs)
  have key : ∀ (f : Value), (∀ vs H Q, s1 X f vs H Q → s1 X f vs H Q) → (∀ x y H1, (∃ G1, Ex G G1 ∧ Ok X.K B G1 (τ ++ σ.zip ρ2) H1 ∧ Rep X.K G1 x d1 ∧ Rep X.K G1 y d2 ∧ ρ2.length = ρ.length) → s1 X f [x, y] H1 Q) → tCB (s1 X f) (tCons (WE X a) (tCons (WE X b) tNil)) σ H Q := fun f _ hf => by
    refine ha B G H τ σ ρ ρ1 r1 d1 _ hl e1 t1 ok fun v G1 H1 l1 x1 k1 v1 => ?_
    refine hb B G1 H1 τ σ ρ1 ρ2 r2 d2 _ (by omega) e2 t2 k1 fun u G2 H2 l2 x2 k2 u2 => ?_
    exact hf v u H2 ⟨G2, x1.trans x2, k2, v1.mono x2, u2, by omega⟩
  rcases hx with ⟨rfl, hx⟩ | ⟨rfl, hx⟩
  · subst hx
    refine WE_of (pe_callV (f := .builtin "min") (.inl ⟨_, rfl⟩) hg hm (by decide +kernel) (by decide) (by decide) (by simp [hs, hs2]) pa) (key _ (fun _ _ _ h => h) fun x y H1 ⟨G1, x1, k1, rx, ry, l⟩ => ?_)
    cases rx <;> cases ry <;> simp only [Option.some.injEq, Prod.mk.injEq, reduceCtorEq] at e3
    obtain ⟨rfl, rfl⟩ := e3
    exact s1_of (call_min2 hc) ⟨_, _, rfl, q _ G1 H1 l x1 (k1.consR (.int _))⟩
  · subst hx
    refine WE_of (pe_callV (f := .builtin "max") (.inl ⟨_, rfl⟩) hg hm (by decide +kernel) (by decide) (by decide) (by simp [hs, hs2]) pa) (key _ (fun _ _ _ h => h) fun x y H1 ⟨G1, x1, k1, rx, ry, l⟩ => ?_)
    cases rx <;> cases ry <;> simp only [Option.some.injEq, Prod.mk.injEq, reduceCtorEq] at e3
    obtain ⟨rfl, rfl⟩ := e3
    exact s1_of (call_max2 hc) ⟨_, _, rfl, q _ G1 H1 l x1 (k1.consR (.int _))⟩
/-! chains -/
theorem s_chain {o o' : O2} (ho : o ≠ .ix) (ho' : o' ≠ .ix) (hu : X.A.units + 65 < cLine) (hcb : ∀ x y r, op2 o x y = some r → ∃ b, r = .sh (.bool b)) {cE : Expr} (ha : SD X cl a ca) (hb : SD X cl b cb) (hc' : SD X cl cE cc) {B : Fr} {G H : Hp} {τ : List Ent} {σ : L2.St} {ρ ρ' : PEnv} {r : Sl} {Q : VK}
    (hl : σ.length = ρ.length) (he : ev cl (.chain o o' ca cb cc) ρ = some (r, ρ')) (ok : Ok X.K B G (τ ++ σ.zip ρ) H)
    (q : ∀ v G' H', ρ'.length = ρ.length → Ex G G' → Ok X.K B G' ((some v, r) :: (τ ++ σ.zip ρ')) H' → Q v H') : tChain (s2 X o) (s2 X o') (WE X a) (WE X b) (WE X cE) σ H Q := by
  simp only [ev, bind, Option.bind_eq_some_iff, Prod.exists] at he
  obtain ⟨r1, ρ1, e1, d1, t1, r2, ρ2, e2, d2, t2, z, e3, e4⟩ := he
  refine ha B G H τ σ ρ ρ1 r1 d1 _ hl e1 t1 ok fun v G1 H1 l1 x1 k1 v1 => ?_
  refine hb B G1 H1 τ σ ρ1 ρ2 r2 d2 _ (by omega) e2 t2 k1 fun u G2 H2 l2 x2 k2 u2 => ?_
  refine op2_ok hu o d1 d2 e3 ho k2 ((v1.mono x2).one k2.sub) (u2.one k2.sub) fun z' G3 H3 x3 k3 => ?_
  obtain ⟨bb, rfl⟩ := hcb _ _ _ e3
  have rz := k3.rep
  cases rz
  refine ⟨bb, rfl, ?_⟩
  cases bb with
  | false =>
    simp only [Option.some.injEq, Prod.mk.injEq] at e4
    obtain ⟨rfl, rfl⟩ := e4
    rw [if_neg (by decide)]
    exact q _ G3 H3 (by omega) ((x1.trans x2).trans x3) k3
  | true =>
    simp only [Option.bind_eq_some_iff, Option.some.injEq, Prod.exists, Prod.mk.injEq] at e4
    obtain ⟨r3, ρ3, e5, d3, t3, z4, e6, rfl, rfl⟩ := e4
    rw [if_pos rfl]
    refine hc' B G3 H3 τ σ ρ2 ρ3 r3 d3 _ (by omega) e5 t3 k3.tail fun w G4 H4 l4 x4 k4 w4 => ?_
    exact op2_ok hu o' d2 d3 e6 ho' k4 (((u2.mono x3).mono x4).one k4.sub) (w4.one k4.sub) fun v' G' H' eg k' => q v' G' H' (by omega) ((((x1.trans x2).trans x3).trans x4).trans eg) k'
theorem se_chain {o o' : O2} {op op' : CmpOp} {cE : Expr} (hu : X.A.units + 65 < cLine) (h : opC o = some op) (h' : opC o' = some op') (hm : lastMarks [op, op'] [b, cE] = false) (ha : SD X cl a ca) (hb : SD X cl b cb) (hc' : SD X cl cE cc) :
    SE X cl (.Compare a [op, op'] [b, cE] pos) (.chain o o' ca cb cc) := by
  intro B G H τ σ ρ ρ' r Q hl he ok q
  exact WE_of (pe_chain (s2C h) (s2C h') (pe_W X a) (pe_W X b) (pe_W X cE) hm) (s_chain (opC_f h).2 (opC_f h').2 hu (fun _ _ _ e => opC_bool h e) ha hb hc' hl he ok q)
theorem chain_res {o o' : O2} {op' : CmpOp} (h' : opC o' = some op') {r : Sl} {ρ ρ' : PEnv} (he : ev cl (.chain o o' ca cb cc) ρ = some (r, ρ')) : ∃ b, r = .sh (.bool b) := by
  simp only [ev, bind, Option.bind_eq_some_iff, Prod.exists] at he
  obtain ⟨r1, ρ1, e1, d1, t1, r2, ρ2, e2, d2, t2, z, e3, e4⟩ := he
  split at e4
  · simp only [Option.bind_eq_some_iff, Option.some.injEq, Prod.exists, Prod.mk.injEq] at e4
    obtain ⟨r3, ρ3, e5, d3, t3, z4, e6, rfl, rfl⟩ := e4
    exact opC_bool h' e6
  · simp only [Option.some.injEq, Prod.mk.injEq] at e4
    exact ⟨_, e4.1.symm⟩
  · cases e4
theorem st_chain {o o' : O2} {op op' : CmpOp} {cE : Expr} (hu : X.A.units + 65 < cLine) (h : opC o = some op) (h' : opC o' = some op') (hm : lastMarks [op, op'] [b, cE] = false) (ha : SD X cl a ca) (hb : SD X cl b cb) (hc' : SD X cl cE cc) :
    ST X cl (WT X (.Compare a [op, op'] [b, cE] pos)) (.chain o o' ca cb cc) := by
  intro B G H τ σ ρ ρ' r t Q hl he hb' ok q
  refine WT_of (pt_chain (s2C h) (s2C h') (pe_W X a) (pe_W X b) (pe_W X cE) hm) ?_
  refine s_chain (opC_f h).2 (opC_f h').2 hu (fun _ _ _ e => opC_bool h e) ha hb hc' hl he ok fun v G' H' l eg k => ?_
  obtain ⟨b', rfl⟩ := chain_res h' he
  have e2 : b' = t := by simpa [toD, truthD] using hb'
  subst e2
  have rv := k.rep
  cases rv
  exact ⟨_, rfl, q G' H' l eg k.tail⟩
/-! and, or, not, if .. else -/
theorem se_and {es : List Expr} (ha : SD X cl a ca) (hb : SE X cl (.BoolOp .And (b :: es) pos) cb) : SE X cl (.BoolOp .And (a :: b :: es) pos) (.and ca cb) := by
  intro B G H τ σ ρ ρ' r Q hl he ok q
  simp only [ev, bind, Option.bind_eq_some_iff, Prod.exists] at he
  obtain ⟨r1, ρ1, e1, d1, t1, t, e2, e3⟩ := he
  refine WE_of (pe_andT (pe_W X a) (pe_W X _)) ?_
  refine ha B G H τ σ ρ ρ1 r1 d1 _ hl e1 t1 ok fun v G1 H1 l1 x1 k1 v1 => ⟨t, tru_of k1.sub e2 (v1.one k1.sub), ?_⟩
  cases t with
  | true =>
    rw [if_pos rfl] at e3 ⊢
    exact hb B G1 H1 τ σ ρ1 ρ' r Q (by omega) e3 k1 fun v' G' H' l eg k => q v' G' H' (by omega) (x1.trans eg) k
  | false =>
    rw [if_neg (by decide)] at e3 ⊢
    simp only [Option.some.injEq, Prod.mk.injEq] at e3
    obtain ⟨rfl, rfl⟩ := e3
    exact q v G1 H1 l1 x1 (k1.consR v1)
theorem se_or {es : List Expr} (ha : SD X cl a ca) (hb : SE X cl (.BoolOp .Or (b :: es) pos) cb) : SE X cl (.BoolOp .Or (a :: b :: es) pos) (.or ca cb) := by
  intro B G H τ σ ρ ρ' r Q hl he ok q
  simp only [ev, bind, Option.bind_eq_some_iff, Prod.exists] at he
  obtain ⟨r1, ρ1, e1, d1, t1, t, e2, e3⟩ := he
  refine WE_of (pe_orT (pe_W X a) (pe_W X _)) ?_
  refine ha B G H τ σ ρ ρ1 r1 d1 _ hl e1 t1 ok fun v G1 H1 l1 x1 k1 v1 => ⟨t, tru_of k1.sub e2 (v1.one k1.sub), ?_⟩
  cases t with
  | false =>
    rw [if_neg (by decide)] at e3 ⊢
    exact hb B G1 H1 τ σ ρ1 ρ' r Q (by omega) e3 k1 fun v' G' H' l eg k => q v' G' H' (by omega) (x1.trans eg) k
  | true =>
    rw [if_pos rfl] at e3 ⊢
    simp only [Option.some.injEq, Prod.mk.injEq] at e3
    obtain ⟨rfl, rfl⟩ := e3
    exact q v G1 H1 l1 x1 (k1.consR v1)
theorem se_one {op : BoolOp} (ha : SE X cl a ca) : SE X cl (.BoolOp op [a] pos) ca := by
  intro B G H τ σ ρ ρ' r Q hl he ok q
  exact WE_of (pe_one (pe_W X a)) (ha B G H τ σ ρ ρ' r Q hl he ok q)
theorem st_bool {d : PyData} {b : Bool} (h : truthD d = some b) : (toD (.sh d)).bind truthD = some b := h
theorem sw_and {es : List Expr} (ha : ST X cl (WT X a) ca) (hb : ST X cl (WW X (.BoolOp .And (b :: es) pos)) cb) : ST X cl (WW X (.BoolOp .And (a :: b :: es) pos)) (.and ca cb) := by
  intro B G H τ σ ρ ρ' r t Q hl he ht ok q
  simp only [ev, bind, Option.bind_eq_some_iff, Prod.exists] at he
  obtain ⟨r1, ρ1, e1, d1, t1, t', e2, e3⟩ := he
  refine WW_of (pw_and (pt_W X a) (pw_W X _)) ?_
  refine ha B G H τ σ ρ ρ1 r1 t' _ hl e1 (by rw [t1]; exact e2) ok fun G1 H1 l1 x1 k1 => ?_
  cases t' with
  | true =>
    rw [if_pos rfl] at e3 ⊢
    exact hb B G1 H1 τ σ ρ1 ρ' r t Q (by omega) e3 ht k1 fun G' H' l eg k => q G' H' (by omega) (x1.trans eg) k
  | false =>
    rw [if_neg (by decide)] at e3 ⊢
    simp only [Option.some.injEq, Prod.mk.injEq] at e3
    obtain ⟨rfl, rfl⟩ := e3
    have e4 : t = false := by
      have : truthD d1 = some t := ht
      rw [e2] at this
      exact (Option.some.inj this).symm
    subst e4
    exact q G1 H1 l1 x1 k1
theorem sw_or {es : List Expr} (ha : ST X cl (WT X a) ca) (hb : ST X cl (WW X (.BoolOp .Or (b :: es) pos)) cb) : ST X cl (WW X (.BoolOp .Or (a :: b :: es) pos)) (.or ca cb) := by
  intro B G H τ σ ρ ρ' r t Q hl he ht ok q
  simp only [ev, bind, Option.bind_eq_some_iff, Prod.exists] at he
  obtain ⟨r1, ρ1, e1, d1, t1, t', e2, e3⟩ := he
  refine WW_of (pw_or (pt_W X a) (pw_W X _)) ?_
  refine ha B G H τ σ ρ ρ1 r1 t' _ hl e1 (by rw [t1]; exact e2) ok fun G1 H1 l1 x1 k1 => ?_
  cases t' with
  | false =>
    rw [if_neg (by decide)] at e3 ⊢
    exact hb B G1 H1 τ σ ρ1 ρ' r t Q (by omega) e3 ht k1 fun G' H' l eg k => q G' H' (by omega) (x1.trans eg) k
  | true =>
    rw [if_pos rfl] at e3 ⊢
    simp only [Option.some.injEq, Prod.mk.injEq] at e3
    obtain ⟨rfl, rfl⟩ := e3
    have e4 : t = true := by
      have : truthD d1 = some t := ht
      rw [e2] at this
      exact (Option.some.inj this).symm
    subst e4
    exact q G1 H1 l1 x1 k1
theorem sw_one {op : BoolOp} (ha : ST X cl (WT X a) ca) : ST X cl (WW X (.BoolOp op [a] pos)) ca := by
  intro B G H τ σ ρ ρ' r t Q hl he ht ok q
  cases op
  · exact WW_of (pw_and1 (pt_W X a)) (ha B G H τ σ ρ ρ' r t Q hl he ht ok q)
  · exact WW_of (pw_or1 (pt_W X a)) (ha B G H τ σ ρ ρ' r t Q hl he ht ok q)
theorem ST.pt {e : Expr} (h : ST X cl (WW X e) c) : ST X cl (WT X e) c := fun B G H τ σ ρ ρ' r t Q hl he ht ok q =>
  WT_of (pw_W X e).pt (h B G H τ σ ρ ρ' r t Q hl he ht ok q)
/-- not .., as a test -/
theorem st_not (ha : ST X cl (WT X a) ca) : ST X cl (WT X (.UnaryOp .Not a pos)) (.op1 .not ca) := by
  intro B G H τ σ ρ ρ' r t Q hl he ht ok q
  simp only [ev, bind, Option.bind_eq_some_iff, Option.some.injEq, Prod.exists, Prod.mk.injEq] at he
  obtain ⟨r1, ρ1, e1, d1, t1, z, e3, rfl, rfl⟩ := he
  simp only [op1, Option.map_eq_some_iff] at e3
  obtain ⟨b, h1, rfl⟩ := e3
  have e2 : (!b) = t := by simpa [toD, truthD] using ht
  subst e2
  refine WT_of (pt_not (pt_W X a)) ?_
  exact ha B G H τ σ ρ ρ1 r1 b _ hl e1 (by rw [t1]; exact h1) ok fun G' H' l eg k => q G' H' l eg k
theorem se_ite {t : Expr} (hc' : ST X cl (WT X t) cc) (ha : SE X cl a ca) (hb : SE X cl b cb) : SE X cl (.IfExp t a b pos) (.ite cc ca cb) := by
  intro B G H τ σ ρ ρ' r Q hl he ok q
  simp only [ev, bind, Option.bind_eq_some_iff, Prod.exists] at he
  obtain ⟨r1, ρ1, e1, t', e2, e3⟩ := he
  refine WE_of (pe_ifExp (pt_W X t) (pe_W X a) (pe_W X b)) ?_
  refine hc' B G H τ σ ρ ρ1 r1 t' _ hl e1 (Option.bind_eq_some_iff.mpr e2) ok fun G1 H1 l1 x1 k1 => ?_
  cases t' with
  | true =>
    rw [if_pos rfl] at e3 ⊢
    exact ha B G1 H1 τ σ ρ1 ρ' r Q (by omega) e3 k1 fun v' G' H' l eg k => q v' G' H' (by omega) (x1.trans eg) k
  | false =>
    rw [if_neg (by decide)] at e3 ⊢
    exact hb B G1 H1 τ σ ρ1 ρ' r Q (by omega) e3 k1 fun v' G' H' l eg k => q v' G' H' (by omega) (x1.trans eg) k
/-! displays, slices -/
theorem se_tup {j : Nat} (ha : SA X cl es ca) : SE X cl (.Tuple es j pos) (.tup ca) := by
  intro B G H τ σ ρ ρ' r Q hl he ok q
  simp only [ev, bind, Option.bind_eq_some_iff, Prod.exists] at he
  obtain ⟨ds, ρ1, e1, e2⟩ := he
  simp only [Option.ite_none_right_eq_some, Option.some.injEq, Prod.mk.injEq] at e2
  obtain ⟨h1, rfl, rfl⟩ := e2
  refine WE_of (pe_tup (pa_W X es)) ?_
  refine ha B G H τ σ ρ ρ1 ds _ hl e1 ok fun vs G1 H1 l1 x1 k1 v1 => ⟨by rw [v1.length]; exact lim_le h1, fun p hp => ?_⟩
  exact q _ _ _ l1 (x1.trans (ex_new (k1.freshG hp))) (k1.newT hp v1)
theorem se_lst (ha : SA X cl es ca) : SE X cl (.List es pos) (.lst ca) := by
  intro B G H τ σ ρ ρ' r Q hl he ok q
  simp only [ev, bind, Option.bind_eq_some_iff, Prod.exists] at he
  obtain ⟨ds, ρ1, e1, e2⟩ := he
  simp only [Option.ite_none_right_eq_some, Option.some.injEq, Prod.mk.injEq] at e2
  obtain ⟨h1, rfl, rfl⟩ := e2
  refine WE_of (pe_lst (pa_W X es)) ?_
  refine ha B G H τ σ ρ ρ1 ds _ hl e1 ok fun vs G1 H1 l1 x1 k1 v1 => ⟨by rw [v1.length]; exact lim_le h1, fun p hp => ?_⟩
  exact q _ _ _ l1 x1 (k1.newL hp v1)
/-- a bound of a slice -/
inductive SP (X : Cx) (cl : Calls) : Option Expr → CE → Prop
  | none : SP X cl none (.k .none)
  | some {e : Expr} {c : CE} (hn : ∀ d, bnd c d ≠ some none) (h : SD X cl e c) : SP X cl (some e) c
theorem bnd_some {c : CE} {d : PyData} {i : Option Int} (hn : ∀ d, bnd c d ≠ some none) (h : bnd c d = some i) : ∃ j, d = .int j ∧ i = some j := by
  unfold bnd at h
  split at h
  · simp only [Option.some.injEq] at h
    subst h
    exact absurd rfl (hn .none)
  · simp only [Option.some.injEq] at h
    exact ⟨_, rfl, h.symm⟩
  · cases h
theorem sp_ok {oe : Option Expr} (h : SP X cl oe c) : ∃ t, PO X oe t ∧ ∀ (B : Fr) (G H : Hp) (τ : List Ent) (σ : L2.St) (ρ ρ' : PEnv) (r : Sl) (o : Option Int) (Q : Option Int → Hp → Prop), σ.length = ρ.length → ev cl c ρ = some (r, ρ') → (toD r).bind (bnd c) = some o →
    Ok X.K B G (τ ++ σ.zip ρ) H → (∀ G' H', ρ'.length = ρ.length → Ex G G' → Ok X.K B G' (τ ++ σ.zip ρ') H' → Q o H') → t σ H Q := by
  cases h with
  | none =>
    refine ⟨_, po_none, fun B G H τ σ ρ ρ' r o Q hl he hd ok q => ?_⟩
    simp only [ev, Option.some.injEq, Prod.mk.injEq] at he
    obtain ⟨rfl, rfl⟩ := he
    simp only [toD, Option.bind_some, bnd, Option.some.injEq] at hd
    subst hd
    exact q G H rfl (Evl.Ex.refl G) ok
  | some hn h =>
    refine ⟨_, po_some (pe_W X _), fun B G H τ σ ρ ρ' r o Q hl he hd ok q => ?_⟩
    obtain ⟨d, h1, h2⟩ := Option.bind_eq_some_iff.mp hd
    obtain ⟨j, rfl, rfl⟩ := bnd_some hn h2
    refine h B G H τ σ ρ ρ' r _ _ hl he h1 ok fun v G' H' l eg k rv => ?_
    cases rv
    exact ⟨_, rfl, q G' H' l eg k⟩
theorem se_sl {lo hi : Option Expr} {p2 : Pos} {cl' ch : CE} (ha : SD X cl a ca) (h1 : SP X cl lo cl') (h2 : SP X cl hi ch) : SE X cl (.Subscript a (.Slice lo hi none p2) pos) (.sl ca cl' ch) := by
  intro B G H τ σ ρ ρ' r Q hl he ok q
  simp only [ev, bind, Option.bind_eq_some_iff, Option.some.injEq, Prod.exists, Prod.mk.injEq] at he
  obtain ⟨r1, ρ1, e1, d1, t1, r2, ρ2, e2, o2, t2, r3, ρ3, e3, o3, t3, z, e4, rfl, rfl⟩ := he
  obtain ⟨tl, p1, w1⟩ := sp_ok h1
  obtain ⟨th, p2, w2⟩ := sp_ok h2
  refine WE_of (pe_slice sl_any (pe_W X a) p1 p2) ?_
  refine ha B G H τ σ ρ ρ1 r1 d1 _ hl e1 t1 ok fun v G1 H1 l1 x1 k1 v1 => ?_
  refine w1 B G1 H1 τ σ ρ1 ρ2 r2 o2 _ (by omega) e2 (Option.bind_eq_some_iff.mpr t2) k1 fun G2 H2 l2 x2 k2 => ?_
  refine w2 B G2 H2 τ σ ρ2 ρ3 r3 o3 _ (by omega) e3 (Option.bind_eq_some_iff.mpr t3) k2 fun G3 H3 l3 x3 k3 => ?_
  exact slice_ok d1 o2 o3 e4 k3 (((v1.mono x2).mono x3).one k3.sub) fun v' G' H' eg k' => q v' G' H' (by omega) (((x1.trans x2).trans x3).trans eg) k'
theorem se_slv {i : Nat} {lo hi : Option Expr} {p2 : Pos} {cl' ch : CE} (hN : X.N[i]? = some x) (hv : Vis X.env.scope x) (hd : (x == ("__debug__" : Str)) = false) (hcd : (x == ("__classdict__" : Str)) = false) (h1 : SP X cl lo cl') (h2 : SP X cl hi ch) :
    SE X cl (.Subscript (.Name x p) (.Slice lo hi none p2) pos) (.slv i cl' ch) := by
  intro B G H τ σ ρ ρ' r Q hl he ok q
  simp only [ev, bind, Option.bind_eq_some_iff, Option.some.injEq, Prod.exists, Prod.mk.injEq] at he
  obtain ⟨d0, e0, r2, ρ2, e2, o2, t2, r3, ρ3, e3, o3, t3, d1, e5, z, e4, rfl, rfl⟩ := he
  obtain ⟨tl, p1, w1⟩ := sp_ok h1
  obtain ⟨th, p2, w2⟩ := sp_ok h2
  obtain ⟨v, s0, _⟩ := peek_ok hl ok e0
  refine WE_of (pe_slice sl_any (pe_var hN hv hd hcd) p1 p2) ⟨v, s0, ?_⟩
  refine w1 B G H τ σ ρ ρ2 r2 o2 _ hl e2 (Option.bind_eq_some_iff.mpr t2) ok fun G2 H2 l2 x2 k2 => ?_
  refine w2 B G2 H2 τ σ ρ2 ρ3 r3 o3 _ (by omega) e3 (Option.bind_eq_some_iff.mpr t3) k2 fun G3 H3 l3 x3 k3 => ?_
  obtain ⟨v', s1, v1⟩ := peek_ok (by omega) k3 e5
  rw [s0] at s1
  cases s1
  exact slice_ok d1 o2 o3 e4 k3 v1 fun v' G' H' eg k' => q v' G' H' (by omega) ((x2.trans x3).trans eg) k'
theorem se_slsc {i : Nat} {lo hi : Option Expr} {p2 : Pos} {cl' ch : CE} (hN : X.N[i]? = some x) (hv : Vis X.env.scope x) (hd : (x == ("__debug__" : Str)) = false) (hcd : (x == ("__classdict__" : Str)) = false) (h1 : SP X cl lo cl') (h2 : SP X cl hi ch) :
    SE X cl (.Subscript (.Name x p) (.Slice lo hi none p2) pos) (.slsc i cl' ch) := by
  intro B G H τ σ ρ ρ' r Q hl he ok q
  obtain ⟨tl, p1, w1⟩ := sp_ok h1
  obtain ⟨th, p2, w2⟩ := sp_ok h2
  simp only [ev] at he
  split at he
  · rename_i ns ens
    simp only [bind, Option.bind_eq_some_iff, Prod.exists] at he
    obtain ⟨r2, ρ2, e2, o2, t2, r3, ρ3, e3, o3, t3, e4⟩ := he
    split at e4
    · rename_i ms ems
      simp only [Option.map_eq_some_iff, Prod.mk.injEq] at e4
      obtain ⟨z, e5, rfl, rfl⟩ := e4
      obtain ⟨v, s0, en⟩ := zget (τ := τ) hl ens
      obtain ⟨a0, ea, sa⟩ := ok.ent _ _ en
      have ea' : v = some (.ref a0) := ea
      subst ea'
      refine WE_of (pe_slice sl_any (pe_var hN hv hd hcd) p1 p2) ⟨_, s0, ?_⟩
      refine w1 B G H τ σ ρ ρ2 r2 o2 _ hl e2 (Option.bind_eq_some_iff.mpr t2) ok fun G2 H2 l2 x2 k2 => ?_
      refine w2 B G2 H2 τ σ ρ2 ρ3 r3 o3 _ (by omega) e3 (Option.bind_eq_some_iff.mpr t3) k2 fun G3 H3 l3 x3 k3 => ?_
      obtain ⟨v', s1, en'⟩ := zget (σ := σ) (τ := τ) (by omega) ems
      rw [s0] at s1
      cases s1
      obtain ⟨a1, ea1, sa1⟩ := k3.ent _ _ en'
      cases ea1
      exact slice_sc o2 o3 e5 k3 sa1 fun v' G' H' eg k' => q v' G' H' (by omega) ((x2.trans x3).trans eg) k'
    · cases e4
  · cases he
end
end PP
namespace PP
open PySem L2 PySem.Spec PyProof.Rows
/-! ### calls of defs -/
def isIo : Sl → Bool
  | .io _ => true
  | _ => false
def giveBack : Sl → List PyData → Sl
  | .ow _, l => .ow l
  | _, l => .io l
/-- the entries of the arguments -/
def argE (vs : List V) (as : List Sl) : List Ent := (vs.map some).zip as
/-- the lent list, given back -/
def backL (vs : List V) : Option (List PyData) → List Ent
  | some l => [(vs.head?, .io l)]
  | none => []
/-- what a def promises: it does what the pure one does -/
def spF (K : PySem.W.Frag) (cl : Calls) (f n : Nat) : Sp := fun vs H Q _ => vs.length = n ∧ ∃ (B : Fr) (as : List Sl) (r : Sl) (o : Option (List PyData)), vs.length = as.length ∧ B.H0 = H ∧
  (∀ a, B.IO a ↔ ∃ l, as.head? = some (.io l) ∧ vs.head? = some (.ref a)) ∧ Ok K B B.G0 (argE vs as) H ∧ cl f as = some (r, o) ∧
  ∀ v G' H', Ok K B G' ((some v, r) :: backL vs o) H' → Q v H'
section
variable {K : PySem.W.Frag} {B C : Fr} {G G' H H' : Hp} {L E : List Ent}
/-- the caller's slots behind a call that was lent nothing, or the list of slot n -/
theorem Ok.after (h : Ok K B G L H) (hH : C.H0 = H) (hG : C.G0 = G) (h' : Ok K C G' E H') (hio : ∀ a, C.IO a → ∀ (n : Nat) (p : Ent), L[n]? = some p → ownA p ≠ some a) (hi2 : ∀ a, C.IO a → B.H0 a = none ∨ B.IO a) (hi3 : ∀ a, C.IO a → H a ≠ none) (hi4 : ∀ a, C.IO a → G a = none) : Ok K B G' L H' := by
  subst hH hG
  refine ⟨fun a o e i => ?_, h'.sub, fun a o e => ?_, h.g0.trans h'.g0, fun a i => ?_, fun n p e => ?_, h.dis⟩
  · by_cases c : C.IO a
    · rcases hi2 a c with z | z
      · rw [z] at e
        cases e
      · exact absurd z i
    · exact h'.fr a o (h.fr a o e i) c
  · rcases h'.gn a o e with z | z
    · exact h.gn a o z
    · exact .inr (h.fresh0 z)
  · cases e : C.H0 a with
    | none => exact absurd e (h.ios a i)
    | some o =>
      by_cases c : C.IO a
      · exact h'.ios a c
      · rw [h'.fr a o e c]
        simp
  · have k := h.ent n p e
    refine k.stay h'.g0 (fun a oa => ?_) (fun a o oa ha => ?_)
    · cases eg : G' a with
      | none => rfl
      | some o =>
        have w := k.own_of oa
        rcases h'.gn a o eg with z | z
        · rw [w.1] at z
          cases z
        · exact absurd z w.2
    · exact h'.fr a o ha fun c => hio a c n p e oa
/-- what a call gives -/
theorem Ok.result {v : V} {r : Sl} (h : Ok K B G' L H') (ho : ∀ (n : Nat) (p : Ent) (a : Addr), L[n]? = some p → ownA p = some a → C.H0 a ≠ none) (h' : Ok K C G' ((some v, r) :: E) H') (hr : okR r = true) (hf : ∀ a, C.H0 a = none → B.H0 a = none) : Ok K B G' ((some v, r) :: L) H' := by
  have k := h'.head
  cases r with
  | un => cases hr
  | io l => cases hr
  | sc l => cases hr
  | sh d => exact h.consR h'.rep
  | ow l =>
    obtain ⟨a, vs, e, h0, h1, h2, h3⟩ := k
    cases e
    refine h.consO (a := a) ⟨a, vs, rfl, hf a h0, h1, h2, h3⟩ rfl fun n p e o => ho n p a e o h0
  | od m =>
    obtain ⟨a, o, e, h0, h1, h2, h3⟩ := k
    cases e
    refine h.consO (a := a) ⟨a, o, rfl, hf a h0, h1, h2, h3⟩ rfl fun n p e o => ho n p a e o h0
end
/-- the def at f as it may be called here, j defaults written out: dvs -/
structure Callable (X : Cx) (cl : Calls) (x : Str) (f : Nat) (n : Nat) (dvs : List PyData) : Prop where
  ex : ∃ (k : Nat) (a : Addr) (fd : FuncData) (ps : List Str) (vs : List V) (ds : List Value), FnOk X.prog X.w X.K X.mg X.base CX0 k a fd ps (spF X.K cl f n) ∧ Room k X.A ∧ X.mg x = some (.ref a) ∧ PySem.W.keepIn X.K (.ref a) = true ∧ Binds X.K fd ps ds ∧ Vals vs ds ∧ ∀ G, Reps X.K G vs dvs
/-- how the written arguments and the defaults come together -/
def kL : List PyData → CE
  | [] => .nil
  | d :: ds => .cons (.k d) (kL ds)
def appC : CE → CE → CE
  | .nil, t => t
  | .cons a b, t => .cons a (appC b t)
  | c, _ => c
section
variable {X : Cx} {cl : Calls} {e a b : Expr} {es : List Expr} {c ca cb cc : CE} {pos p : Pos} {x : Str}
theorem evA_kL : ∀ (ds : List PyData) (ρ : PEnv), evA cl (kL ds) ρ = some (ds, ρ)
  | [], ρ => by simp only [kL, evA]
  | d :: ds, ρ => by simp only [kL, evA, ev, bind, Option.bind_some, toD, evA_kL ds ρ]
theorem evA_app {ds : List PyData} : ∀ {c : CE} {ρ ρ' : PEnv} {es : List PyData}, evA cl (appC c (kL ds)) ρ = some (es, ρ') → ∃ es', evA cl c ρ = some (es', ρ') ∧ es = es' ++ ds := by
  intro c
  induction c with
  | nil =>
    intro ρ ρ' es h
    simp only [appC, evA_kL, Option.some.injEq, Prod.mk.injEq] at h
    obtain ⟨rfl, rfl⟩ := h
    exact ⟨[], by simp only [evA], rfl⟩
  | cons a b iha ihb =>
    intro ρ ρ' es h
    simp only [appC, evA, bind, Option.bind_eq_some_iff, Option.some.injEq, Prod.exists, Prod.mk.injEq] at h
    obtain ⟨r, ρ1, e1, d, e2, ds', ρ2, e3, rfl, rfl⟩ := h
    obtain ⟨es', h1, rfl⟩ := ihb e3
    refine ⟨d :: es', ?_, rfl⟩
    simp only [evA, bind, e1, Option.bind_some, e2, h1]
  | _ =>
    intro ρ ρ' es h
    simp only [appC, evA] at h
    cases h
theorem argE_sh : ∀ {vs : List V} {ds : List PyData} {K : PySem.W.Frag} {G : Hp}, Reps K G vs ds → ∀ (n : Nat) (p : Ent), (argE vs (ds.map Sl.sh))[n]? = some p → ∃ v d, p = (some v, .sh d) ∧ Rep K G v d
  | _, _, _, _, .nil, n, p, h => by
    simp [argE] at h
  | _, _, _, _, .cons r rs, 0, p, h => by
    simp [argE] at h
    subst h
    exact ⟨_, _, rfl, r⟩
  | _, _, _, _, .cons r rs, n + 1, p, h => argE_sh rs n p (by simpa [argE] using h)
/-- the callee's frame, nothing lent -/
theorem ok_args {K : PySem.W.Frag} {B : Fr} {G H : Hp} {L : List Ent} {vs : List V} {ds : List PyData} (h : Ok K B G L H) (r : Reps K G vs ds) : Ok K ⟨G, H, fun _ => False⟩ G (argE vs (ds.map Sl.sh)) H := by
  refine ⟨fun a o e _ => e, h.sub, fun a o e => .inl e, Evl.Ex.refl G, fun a i => i.elim, fun n p e => ?_, fun m n p q a e1 e2 o1 o2 => ?_⟩
  · obtain ⟨v, d, rfl, rv⟩ := argE_sh r n p e
    exact ⟨v, rfl, rv⟩
  · obtain ⟨v, d, rfl, _⟩ := argE_sh r m p e1
    rw [ownA_sh] at o1
    cases o1
theorem head_sh {ds : List PyData} {l : List PyData} : (ds.map Sl.sh).head? ≠ some (.io l) := by
  cases ds <;> simp
/-- a call: the callee's promise from the caller's slots -/
theorem call_ok {f n : Nat} {B : Fr} {G H : Hp} {L : List Ent} {vs : List V} {ds : List PyData} {r : Sl} {o : Option (List PyData)} {Q : VK} (h : Ok X.K B G L H) (rv : Reps X.K G vs ds) (hn : vs.length = n) (hc : cl f (ds.map Sl.sh) = some (r, o)) (hr : okR r = true)
    (q : ∀ v G' H', Ex G G' → Ok X.K B G' ((some v, r) :: L) H' → Q v H') {E : XK} : spF X.K cl f n vs H Q E := by
  refine ⟨hn, ⟨G, H, fun _ => False⟩, ds.map Sl.sh, r, o, ?_, rfl, fun a => ⟨fun z => z.elim, fun z => z.elim fun l z => absurd z.1 head_sh⟩, ok_args h rv, hc, fun v G' H' k => ?_⟩
  · rw [List.length_map]
    exact rv.length
  · have k2 := h.after (C := ⟨G, H, fun _ => False⟩) rfl rfl k (fun _ z => z.elim) (fun _ z => z.elim) (fun _ z => z.elim) (fun _ z => z.elim)
    exact q v G' H' k.g0 (k2.result (C := ⟨G, H, fun _ => False⟩) (fun n p a e oa => (h.ent n p e |>.own_of oa).2) k hr fun a e => h.fresh0 e)
/-- .. and a list lent: slot i -/
theorem callm_ok {f n i : Nat} {B : Fr} {G H : Hp} {τ : List Ent} {σ : L2.St} {ρ : PEnv} {v0 : V} {vs : List V} {ds : List PyData} {s : Sl} {l l' : List PyData} {r : Sl} {Q : VK} (hl : σ.length = ρ.length) (h : Ok X.K B G (τ ++ σ.zip ρ) H) (hs : ρ[i]? = some s) (hk : s = .ow l ∨ s = .io l) (h0 : σ[i]? = some (some v0)) (rv : Reps X.K G vs ds)
    (hn : (v0 :: vs).length = n) (hc : cl f (.io l :: ds.map Sl.sh) = some (r, some l')) (hr : okR r = true)
    (q : ∀ v G' H', Ex G G' → Ok X.K B G' ((some v, r) :: (τ ++ σ.zip (ρ.set i (giveBack s l')))) H' → Q v H') {E : XK} : spF X.K cl f n (v0 :: vs) H Q E := by
  obtain ⟨v', s0, en⟩ := zget (τ := τ) hl hs
  rw [h0] at s0
  cases s0
  have ke := h.ent _ _ en
  -- the lent list
  obtain ⟨a, xs, hv, ha, hG, hH, hR, hI⟩ : ∃ a xs, v0 = .ref a ∧ ownA (some v0, s) = some a ∧ G a = none ∧ H a = some (.lst xs) ∧ Reps X.K G xs l ∧ (B.H0 a = none ∨ B.IO a) := by
    rcases hk with rfl | rfl
    · obtain ⟨a, xs, e, h1, h2, h3, h4⟩ := ke
      cases e
      exact ⟨a, xs, rfl, rfl, h2, h3, h4, .inl h1⟩
    · obtain ⟨a, xs, e, h1, h2, h3, h4⟩ := ke
      cases e
      exact ⟨a, xs, rfl, rfl, h2, h3, h4, .inr h1⟩
  subst hv
  let C : Fr := ⟨G, H, fun b => b = a⟩
  have hargs : Ok X.K C G (argE (.ref a :: vs) (.io l :: ds.map Sl.sh)) H := by
    have e1 : argE (.ref a :: vs) (.io l :: ds.map Sl.sh) = (some (.ref a), .io l) :: argE vs (ds.map Sl.sh) := rfl
    rw [e1]
    have base : Ok X.K C G (argE vs (ds.map Sl.sh)) H := by
      have k := ok_args h rv
      exact ⟨fun b o e _ => e, h.sub, fun b o e => .inl e, Evl.Ex.refl G, fun b z => by
        have z' : b = a := z
        subst z'
        rw [hH]
        simp, fun n p e => by
          obtain ⟨v, d, rfl, rv'⟩ := argE_sh rv n p e
          exact ⟨v, rfl, rv'⟩, k.dis⟩
    refine base.consO (a := a) ⟨a, xs, rfl, rfl, hG, hH, hR⟩ rfl fun n p e o => ?_
    obtain ⟨v, d, rfl, _⟩ := argE_sh rv n p e
    rw [ownA_sh] at o
    cases o
  have hio : ∀ b, C.IO b ↔ ∃ m, (Sl.io l :: ds.map Sl.sh).head? = some (.io m) ∧ (V.ref a :: vs).head? = some (.ref b) := fun b => by
    constructor
    · intro z
      have z' : b = a := z
      subst z'
      exact ⟨l, rfl, rfl⟩
    · intro z
      obtain ⟨m, h1, h2⟩ := z
      simp at h2
      exact h2.symm
  refine ⟨hn, C, _, r, some l', by simp [rv.length], rfl, hio, hargs, hc, fun v G' H' k => ?_⟩
  · -- back: slot i empty, the rest as it was
    have hi : i < ρ.length := (List.getElem?_eq_some_iff.mp hs).1
    have u := h.setU (n := τ.length + i) (p' := (some (.ref a), .un)) trivial (ownA_un _)
    have apart : ∀ (n : Nat) (p : Ent), ((τ ++ σ.zip ρ).set (τ.length + i) (some (.ref a), .un))[n]? = some p → ownA p ≠ some a := fun n p e o => by
      by_cases z : n = τ.length + i
      · subst z
        rw [List.getElem?_set_self (List.getElem?_eq_some_iff.mp en).1] at e
        cases e
        rw [ownA_un] at o
        cases o
      · rw [List.getElem?_set_ne (Ne.symm z)] at e
        exact z (h.dis _ _ _ _ a e en o ha)
    have k2 := u.after (C := C) rfl rfl k (fun b z n p e o => by
      have z' : b = a := z
      subst z'
      exact apart n p e o) (fun b z => by
      have z' : b = a := z
      subst z'
      exact hI) (fun b z => by
      have z' : b = a := z
      subst z'
      rw [hH]
      simp) (fun b z => by
      have z' : b = a := z
      subst z'
      exact hG)
    -- the list comes back
    have kb := k.tail.head
    obtain ⟨a', ys, e', c1, c2, c3, c4⟩ := kb
    have ea : a' = a := by
      have : (some (V.ref a) : Option V) = some (.ref a') := e'
      cases this
      rfl
    subst ea
    let s' : Sl := giveBack s l'
    have es' : ownA (some (.ref a'), s') = some a' ∧ EntOk X.K B G' H' (some (.ref a'), s') := by
      rcases hk with rfl | rfl
      · refine ⟨rfl, a', ys, rfl, ?_, c2, c3, c4⟩
        obtain ⟨a2, xs2, e2, h1, _⟩ := ke
        cases e2
        exact h1
      · refine ⟨rfl, a', ys, rfl, ?_, c2, c3, c4⟩
        obtain ⟨a2, xs2, e2, h1, _⟩ := ke
        cases e2
        exact h1
    have k3 : Ok X.K B G' ((some (.ref a'), s') :: ((τ ++ σ.zip ρ).set (τ.length + i) (some (.ref a'), .un))) H' := k2.consO es'.2 es'.1 apart
    have k4 := k3.setH (n := τ.length + i)
    rw [List.set_set, zset h0] at k4
    refine q v G' H' k.g0 (k4.result (C := C) (fun n p b e ob => ?_) k hr fun b e => ?_)
    · by_cases z : n = τ.length + i
      · subst z
        have e9 : (τ ++ σ.zip (ρ.set i s'))[τ.length + i]? = some (some (.ref a'), s') := by
          rw [← zset h0, List.getElem?_set_self (List.getElem?_eq_some_iff.mp en).1]
        rw [e9] at e
        cases e
        rw [es'.1] at ob
        cases ob
        show H a' ≠ none
        rw [hH]
        simp
      · rw [← zset h0, List.getElem?_set_ne (Ne.symm z)] at e
        exact (h.ent n p e |>.own_of ob).2
    · exact h.fresh0 e
theorem se_call {f n : Nat} {dvs : List PyData} (hne : es ≠ []) (hC : Callable X cl x f n dvs) (hok : ∀ as r o, cl f as = some (r, o) → okR r = true ∧ as.length = n) (hg : Gl X x) (hdb : (x == ("__debug__" : Str)) = false) (hs : es.all notStar = true) (ha : SA X cl es ca) :
    SE X cl (.Call (.Name x p) es [] pos) (.call f (appC ca (kL dvs))) := by
  intro B G H τ σ ρ ρ' r Q hl he ok q
  simp only [ev, bind, Option.bind_eq_some_iff, Option.some.injEq, Prod.exists, Prod.mk.injEq] at he
  obtain ⟨ds, ρ1, e1, r', o, e2, rfl, rfl⟩ := he
  obtain ⟨ds', e3, rfl⟩ := evA_app e1
  obtain ⟨k, a, fd, ps, vs, dv, F, hr, hm, hk, hb, hv, hrep⟩ := hC.ex
  have main : tCall (spF X.K cl f n) vs E0 (WA X es) σ H Q := by
    refine ha B G H τ σ ρ ρ1 ds' _ hl e3 ok fun us G1 H1 l1 x1 k1 v1 => ?_
    have rr := v1.append (hrep G1)
    obtain ⟨h1, h2⟩ := hok _ _ _ e2
    rw [List.length_map] at h2
    exact call_ok k1 rr (rr.length.trans h2) e2 h1 fun v G' H' eg k => q v G' H' l1 (x1.trans eg) k
  cases es with
  | nil => exact absurd rfl hne
  | cons e es =>
    rw [List.all_cons, Bool.and_eq_true] at hs
    exact WE_of (pe_call F hr hg hm hk hb hv pass0 (pa_W X (e :: es)) hdb (star_cons hs.1) (star_plain hs.2)) main
/-- f(state, ..): slot i lent -/
theorem se_callm {f n i : Nat} {y : Str} {p2 : Pos} {dvs : List PyData} (hN : X.N[i]? = some y) (hv : Vis X.env.scope y) (hd : (y == ("__debug__" : Str)) = false) (hcd : (y == ("__classdict__" : Str)) = false) (hC : Callable X cl x f n dvs) (hok : ∀ as r o, cl f as = some (r, o) → okR r = true ∧ as.length = n) (hg : Gl X x) (hdb : (x == ("__debug__" : Str)) = false) (hs : es.all notStar = true) (ha : SA X cl es ca) :
    SE X cl (.Call (.Name x p) (.Name y p2 :: es) [] pos) (.callm f i (appC ca (kL dvs))) := by
  intro B G H τ σ ρ ρ' r Q hl he ok q
  simp only [ev, bind, Option.bind_eq_some_iff, Prod.exists] at he
  obtain ⟨d0, e0, ds, ρ1, e1, e2⟩ := he
  obtain ⟨ds', e3, rfl⟩ := evA_app e1
  obtain ⟨k, a, fd, ps, vs, dv, F, hr, hm, hk, hb, hv', hrep⟩ := hC.ex
  obtain ⟨v0, s0, _⟩ := peek_ok hl ok e0
  refine WE_of (pe_call F hr hg hm hk hb hv' pass0 (pa_cons (pe_var hN hv hd hcd) (pa_W X es) (star_cons rfl)) hdb (star_cons rfl) (star_plain hs)) ⟨v0, s0, ?_⟩
  refine ha B G H τ σ ρ ρ1 ds' _ hl e3 ok fun us G1 H1 l1 x1 k1 v1 => ?_
  have rr := v1.append (hrep G1)
  split at e2
  · rename_i l es'
    simp only [Option.bind_eq_some_iff, Option.some.injEq, Prod.exists, Prod.mk.injEq] at e2
    obtain ⟨r', o, e4, l', rfl, rfl, rfl⟩ := e2
    obtain ⟨h1, h2⟩ := hok _ _ _ e4
    refine callm_ok (hl.trans l1.symm) k1 es' (.inl rfl) s0 rr ?_ e4 h1 fun v G' H' eg k => q v G' H' (by simp; omega) (x1.trans eg) k
    rw [List.length_cons, rr.length]
    simpa using h2
  · rename_i l es'
    simp only [Option.bind_eq_some_iff, Option.some.injEq, Prod.exists, Prod.mk.injEq] at e2
    obtain ⟨r', o, e4, l', rfl, rfl, rfl⟩ := e2
    obtain ⟨h1, h2⟩ := hok _ _ _ e4
    refine callm_ok (hl.trans l1.symm) k1 es' (.inr rfl) s0 rr ?_ e4 h1 fun v G' H' eg k => q v G' H' (by simp; omega) (x1.trans eg) k
    rw [List.length_cons, rr.length]
    simpa using h2
  · cases e2
/-- f(script) -/
theorem se_callsc {f i : Nat} {y : Str} {p2 : Pos} (hN : X.N[i]? = some y) (hv : Vis X.env.scope y) (hd : (y == ("__debug__" : Str)) = false) (hcd : (y == ("__classdict__" : Str)) = false) (hC : Callable X cl x f 1 []) (hok : ∀ as r o, cl f as = some (r, o) → okR r = true ∧ as.length = 1) (hg : Gl X x) (hdb : (x == ("__debug__" : Str)) = false) :
    SE X cl (.Call (.Name x p) [.Name y p2] [] pos) (.callsc f i) := by
  intro B G H τ σ ρ ρ' r Q hl he ok q
  simp only [ev] at he
  split at he
  · rename_i ns ens
    simp only [bind, Option.bind_eq_some_iff, Option.some.injEq, Prod.exists, Prod.mk.injEq] at he
    obtain ⟨r', o, e2, rfl, rfl⟩ := he
    obtain ⟨k, a, fd, ps, vs, dv, F, hr, hm, hk, hb, hv', hrep⟩ := hC.ex
    cases hrep G
    obtain ⟨v0, s0, en⟩ := zget (τ := τ) hl ens
    obtain ⟨a0, rfl, sa⟩ := ok.ent _ _ en
    refine WE_of (pe_call F hr hg hm hk hb hv' pass0 (pa_cons (pe_var hN hv hd hcd) pa_nil (star_cons rfl)) hdb (star_cons rfl) rfl) ⟨.ref a0, s0, ?_⟩
    have hargs : Ok X.K ⟨G, H, fun _ => False⟩ G (argE [.ref a0] [.sc ns]) H := by
      refine ⟨fun a o e _ => e, ok.sub, fun a o e => .inl e, Evl.Ex.refl G, fun a i => i.elim, fun n p e => ?_, fun m n p q a e1 e2 o1 o2 => ?_⟩
      · cases n with
        | zero =>
          simp [argE] at e
          subst e
          exact ⟨a0, rfl, sa⟩
        | succ n => simp [argE] at e
      · cases m with
        | zero =>
          simp [argE] at e1
          subst e1
          simp [ownA] at o1
        | succ m => simp [argE] at e1
    refine ⟨rfl, ⟨G, H, fun _ => False⟩, [.sc ns], r', o, rfl, rfl, fun a => ⟨fun z => z.elim, fun z => z.elim fun l z => by simp at z⟩, hargs, e2, fun v G' H' k => ?_⟩
    have k2 := ok.after (C := ⟨G, H, fun _ => False⟩) rfl rfl k (fun _ z => z.elim) (fun _ z => z.elim) (fun _ z => z.elim) (fun _ z => z.elim)
    exact q v G' H' rfl k.g0 (k2.result (C := ⟨G, H, fun _ => False⟩) (fun n p a e oa => (ok.ent n p e |>.own_of oa).2) k (hok _ _ _ e2).1 fun a e => ok.fresh0 e)
  · cases he
end
end PP
namespace PP
open PySem L2 PySem.Spec PyProof.Rows
/-! ### enumerate of a tuple -/
set_option maxHeartbeats 4000000 in
theorem enumNew1 {v : Value} {ob : Obj} {Hh : Heap → Prop} (Bg : Begins v ob Hh) :
    Meets (Builtin.«enumerate.__new__» ⟨[.type "enumerate", v], []⟩) (fun _ R st => Hh st.heap ∧
      R (.ok (.ret (.ref (st.heap.push ob).objs.size))) { st with heap := (st.heap.push ob).push { cls := .type "enumerate", data := .fields #[.none, .bool false, .ref st.heap.objs.size, rawInt 0, .none, .none] } }) :=
  .of_wp fun prog w A R st hyp => by
    obtain ⟨hp, g, d, tk, os⟩ := st
    obtain ⟨hyp1, hyp⟩ := hyp
    have hs0 := sub_enumerate
    have go : ∀ {A' : Around} {E : Value → Shared → Prop} {Q : Value → Shared → Prop}, Q (.ref hp.objs.size) ⟨hp.push ob, g, d, tk, os⟩ → wpAny (model prog w) A' (pyIter v) Q E ⟨hp, g, d, tk, os⟩ := fun q => Bg.iter prog w _ _ ⟨hp, g, d, tk, os⟩ _ hyp1 q
    wp_walk using go
    refine wpAny_stack_any fun z => wpAny_pure ?_
    split
    · rename_i c _ _ _ _ _
      cases (c == Value.type "enumerate") <;> (wp_walk using go; exact ⟨_, rfl, hyp⟩)
    · wp_walk using go
      exact ⟨_, rfl, hyp⟩
theorem enum_call {prog : Program} {w : World} {A : Around} {E : Value → Shared → Prop} {s : Shared} {v : Value} {ob : Obj} {Hh : Heap → Prop} {Q : Value → Shared → Prop} (Bg : Begins v ob Hh) (hb : Hh s.heap)
    (h : ∀ h', IsEnum h' (s.heap.objs.size + 1) s.heap.objs.size 0 .none → h'.get? s.heap.objs.size = some ob → (∀ b o, s.heap.get? b = some o → h'.get? b = some o) → Q (.ref (s.heap.objs.size + 1)) { s with heap := h' }) :
    wpAny (model prog w) A (call (.type "enumerate") [v]) Q E s := by
  have hz : (s.heap.push ob).objs.size = s.heap.objs.size + 1 := Heap.size_push ..
  have he := Heap.get?_push_size (s.heap.push ob) (o := { cls := .type "enumerate", data := .fields #[.none, .bool false, .ref s.heap.objs.size, rawInt 0, .none, .none] }) rfl
  refine callType_new F.called_enumerate (by decide) (F.typeCall_enumerate_1 _) (F.newCall_enumerate_1 _) (fun obj => F.args_object_init_2 obj _) F.entry_enumerate_new (enumNew1 Bg) ⟨hb, ?_⟩
  show _ ∧ _
  rw [hz] at he ⊢
  exact ⟨⟨_, he, rfl⟩, h _ he (Heap.get?_push_of_some _ (Heap.get?_push_size _ Bg.free)) fun b o x => Heap.get?_push_of_some _ (Heap.get?_push_of_some _ x)⟩
/-- the tuple at a, each item in a new pair with its number -/
def IteT (K : PySem.W.Frag) (a : Addr) : It :=
  ⟨fun i H => ∃ (ys : List V) (y : V), SqT K H a ys ∧ ys[i]? = some y, fun i H v H' => ∃ T y, v = .ref T ∧ H T = none ∧ H' = L2.upd H T (.tup [.int (i : Nat), y]) ∧ ∀ ys, SqT K H a ys → ys[i]? = some y, fun i H => ∃ ys : List V, SqT K H a ys ∧ ys.length = i⟩
theorem turn_enumT {P : Program} {w : World} {K : PySem.W.Frag} {elts : List Expr} {kk : Nat} {tpos : Pos} (a e it : Addr) :
    Turn P w K (.Tuple elts kk tpos) (IteT K a) [e, it] e (fun i h => (∃ old, IsEnum h e it ((i : Nat) : Int) old) ∧ h.IsTupleIter it a i ∧ e ≠ it ∧ a ≠ it ∧ a ≠ e) where
  mem := List.mem_cons_self ..
  obj := fun i h st b hb => by
    obtain ⟨⟨old, he⟩, ⟨o, ho, hc, hd⟩, _⟩ := st
    rcases List.mem_cons.mp hb with z | z
    · subst z
      exact ⟨_, he, fun v q => nomatch q⟩
    · have z : b = it := by simpa using z
      subst z
      exact ⟨o, ho, fun v q => by rw [hd] at q; cases q⟩
  keep := fun i h h' st k => by
    obtain ⟨⟨old, he⟩, hi, n1, n2, n3⟩ := st
    exact ⟨⟨old, k e (by simp) _ he⟩, hi.at fun o q => k it (by simp) o q, n1, n2, n3⟩
  item := by
    intro X hP hw hK hc i pins s σ H E I hf st hg
    subst hP hw hK
    obtain ⟨⟨old, he⟩, hit, n1, n2, n3⟩ := st
    obtain ⟨ys, y, hq, hy⟩ := hg
    obtain ⟨its, rv, p, hz⟩ := I.tuple hq
    obtain ⟨u, hu, ru⟩ := rv.get hy
    have hel : e < s.heap.objs.size := Heap.lt_size he
    have hil : it < s.heap.objs.size := by
      obtain ⟨_, q, _⟩ := hit
      exact Heap.lt_size q
    have D := Draws.tuple (prog := X.prog) (w := X.w) (A := X.A.in1) (I.ok.hd hc) it a n2 its.toArray
    have hlt : i < its.toArray.size := by
      have := (List.getElem?_eq_some_iff.mp hu).1
      simpa using this
    refine wpAny_pyNext_enum_itemD D he ⟨hit, p⟩ hlt n1 (by simp [n1, Ne.symm n3]) fun x h' tk hP ho hs' hT hsz hk => ?_
    have ex : x = u := by
      have hx : its.toArray[i]? = some x := hP
      have hx2 : its[i]? = some x := by simpa using hx
      rw [hu] at hx2
      exact (Option.some.inj hx2).symm
    subst ex
    refine ⟨_, rfl, wpAny_letOwnedTupleGo_enum (s := { s with heap := h', toks := tk + 1 }) ho fun h'' he' sb => ?_⟩
    have hT2 := (sb.2 _ (Nat.ne_of_gt hel)).trans hT
    have new : ObjOk X.prog X.w (L2.upd H s.heap.objs.size (.tup [.int (i : Nat), y])) h'' s.heap.objs.size (.tup [.int (i : Nat), y]) :=
      ⟨by show 2 ≤ sizeLine; decide, [.int i tk, x], .cons ⟨_, rfl⟩ (.cons ru .nil), ⟨_, hT2, rfl, _, rfl⟩⟩
    have J : L2.Inv X pins σ (L2.upd H s.heap.objs.size (.tup [.int (i : Nat), y])) { s with heap := h'', toks := tk + 1 } :=
      I.turnedNew (ch := [e, it]) (fun b ob hb q => (sb.2 b (fun z => hb (by simp [z]))).trans (hk b ob (fun z => hb (by simp [z])) (fun z => hb (by simp [z])) q)) hf (Nat.le_refl _) new
    refine ⟨.ref s.heap.objs.size, _, J, rfl, ⟨_, y, rfl, I.hok.fresh (Nat.le_refl _), rfl, fun zs hz => by rw [I.tuple_inj hz hq]; exact hy⟩, ⟨⟨x, ?_⟩, hs'.1.at fun o q => (sb.2 it (Ne.symm n1)).trans q, n1, n2, n3⟩, fun b hb => ?_⟩
    · have e1 : ((i + 1 : Nat) : Int) = (i : Int) + 1 := by omega
      rw [e1]
      exact he'
    · have hb' : b < s.heap.objs.size := by
        rcases List.mem_cons.mp hb with z | z
        · rw [z]
          exact hel
        · have z : b = it := by simpa using z
          rw [z]
          exact hil
      rw [L2.upd_ne (Nat.ne_of_lt hb')]
      exact (hf b hb).1
  done := by
    intro X hP hw hK hc i pins s σ H E I hf st hg
    subst hP hw hK
    obtain ⟨⟨old, he⟩, hit, n1, n2, n3⟩ := st
    obtain ⟨ys, hq, hy⟩ := hg
    obtain ⟨its, rv, p, hz⟩ := I.tuple hq
    obtain ⟨f0, f1, f2, f3, f4, f5⟩ := hf it (by simp)
    have D := Draws.tuple (prog := X.prog) (w := X.w) (A := X.A.in1) (I.ok.hd hc) it a n2 its.toArray
    have hn : i = its.toArray.size := by
      have hl := rv.length
      simp
      omega
    subst hn
    exact wpAny_pyNext_enum_endD D he ⟨hit, p⟩ fun h' eb => ⟨rfl, I.turned (t' := s.toks) (fun b o hb q => eb b o hb q) f0 f1 f3 f4 f5⟩
  self := fun A i s Q E st h => by
    obtain ⟨⟨_, he⟩, _⟩ := st
    exact wpAny_pyIter_enum he h
end PP
namespace PP
open PySem L2 PySem.Spec PyProof.Rows
/-! ### targets -/
def WG (X : Cx) (tg : Expr) : TG := fun v σ H Q => ∀ (pins : List (Addr × Obj)) (s : Shared) (u : Value), Inv X pins σ H s → RelV v u → wpAny (model X.prog X.w) X.A (assign tg X.env u) (fun _ s' => ∃ σ' H', Inv X pins σ' H' s' ∧ Q σ' H') X.xe s
def WGs (X : Cx) (ts : List Expr) : TGs := fun vs σ H Q => ∀ (pins : List (Addr × Obj)) (s : Shared) (us : List Value), Inv X pins σ H s → Vals vs us → wpAny (model X.prog X.w) X.A (assignInOrder ((assignEach ts X.env).map (·.2)) us) (fun _ s' => ∃ σ' H', Inv X pins σ' H' s' ∧ Q σ' H') X.xe s
theorem pg_W (X : Cx) (e : Expr) : PG X e (WG X e) := ⟨fun pins s σ H v u Q I r h => h pins s u I r⟩
theorem pgs_W (X : Cx) (e : List Expr) : PGs X e (WGs X e) := ⟨fun pins s σ H v u Q I r h => h pins s u I r⟩
theorem WG_of {X : Cx} {e : Expr} {t : TG} (h : PG X e t) {v : V} {σ : L2.St} {H : Hp} {Q : L2.St → Hp → Prop} (q : t v σ H Q) : WG X e v σ H Q := fun pins s u I r => h.run pins s σ H v u Q I r q
theorem WGs_of {X : Cx} {e : List Expr} {t : TGs} (h : PGs X e t) {v : List V} {σ : L2.St} {H : Hp} {Q : L2.St → Hp → Prop} (q : t v σ H Q) : WGs X e v σ H Q := fun pins s u I r => h.run pins s σ H v u Q I r q
def tgS : Tg → List Nat
  | .nm i => [i]
  | .nil => []
  | .cons a b => tgS a ++ tgS b
  | .tp t => tgS t
  | .ix _ _ => []
theorem each_cons {e : Expr} {es : List Expr} {env : Env} (h : notStar e = true) : assignEach (e :: es) env = (false, assign e env) :: assignEach es env := by
  cases e <;> first
    | rfl
    | cases h
theorem each_len {env : Env} : ∀ {es : List Expr}, es.all notStar = true → (assignEach es env).length = es.length ∧ (assignEach es env).findIdx? (·.1) = none
  | [], _ => ⟨rfl, rfl⟩
  | e :: es, h => by
    rw [List.all_cons, Bool.and_eq_true] at h
    obtain ⟨h1, h2⟩ := each_len (env := env) h.2
    rw [each_cons h.1]
    refine ⟨by rw [List.length_cons, List.length_cons, h1], ?_⟩
    rw [List.findIdx?_cons]
    simp only [h2]
    rfl
def tgLen : Tg → Nat
  | .cons _ b => tgLen b + 1
  | _ => 0
theorem asgnL_len : ∀ {t : Tg} {ds : List PyData} {ρ ρ' : PEnv}, asgn.asgnL t ds ρ = some ρ' → ds.length = tgLen t := by
  intro t
  induction t with
  | nil =>
    intro ds ρ ρ' h
    cases ds with
    | nil => rfl
    | cons d ds => simp [asgn.asgnL] at h
  | cons a b iha ihb =>
    intro ds ρ ρ' h
    cases ds with
    | nil => simp [asgn.asgnL] at h
    | cons d ds =>
      simp only [asgn.asgnL, Option.bind_eq_some_iff] at h
      obtain ⟨ρ1, _, h2⟩ := h
      rw [List.length_cons, ihb h2]
      rfl
  | nm i =>
    intro ds ρ ρ' h
    simp [asgn.asgnL] at h
  | tp t ih =>
    intro ds ρ ρ' h
    simp [asgn.asgnL] at h
  | ix i k =>
    intro ds ρ ρ' h
    simp [asgn.asgnL] at h
/-- the target stores what asgn does; the slots that are not named stay -/
def SG (X : Cx) (tg : Expr) (t : Tg) : Prop := ∀ (B : Fr) (G H : Hp) (τ : List Ent) (σ : L2.St) (ρ ρ' : PEnv) (d : PyData) (v : V) (Q : L2.St → Hp → Prop), σ.length = ρ.length → asgn t d ρ = some ρ' → Ok X.K B G (τ ++ σ.zip ρ) H → Rep X.K G v d →
  (∀ σ' H', σ'.length = ρ'.length → ρ'.length = ρ.length → (∀ i, i ∉ tgS t → σ'[i]? = σ[i]?) → Ok X.K B G (τ ++ σ'.zip ρ') H' → Q σ' H') → WG X tg v σ H Q
def SGs (X : Cx) (ts : List Expr) (t : Tg) : Prop := ∀ (B : Fr) (G H : Hp) (τ : List Ent) (σ : L2.St) (ρ ρ' : PEnv) (ds : List PyData) (vs : List V) (Q : L2.St → Hp → Prop), σ.length = ρ.length → asgn.asgnL t ds ρ = some ρ' → Ok X.K B G (τ ++ σ.zip ρ) H → Reps X.K G vs ds →
  (∀ σ' H', σ'.length = ρ'.length → ρ'.length = ρ.length → (∀ i, i ∉ tgS t → σ'[i]? = σ[i]?) → Ok X.K B G (τ ++ σ'.zip ρ') H' → Q σ' H') → WGs X ts vs σ H Q
section
variable {X : Cx} {cl : Calls} {e a b : Expr} {es : List Expr} {c ca cb cc : CE} {pos p : Pos} {x : Str} {t t2 : Tg}
theorem sg_name {i : Nat} (hN : X.N.Nodup) (hi : X.N[i]? = some x) (hx : Loc X.env.scope x) (hf : X.fn x = true ∨ X.env.scope.names.lookup x = some .local) : SG X (.Name x pos) (.nm i) := by
  intro B G H τ σ ρ ρ' d v Q hl he ok rv q
  have e1 := put_eq (show put ρ i (.sh d) = some ρ' by simpa [asgn] using he)
  subst e1
  refine WG_of (pg_name hN hi hx hf) ?_
  refine q (σ.set i (some v)) H (by simp [hl]) (by simp) (fun j hj => ?_) (put_ok (ok.consR rv))
  have : i ≠ j := fun z => hj (by simp [tgS, z])
  rw [List.getElem?_set_ne this]
theorem sg_tup {j : Nat} (hc : X.calm = true) (hs : es.all notStar = true) (hlen : tgLen t = es.length) (h : SGs X es t) : SG X (.Tuple es j pos) (.tp t) := by
  intro B G H τ σ ρ ρ' d v Q hl he ok rv q
  have hes := (each_len (env := X.env) hs)
  cases rv <;> simp only [asgn, reduceCtorEq] at he
  rename_i a xs ds ha ra
  refine WG_of (pg_tup (n := es.length) hc (pgs_W X es) hes.1 hes.2) ⟨a, xs, rfl, Evl.ex_t ok.sub ha, by rw [ra.length, asgnL_len he, hlen], h B G H τ σ ρ ρ' ds xs Q hl he ok ra q⟩
theorem sgs_nil : SGs X [] .nil := by
  intro B G H τ σ ρ ρ' ds vs Q hl he ok rv q
  cases rv with
  | nil =>
    simp only [asgn.asgnL, Option.some.injEq] at he
    subst he
    exact WGs_of pgs_nil ⟨rfl, q σ H hl rfl (fun _ _ => rfl) ok⟩
  | cons _ _ => simp [asgn.asgnL] at he
theorem sgs_cons (hs : notStar e = true) (h1 : SG X e t) (h2 : SGs X es t2) : SGs X (e :: es) (.cons t t2) := by
  intro B G H τ σ ρ ρ' ds vs Q hl he ok rv q
  cases rv with
  | nil => simp [asgn.asgnL] at he
  | cons r rs =>
    simp only [asgn.asgnL, Option.bind_eq_some_iff] at he
    obtain ⟨ρ1, e1, e2⟩ := he
    refine WGs_of (pgs_cons (pg_W X e) (pgs_W X es) (by rw [each_cons hs]; rfl)) ⟨_, _, rfl, ?_⟩
    refine h1 B G H τ σ ρ ρ1 _ _ _ hl e1 ok r fun σ1 H1 l1 m1 s1 k1 => ?_
    refine h2 B G H1 τ σ1 ρ1 ρ' _ _ Q l1 e2 k1 rs fun σ2 H2 l2 m2 s2 k2 => ?_
    refine q σ2 H2 l2 (by omega) (fun i hi => ?_) k2
    simp only [tgS, List.mem_append, not_or] at hi
    rw [s2 i hi.2, s1 i hi.1]
/-! ### walks -/
/-- J walks over the data l, from any heap behind G1 -/
def Walk (K : PySem.W.Frag) (B : Fr) (G1 : Hp) (l : List PyData) (J : It) : Prop := ∀ (G H : Hp) (L : List Ent) (i : Nat), Ex G1 G → Ok K B G L H →
  (∀ d, l[i]? = some d → J.go i H ∧ ∀ x H', J.yld i H x H' → ∃ G', Ex G G' ∧ Ok K B G' L H' ∧ Rep K G' x d) ∧ (i = l.length → J.stop i H)
def WI (X : Cx) (tg iter : Expr) : TI := fun σ H R => ∀ (pins : List (Addr × Obj)) (s : Shared), Inv X pins σ H s → wpAny (model X.prog X.w) X.A (eval iter X.env) (fun v s1 => wpAny (model X.prog X.w) X.A (pyIter v) (PIE X pins σ tg R) X.xe s1) X.xe s
theorem pi_W (X : Cx) (tg iter : Expr) : PI X tg iter (WI X tg iter) := ⟨fun pins s σ H R I h => h pins s I⟩
theorem WI_of {X : Cx} {tg iter : Expr} {t : TI} (h : PI X tg iter t) {σ : L2.St} {H : Hp} {R : It → Hp → Prop} (q : t σ H R) : WI X tg iter σ H R := fun pins s I => h.run pins s σ H R I q
def SI (X : Cx) (cl : Calls) (tg iter : Expr) (c : CE) : Prop := ∀ (B : Fr) (G H : Hp) (τ : List Ent) (σ : L2.St) (ρ ρ' : PEnv) (r : Sl) (l : List PyData) (R : It → Hp → Prop), σ.length = ρ.length → ev cl c ρ = some (r, ρ') → items r = some l → Ok X.K B G (τ ++ σ.zip ρ) H →
  (∀ J G' H', ρ'.length = ρ.length → Ex G G' → Ok X.K B G' (τ ++ σ.zip ρ') H' → Walk X.K B G' l J → R J H') → WI X tg iter σ H R
section
variable {K : PySem.W.Frag} {B : Fr} {G G1 H : Hp}
theorem walk_list {a : Addr} {xs : List V} {ds : List PyData} (ha : G1 a = some (.lst xs)) (r : Reps K G1 xs ds) : Walk K B G1 ds (Itl K a) := by
  intro G H L i eg ok
  have hs : SqL K H a xs := .inl (.inl (ok.sub _ _ (eg _ _ ha)))
  refine ⟨fun d hd => ?_, fun hi => ⟨xs, hs, by rw [r.length, hi]; exact Nat.le_refl _⟩⟩
  obtain ⟨v, h1, h2⟩ := r.get hd
  refine ⟨⟨xs, v, hs, h1⟩, fun x H' y => ?_⟩
  obtain ⟨e, y⟩ := y
  subst e
  have e2 := y xs hs
  rw [h1] at e2
  cases e2
  exact ⟨G, Evl.Ex.refl G, ok, h2.mono eg⟩
theorem walk_tup {a : Addr} {xs : List V} {ds : List PyData} (ha : SqT K G1 a xs) (r : Reps K G1 xs ds) : Walk K B G1 ds (Itt K a) := by
  intro G H L i eg ok
  have hs : SqT K H a xs := Evl.ex_t ok.sub (Evl.ex_t eg ha)
  refine ⟨fun d hd => ?_, fun hi => ⟨xs, hs, by rw [r.length, hi]; exact Nat.le_refl _⟩⟩
  obtain ⟨v, h1, h2⟩ := r.get hd
  refine ⟨⟨xs, v, hs, h1⟩, fun x H' y => ?_⟩
  obtain ⟨e, y⟩ := y
  subst e
  have e2 := y xs hs
  rw [h1] at e2
  cases e2
  exact ⟨G, Evl.Ex.refl G, ok, h2.mono eg⟩
theorem walk_str {x : Str} : Walk K B G1 (x.cps.toList.map fun c => .str ⟨#[c]⟩) (Its x) := by
  intro G H L i eg ok
  refine ⟨fun d hd => ?_, fun hi => ?_⟩
  · rw [List.getElem?_map, Option.map_eq_some_iff] at hd
    obtain ⟨c, h1, rfl⟩ := hd
    rw [Array.getElem?_toList] at h1
    have h2 : i < x.cps.size := (Array.getElem?_eq_some_iff.mp h1).1
    refine ⟨h2, fun y H' hy => ?_⟩
    obtain ⟨rfl, c', h3, rfl⟩ := hy
    rw [h1] at h3
    cases h3
    exact ⟨G, Evl.Ex.refl G, ok, .str _⟩
  · rw [List.length_map, Array.length_toList] at hi
    show x.cps.size ≤ i
    rw [hi]
    exact Nat.le_refl _
theorem walk_rng {lo : Int} {n : Nat} : Walk K B G1 (rngD lo n) (Itr lo n) := by
  intro G H L i eg ok
  refine ⟨fun d hd => ?_, fun hi => ?_⟩
  · unfold rngD at hd
    rw [List.getElem?_map, Option.map_eq_some_iff] at hd
    obtain ⟨j, h1, rfl⟩ := hd
    have h2 := List.getElem?_eq_some_iff.mp h1
    obtain ⟨h3, h4⟩ := h2
    rw [List.getElem_range] at h4
    subst h4
    rw [List.length_range] at h3
    refine ⟨h3, fun y H' hy => ?_⟩
    obtain ⟨rfl, rfl⟩ := hy
    exact ⟨G, Evl.Ex.refl G, ok, .int _⟩
  · show n ≤ i
    simp [rngD] at hi
    omega
theorem walk_rngC {lo c : Int} {n : Nat} : Walk K B G1 (rngDc lo c n) (Itc lo c n) := by
  intro G H L i eg ok
  refine ⟨fun d hd => ?_, fun hi => ?_⟩
  · unfold rngDc at hd
    rw [List.getElem?_map, Option.map_eq_some_iff] at hd
    obtain ⟨j, h1, rfl⟩ := hd
    have h2 := List.getElem?_eq_some_iff.mp h1
    obtain ⟨h3, h4⟩ := h2
    rw [List.getElem_range] at h4
    subst h4
    rw [List.length_range] at h3
    refine ⟨h3, fun y H' hy => ?_⟩
    obtain ⟨rfl, rfl⟩ := hy
    exact ⟨G, Evl.Ex.refl G, ok, .int _⟩
  · show n ≤ i
    simp [rngDc] at hi
    omega
end
/-- over a list, a tuple, a text -/
theorem pi_any {tg l : Expr} {tl : TE} (hl : PE X l tl) : PI X tg l (fun σ H R => tl σ H fun x H1 => (∃ a, x = .ref a ∧ (∃ xs, SqL X.K H1 a xs) ∧ R (Itl X.K a) H1) ∨ (∃ a, x = .ref a ∧ (∃ xs, SqT X.K H1 a xs) ∧ R (Itt X.K a) H1) ∨ (∃ z, x = .str z ∧ R (Its z) H1)) := by
  refine ⟨fun pins s σ H R I h => ?_⟩
  refine thn (hl.run pins s σ H _ I h) fun v s1 ⟨x, H1, I1, r1, q1⟩ => ?_
  have one : ∀ (b : Addr), (b ∈ [s1.heap.objs.size]) → FpOk X pins H1 b := fun b hb => by
    have e : b = s1.heap.objs.size := by simpa using hb
    subst e
    exact I1.fpOk (Nat.le_refl _) (I1.hok.fresh (Nat.le_refl _))
  rcases q1 with ⟨a, e, ⟨xs, hq⟩, q⟩ | ⟨a, e, ⟨xs, hq⟩, q⟩ | ⟨z, e, q⟩
  · subst e
    cases r1
    obtain ⟨its, rv, p, hz⟩ := I1.list hq
    refine wpAny_pyIter_list p.isList ?_
    exact ⟨s1.heap.objs.size, [s1.heap.objs.size], _, _, H1, rfl, I1.kept (t' := s1.toks) fun b o e => Heap.get?_push_of_some _ e, turn_list a _, ⟨_, Heap.get?_push_size _ rfl, rfl, rfl⟩, one, q⟩
  · subst e
    cases r1
    obtain ⟨its, rv, p, hz⟩ := I1.tuple hq
    refine wpAny_pyIter_tuple (show s1.heap.IsTuple a its.toArray from p) ?_
    exact ⟨s1.heap.objs.size, [s1.heap.objs.size], _, _, H1, rfl, I1.kept (t' := s1.toks) fun b o e => Heap.get?_push_of_some _ e, turn_tuple a _, ⟨_, Heap.get?_push_size _ rfl, rfl, rfl⟩, one, q⟩
  · subst e
    obtain ⟨t, rfl⟩ := r1
    cases ha : z.cps.all (· < 128)
    · exact wpAny_pyIter_wide ha (pi_one (tk := s1.toks) I1 _ (turn_str _ z t "str_iterator" (.inr rfl)) ⟨_, Heap.get?_push_size _ rfl, rfl, rfl⟩ q)
    · exact wpAny_pyIter_ascii ha (pi_one (tk := s1.toks) I1 _ (turn_str _ z t "str_ascii_iterator" (.inl rfl)) ⟨_, Heap.get?_push_size _ rfl, rfl, rfl⟩ q)
theorem items_toD {r : Sl} {l : List PyData} (h : items r = some l) : ∃ d, toD r = some d ∧ ((d = .list l) ∨ (d = .tuple l) ∨ ∃ x : Str, d = .str x ∧ l = x.cps.toList.map fun c => .str ⟨#[c]⟩) := by
  cases r with
  | ow m =>
    simp only [items, Option.some.injEq] at h
    subst h
    exact ⟨_, rfl, .inl rfl⟩
  | sh d =>
    refine ⟨d, rfl, ?_⟩
    cases d <;> simp only [items, Option.some.injEq, reduceCtorEq] at h
    · exact .inr (.inr ⟨_, rfl, h.symm⟩)
    · subst h
      exact .inl rfl
    · subst h
      exact .inr (.inl rfl)
  | _ => simp [items] at h
theorem si_e {tg : Expr} (h : SD X cl e c) : SI X cl tg e c := by
  intro B G H τ σ ρ ρ' r l R hl he hi ok q
  obtain ⟨d, hd, hk⟩ := items_toD hi
  refine WI_of (pi_any (pe_W X e)) ?_
  refine h B G H τ σ ρ ρ' r d _ hl he hd ok fun v G' H' l' eg k rv => ?_
  rcases hk with rfl | rfl | ⟨x, rfl, rfl⟩
  · cases rv with
    | lst ha ra => exact .inl ⟨_, rfl, ⟨_, .inl (.inl (k.sub _ _ ha))⟩, q _ G' H' l' eg k (walk_list ha ra)⟩
  · cases rv with
    | tup ha ra => exact .inr (.inl ⟨_, rfl, ⟨_, Evl.ex_t k.sub ha⟩, q _ G' H' l' eg k (walk_tup ha ra)⟩)
  · cases rv with
    | str _ => exact .inr (.inr ⟨_, rfl, q _ G' H' l' eg k walk_str⟩)
theorem rgOk_c {i : Int} (h : rgOk i = true) : -(2 ^ 62) ≤ i ∧ i < 2 ^ 62 := by
  unfold rgOk at h
  rw [Bool.and_eq_true, decide_eq_true_eq, decide_eq_true_eq] at h
  omega
theorem si_rng1 {tg : Expr} (hg : Gl X "range") (hm : X.mg "range" = none) (hs : notStar a = true) (ha : SD X cl a ca) : SI X cl tg (.Call (.Name "range" p) [a] [] pos) (.rng (.k (.int 0)) ca) := by
  intro B G H τ σ ρ ρ' r l R hl he hi ok q
  simp only [ev, bind, Option.bind_some, Option.bind_eq_some_iff, Prod.exists] at he
  obtain ⟨r2, ρ2, e2, e3⟩ := he
  split at e3
  · rename_i i j ei
    cases ei
    simp only [Option.ite_none_right_eq_some, Option.some.injEq, Prod.mk.injEq, Bool.and_eq_true] at e3
    obtain ⟨⟨h1, h2⟩, rfl, rfl⟩ := e3
    simp only [items, Option.some.injEq] at hi
    subst hi
    refine WI_of (pi_range1 hg hm (pa_cons (pe_W X a) pa_nil (star_cons hs)) (star_cons hs)) ?_
    refine ha B G H τ σ ρ ρ2 _ _ _ hl e2 rfl ok fun v G' H' l' eg k rv => ?_
    cases rv
    have b := rgOk_c h2
    refine ⟨j, rfl, b.1, b.2, ?_⟩
    rw [Int.sub_zero] at q
    exact q _ G' H' l' eg k walk_rng
  · cases e3
theorem si_rng2 {tg : Expr} (hg : Gl X "range") (hm : X.mg "range" = none) (hs : notStar a = true) (hs2 : notStar b = true) (ha : SD X cl a ca) (hb : SD X cl b cb) : SI X cl tg (.Call (.Name "range" p) [a, b] [] pos) (.rng ca cb) := by
  intro B G H τ σ ρ ρ' r l R hl he hi ok q
  simp only [ev, bind, Option.bind_eq_some_iff, Prod.exists] at he
  obtain ⟨r1, ρ1, e1, r2, ρ2, e2, e3⟩ := he
  split at e3
  · rename_i i j
    simp only [Option.ite_none_right_eq_some, Option.some.injEq, Prod.mk.injEq, Bool.and_eq_true] at e3
    obtain ⟨⟨h1, h2⟩, rfl, rfl⟩ := e3
    simp only [items, Option.some.injEq] at hi
    subst hi
    refine WI_of (pi_range2 hg hm (pa_cons (pe_W X a) (pa_cons (pe_W X b) pa_nil (star_cons hs2)) (star_cons hs)) (by rw [star_cons hs, star_cons hs2]; rfl) (star_cons hs2)) ?_
    refine ha B G H τ σ ρ ρ1 _ _ _ hl e1 rfl ok fun v G1 H1 l1 x1 k1 rv => ?_
    refine hb B G1 H1 τ σ ρ1 ρ2 _ _ _ (by omega) e2 rfl k1 fun u G2 H2 l2 x2 k2 ru => ?_
    cases rv
    cases ru
    have b1 := rgOk_c h1
    have b2 := rgOk_c h2
    exact ⟨i, j, rfl, ⟨b1.1, b1.2, b2.1, b2.2⟩, q _ G2 H2 (by omega) (x1.trans x2) k2 walk_rng⟩
  · cases e3
theorem si_rng3 {tg cE : Expr} (hg : Gl X "range") (hm : X.mg "range" = none) (hs : notStar a = true) (hs2 : notStar b = true) (hs3 : notStar cE = true) (ha : SD X cl a ca) (hb : SD X cl b cb) (hc : SD X cl cE cc) : SI X cl tg (.Call (.Name "range" p) [a, b, cE] [] pos) (.rng3 ca cb cc) := by
  intro B G H τ σ ρ ρ' r l R hl he hi ok q
  simp only [ev, bind, Option.bind_eq_some_iff, Prod.exists] at he
  obtain ⟨r1, ρ1, e1, r2, ρ2, e2, r3, ρ3, e3, e4⟩ := he
  split at e4
  · rename_i i j c'
    simp only [Option.ite_none_right_eq_some, Option.some.injEq, Prod.mk.injEq, Bool.and_eq_true, beq_iff_eq] at e4
    obtain ⟨⟨⟨h1, h2⟩, h3⟩, rfl, rfl⟩ := e4
    subst h3
    simp only [items, Option.some.injEq] at hi
    subst hi
    refine WI_of (pi_range3 hg hm (pa_cons (pe_W X a) (pa_cons (pe_W X b) (pa_cons (pe_W X cE) pa_nil (star_cons hs3)) (star_cons hs2)) (star_cons hs)) (star_cons hs) (by rw [star_cons hs2, star_cons hs3]; rfl)) ?_
    refine ha B G H τ σ ρ ρ1 _ _ _ hl e1 rfl ok fun v G1 H1 l1 x1 k1 rv => ?_
    refine hb B G1 H1 τ σ ρ1 ρ2 _ _ _ (by omega) e2 rfl k1 fun u G2 H2 l2 x2 k2 ru => ?_
    refine hc B G2 H2 τ σ ρ2 ρ3 _ _ _ (by omega) e3 rfl k2 fun w G3 H3 l3 x3 k3 rw' => ?_
    cases rv
    cases ru
    cases rw'
    have b1 := rgOk_c h1
    have b2 := rgOk_c h2
    exact ⟨i, j, -1, _, rfl, RgC.neg b1.1 b1.2 b2.1 b2.2, q _ G3 H3 (by omega) ((x1.trans x2).trans x3) k3 walk_rngC⟩
  · cases e4
/-! enumerate, zip -/
theorem pi_enumA {ta : TA} {elts : List Expr} {kk : Nat} {tpos : Pos} (hg : Gl X "enumerate") (hm : X.mg "enumerate" = none) (hs : notStar e = true) (hp : PA X [e] ta) :
    PI X (.Tuple elts kk tpos) (.Call (.Name "enumerate" p) [e] [] pos) (fun σ H R => ta σ H fun vs H1 => ∃ a, vs = [.ref a] ∧ ((∃ xs, SqL X.K H1 a xs ∧ R (Ite X.K a) H1) ∨ (∃ xs, SqT X.K H1 a xs ∧ R (IteT X.K a) H1))) := by
  refine ⟨fun pins s σ H R I h' => ?_⟩
  refine Call_ (ld_blt I hg hm boot_enumerate (PyProof.Rows.callWith_type1 (thn (hp.run pos pins s σ H _ I h') fun us s1 ⟨vs, H1, I1, r1, q1⟩ => ?_) (star_cons hs) rfl))
  obtain ⟨a, ex, q1⟩ := q1
  subst ex
  cases r1 with
  | cons r rr =>
    cases rr
    cases r
    have fr : ∀ b, b ∈ [s1.heap.objs.size + 1, s1.heap.objs.size] → FpOk X pins H1 b := fun b hb => by
      have hle : s1.heap.objs.size ≤ b := by
        rcases List.mem_cons.mp hb with z | z
        · rw [z]
          omega
        · have z : b = s1.heap.objs.size := by simpa using z
          rw [z]
          exact Nat.le_refl _
      exact I1.fpOk hle (I1.hok.fresh hle)
    rcases q1 with ⟨xs, hq, q⟩ | ⟨xs, hq, q⟩
    · obtain ⟨its, rv, pl, hz⟩ := I1.list hq
      refine call_enumerate_list pl.isList fun h' he hit hsz hk => wpAny_pyIter_enum he ?_
      exact ⟨s1.heap.objs.size + 1, _, _, _, H1, rfl, I1.kept (t' := s1.toks) hk, turn_enum a (s1.heap.objs.size + 1) s1.heap.objs.size, ⟨⟨.none, he⟩, hit, Nat.succ_ne_self _⟩, fr, q⟩
    · obtain ⟨its, rv, pl, hz⟩ := I1.tuple hq
      have hlt : a < s1.heap.objs.size := by
        obtain ⟨o, ho, _⟩ := id pl
        exact Heap.lt_size ho
      refine enum_call (begins_tuple a its.toArray) pl fun h' he hit hk => wpAny_pyIter_enum he ?_
      exact ⟨s1.heap.objs.size + 1, _, _, _, H1, rfl, I1.kept (t' := s1.toks) hk, turn_enumT a (s1.heap.objs.size + 1) s1.heap.objs.size, ⟨⟨.none, he⟩, ⟨_, hit, rfl, rfl⟩, Nat.succ_ne_self _, Nat.ne_of_lt hlt, Nat.ne_of_lt (Nat.lt_succ_of_lt hlt)⟩, fr, q⟩
theorem walk_pair {K : PySem.W.Frag} {B : Fr} {G1 : Hp} {l : List PyData} {J : It} (xs ys : List V) (ds es : List PyData) (hl : ∀ (i : Nat) (d : PyData), l[i]? = some d → ∃ d1 d2, d = .tuple [d1, d2] ∧ ds[i]? = some d1 ∧ es[i]? = some d2)
    (go : ∀ (G H : Hp) (L : List Ent) (i : Nat), Ex G1 G → Ok K B G L H → i < l.length → J.go i H ∧ ∀ x H', J.yld i H x H' → ∃ T v1 v2 d1 d2, x = .ref T ∧ H T = none ∧ H' = L2.upd H T (.tup [v1, v2]) ∧ ds[i]? = some d1 ∧ es[i]? = some d2 ∧ Rep K G v1 d1 ∧ Rep K G v2 d2)
    (stop : ∀ (G H : Hp) (L : List Ent), Ex G1 G → Ok K B G L H → J.stop l.length H) : Walk K B G1 l J := by
  intro G H L i eg ok
  refine ⟨fun d hd => ?_, fun hi => by rw [hi]; exact stop G H L eg ok⟩
  obtain ⟨d1, d2, rfl, e1, e2⟩ := hl i d hd
  obtain ⟨g, y⟩ := go G H L i eg ok (List.getElem?_eq_some_iff.mp hd).1
  refine ⟨g, fun x H' hy => ?_⟩
  obtain ⟨T, v1, v2, d1', d2', rfl, hT, rfl, e3, e4, r1, r2⟩ := y x H' hy
  rw [e1] at e3
  rw [e2] at e4
  cases e3
  cases e4
  have k := ok.newT hT (.cons r1 (.cons r2 .nil))
  exact ⟨_, ex_new (ok.freshG hT), k.tail, k.rep⟩
theorem enum_at {l : List PyData} {i : Nat} {d : PyData} (h : (enumD l)[i]? = some d) : ∃ d1 d2, d = .tuple [d1, d2] ∧ (rngD 0 l.length)[i]? = some d1 ∧ l[i]? = some d2 := by
  unfold enumD at h
  rw [List.getElem?_zipWith] at h
  cases h1 : (List.range l.length)[i]? with
  | none => simp [h1] at h
  | some j =>
    cases h2 : l[i]? with
    | none => simp [h1, h2] at h
    | some z =>
      simp only [h1, h2, Option.some.injEq] at h
      refine ⟨.int (j : Int), z, h.symm, ?_, rfl⟩
      unfold rngD
      rw [List.getElem?_map, h1]
      simp
theorem enum_len (l : List PyData) : (enumD l).length = l.length := by simp [enumD]
theorem rng_at {n i : Nat} (h : i < n) : (rngD 0 n)[i]? = some (.int (i : Int)) := by
  unfold rngD
  simp [h]
theorem walk_enum {K : PySem.W.Frag} {B : Fr} {G1 : Hp} {a : Addr} {xs : List V} {ds : List PyData} (ha : G1 a = some (.lst xs)) (r : Reps K G1 xs ds) : Walk K B G1 (enumD ds) (Ite K a) := by
  refine walk_pair [] xs (rngD 0 ds.length) ds (fun i d h => enum_at h) (fun G H L i eg ok hi => ?_) fun G H L eg ok => ?_
  · rw [enum_len] at hi
    have hs : SqL K H a xs := .inl (.inl (ok.sub _ _ (eg _ _ ha)))
    obtain ⟨v, h1, h2⟩ := r.get (List.getElem?_eq_getElem hi)
    refine ⟨⟨xs, v, hs, h1⟩, fun x H' hy => ?_⟩
    obtain ⟨T, y, e1, e2, e3, e4⟩ := hy
    have e5 := e4 xs hs
    rw [h1] at e5
    cases e5
    exact ⟨T, _, _, _, _, e1, e2, e3, rng_at hi, List.getElem?_eq_getElem hi, .int _, h2.mono eg⟩
  · rw [enum_len]
    exact ⟨xs, .inl (.inl (ok.sub _ _ (eg _ _ ha))), by rw [r.length]; exact Nat.le_refl _⟩
theorem walk_enumT {K : PySem.W.Frag} {B : Fr} {G1 : Hp} {a : Addr} {xs : List V} {ds : List PyData} (ha : SqT K G1 a xs) (r : Reps K G1 xs ds) : Walk K B G1 (enumD ds) (IteT K a) := by
  refine walk_pair [] xs (rngD 0 ds.length) ds (fun i d h => enum_at h) (fun G H L i eg ok hi => ?_) fun G H L eg ok => ?_
  · rw [enum_len] at hi
    have hs : SqT K H a xs := Evl.ex_t ok.sub (Evl.ex_t eg ha)
    obtain ⟨v, h1, h2⟩ := r.get (List.getElem?_eq_getElem hi)
    refine ⟨⟨xs, v, hs, h1⟩, fun x H' hy => ?_⟩
    obtain ⟨T, y, e1, e2, e3, e4⟩ := hy
    have e5 := e4 xs hs
    rw [h1] at e5
    cases e5
    exact ⟨T, _, _, _, _, e1, e2, e3, rng_at hi, List.getElem?_eq_getElem hi, .int _, h2.mono eg⟩
  · rw [enum_len]
    exact ⟨xs, Evl.ex_t ok.sub (Evl.ex_t eg ha), r.length⟩
theorem zip_at {l m : List PyData} {i : Nat} {d : PyData} (h : (zipD l m)[i]? = some d) : ∃ d1 d2, d = .tuple [d1, d2] ∧ l[i]? = some d1 ∧ m[i]? = some d2 := by
  unfold zipD at h
  rw [List.getElem?_zipWith] at h
  cases h1 : l[i]? with
  | none => simp [h1] at h
  | some y =>
    cases h2 : m[i]? with
    | none => simp [h1, h2] at h
    | some z =>
      simp only [h1, h2, Option.some.injEq] at h
      exact ⟨y, z, h.symm, rfl, rfl⟩
theorem zip_len (l m : List PyData) : (zipD l m).length = min l.length m.length := by simp [zipD]
theorem walk_zip {K : PySem.W.Frag} {B : Fr} {G1 : Hp} {a b : Addr} {xs ys : List V} {ds es : List PyData} (ha : G1 a = some (.lst xs)) (hb : G1 b = some (.lst ys)) (r : Reps K G1 xs ds) (r2 : Reps K G1 ys es) : Walk K B G1 (zipD ds es) (Itz K a b) := by
  refine walk_pair xs ys ds es (fun i d h => zip_at h) (fun G H L i eg ok hi => ?_) fun G H L eg ok => ?_
  · rw [zip_len] at hi
    have hs : SqL K H a xs := .inl (.inl (ok.sub _ _ (eg _ _ ha)))
    have hs2 : SqL K H b ys := .inl (.inl (ok.sub _ _ (eg _ _ hb)))
    have l1 : i < ds.length := by omega
    have l2 : i < es.length := by omega
    obtain ⟨v, h1, h2⟩ := r.get (List.getElem?_eq_getElem l1)
    obtain ⟨u, h3, h4⟩ := r2.get (List.getElem?_eq_getElem l2)
    refine ⟨⟨xs, ys, v, u, hs, hs2, h1, h3⟩, fun x H' hy => ?_⟩
    obtain ⟨T, y, z, e1, e2, e3, e4, e5⟩ := hy
    have f1 := e4 xs hs
    have f2 := e5 ys hs2
    rw [h1] at f1
    rw [h3] at f2
    cases f1
    cases f2
    exact ⟨T, _, _, _, _, e1, e2, e3, List.getElem?_eq_getElem l1, List.getElem?_eq_getElem l2, h2.mono eg, h4.mono eg⟩
  · rw [zip_len]
    refine ⟨xs, ys, .inl (.inl (ok.sub _ _ (eg _ _ ha))), .inl (.inl (ok.sub _ _ (eg _ _ hb))), ?_⟩
    rw [r.length, r2.length]
    omega
theorem walk_zipT {K : PySem.W.Frag} {B : Fr} {G1 : Hp} {a b : Addr} {xs ys : List V} {ds es : List PyData} (ha : SqT K G1 a xs) (hb : SqT K G1 b ys) (r : Reps K G1 xs ds) (r2 : Reps K G1 ys es) : Walk K B G1 (zipD ds es) (RZ.ItzT K a b) := by
  refine walk_pair xs ys ds es (fun i d h => zip_at h) (fun G H L i eg ok hi => ?_) fun G H L eg ok => ?_
  · rw [zip_len] at hi
    have hs : SqT K H a xs := Evl.ex_t ok.sub (Evl.ex_t eg ha)
    have hs2 : SqT K H b ys := Evl.ex_t ok.sub (Evl.ex_t eg hb)
    have l1 : i < ds.length := by omega
    have l2 : i < es.length := by omega
    obtain ⟨v, h1, h2⟩ := r.get (List.getElem?_eq_getElem l1)
    obtain ⟨u, h3, h4⟩ := r2.get (List.getElem?_eq_getElem l2)
    refine ⟨⟨xs, ys, v, u, hs, hs2, h1, h3⟩, fun x H' hy => ?_⟩
    obtain ⟨T, y, z, e1, e2, e3, e4, e5⟩ := hy
    have f1 := e4 xs hs
    have f2 := e5 ys hs2
    rw [h1] at f1
    rw [h3] at f2
    cases f1
    cases f2
    exact ⟨T, _, _, _, _, e1, e2, e3, List.getElem?_eq_getElem l1, List.getElem?_eq_getElem l2, h2.mono eg, h4.mono eg⟩
  · rw [zip_len]
    refine ⟨xs, ys, Evl.ex_t ok.sub (Evl.ex_t eg ha), Evl.ex_t ok.sub (Evl.ex_t eg hb), ?_⟩
    rw [r.length, r2.length]
    omega
theorem si_enum {elts : List Expr} {kk : Nat} {tpos : Pos} (hg : Gl X "enumerate") (hm : X.mg "enumerate" = none) (hs : notStar a = true) (ha : SD X cl a ca) : SI X cl (.Tuple elts kk tpos) (.Call (.Name "enumerate" p) [a] [] pos) (.enum ca) := by
  intro B G H τ σ ρ ρ' r l R hl he hi ok q
  simp only [ev, bind, Option.bind_eq_some_iff, Option.some.injEq, Prod.exists, Prod.mk.injEq] at he
  obtain ⟨r1, ρ1, e1, d, e2, l0, e3, rfl, rfl⟩ := he
  simp only [items, Option.some.injEq] at hi
  subst hi
  refine WI_of (pi_enumA hg hm hs (pa_cons (pe_W X a) pa_nil (star_cons hs))) ?_
  refine ha B G H τ σ ρ ρ1 r1 d _ hl e1 e2 ok fun v G1 H1 l1 x1 k1 rv => ?_
  cases rv <;> simp only [seqD, Option.some.injEq, reduceCtorEq] at e3
  · subst e3
    rename_i ha0 ra
    exact ⟨_, rfl, .inl ⟨_, .inl (.inl (k1.sub _ _ ha0)), q _ G1 H1 l1 x1 k1 (walk_enum ha0 ra)⟩⟩
  · subst e3
    rename_i ha0 ra
    exact ⟨_, rfl, .inr ⟨_, Evl.ex_t k1.sub ha0, q _ G1 H1 l1 x1 k1 (walk_enumT ha0 ra)⟩⟩
theorem si_zip {elts : List Expr} {kk : Nat} {tpos : Pos} (hg : Gl X "zip") (hm : X.mg "zip" = none) (hs : notStar a = true) (hs2 : notStar b = true) (ha : SD X cl a ca) (hb : SD X cl b cb) : SI X cl (.Tuple elts kk tpos) (.Call (.Name "zip" p) [a, b] [] pos) (.zip ca cb) := by
  intro B G H τ σ ρ ρ' r l R hl he hi ok q
  simp only [ev, bind, Option.bind_eq_some_iff, Option.some.injEq, Prod.exists, Prod.mk.injEq] at he
  obtain ⟨r1, ρ1, e1, d, e2, r2, ρ2, e3, d2, e4, l0, e5, rfl, rfl⟩ := he
  simp only [items, Option.some.injEq] at hi
  subst hi
  refine WI_of (RZ.pi_zipA hg hm (pa_cons (pe_W X a) (pa_cons (pe_W X b) pa_nil (star_cons hs2)) (star_cons hs)) (star_cons hs) (by rw [star_cons hs2]; rfl)) ?_
  refine ha B G H τ σ ρ ρ1 r1 d _ hl e1 e2 ok fun v G1 H1 l1 x1 k1 rv => ?_
  refine hb B G1 H1 τ σ ρ1 ρ2 r2 d2 _ (by omega) e3 e4 k1 fun u G2 H2 l2 x2 k2 ru => ?_
  cases rv <;> cases ru <;> simp only [zip2, Option.some.injEq, reduceCtorEq] at e5
  · subst e5
    rename_i ha0 ra _ _ _ hb0 rb
    exact ⟨_, _, _, _, rfl, .inl ⟨.inl (.inl (k2.sub _ _ (x2 _ _ ha0))), .inl (.inl (k2.sub _ _ hb0)), q _ G2 H2 (by omega) (x1.trans x2) k2 (walk_zip (x2 _ _ ha0) hb0 (ra.mono x2) rb)⟩⟩
  · subst e5
    rename_i ha0 ra _ _ _ hb0 rb
    exact ⟨_, _, _, _, rfl, .inr ⟨Evl.ex_t k2.sub (Evl.ex_t x2 ha0), Evl.ex_t k2.sub hb0, q _ G2 H2 (by omega) (x1.trans x2) k2 (walk_zipT (Evl.ex_t x2 ha0) hb0 (ra.mono x2) rb)⟩⟩
/-! list(range(..)) -/
theorem rg_reps {K : PySem.W.Frag} {G : Hp} (i j : Int) : Reps K G (rgV i j) (rngD i (j - i).toNat) := by
  unfold rgV rngD
  generalize (List.range (j - i).toNat) = l
  induction l with
  | nil => exact .nil
  | cons x l ih => exact .cons (.int _) ih
def lrgC (ca cb : CE) : CE := .op2 .add (.rng ca cb) (.lst .nil)
theorem ev_lrg {ca cb : CE} {ρ ρ' : PEnv} {r : Sl} (h : ev cl (lrgC ca cb) ρ = some (r, ρ')) : ∃ r1 ρ1 r2 i j, ev cl ca ρ = some (r1, ρ1) ∧ ev cl cb ρ1 = some (r2, ρ') ∧ r1 = .sh (.int i) ∧ r2 = .sh (.int j) ∧ rgOk i = true ∧ rgOk j = true ∧ (j - i).toNat ≤ lim ∧ r = .ow (rngD i (j - i).toNat) := by
  unfold lrgC at h
  simp only [ev, evA, bind, Option.bind_eq_some_iff, Prod.exists] at h
  obtain ⟨z, ρ2, ⟨r1, ρ1, e1, r2, ρ3, e2, e3⟩, x, e4, z2, ρ4, ⟨ds, ρ5, e5, e6⟩, y, e7, w, e8, e9⟩ := h
  split at e3
  · rename_i i j
    simp only [Option.ite_none_right_eq_some, Option.some.injEq, Prod.mk.injEq, Bool.and_eq_true] at e3 e5 e6 e9
    obtain ⟨⟨b1, b2⟩, rfl, rfl⟩ := e3
    obtain ⟨rfl, rfl⟩ := e5
    obtain ⟨_, rfl, rfl⟩ := e6
    obtain ⟨rfl, rfl⟩ := e9
    simp only [toD, Option.some.injEq] at e4 e7
    subst e4 e7
    simp only [op2, List.append_nil, List.length_nil, Nat.add_zero, Option.ite_none_right_eq_some, Option.some.injEq] at e8
    obtain ⟨h3, rfl⟩ := e8
    refine ⟨_, ρ1, _, i, j, e1, e2, rfl, rfl, b1, b2, ?_, rfl⟩
    simpa [rngD] using h3
  · cases e3
theorem rg_ok {i j : Int} (h1 : rgOk i = true) (h2 : rgOk j = true) (h3 : (j - i).toNat ≤ lim) : RgOk i j := by
  have a := rgOk_c h1
  have b := rgOk_c h2
  have c : lim = 1000000 := rfl
  exact ⟨a.1, a.2, b.1, b.2, by omega⟩
theorem se_lrg1 {p2 pos2 : Pos} (hc : X.calm = true) (hg : Gl X "list") (hm : X.mg "list" = none) (hg2 : Gl X "range") (hm2 : X.mg "range" = none) (hs : notStar a = true) (ha : SD X cl a ca) :
    SE X cl (.Call (.Name "list" p) [.Call (.Name "range" p2) [a] [] pos2] [] pos) (lrgC (.k (.int 0)) ca) := by
  intro B G H τ σ ρ ρ' r Q hl he ok q
  obtain ⟨r1, ρ1, r2, i, j, e1, e2, rfl, rfl, b1, b2, b3, rfl⟩ := ev_lrg he
  simp only [ev, Option.some.injEq, Prod.mk.injEq, Sl.sh.injEq, PyData.int.injEq] at e1
  obtain ⟨rfl, rfl⟩ := e1
  refine WE_of (pe_listRg hc hg hm (prg_1 hg2 hm2 (pe_W X a) (star_cons hs))) ?_
  refine ha B G H τ σ ρ ρ' _ _ _ hl e2 rfl ok fun v G1 H1 l1 x1 k1 rv => ?_
  cases rv
  exact ⟨j, rfl, rg_ok b1 b2 b3, fun q0 hq => q _ _ _ l1 x1 (k1.newL hq (rg_reps 0 j))⟩
theorem se_lrg2 {p2 pos2 : Pos} (hc : X.calm = true) (hg : Gl X "list") (hm : X.mg "list" = none) (hg2 : Gl X "range") (hm2 : X.mg "range" = none) (hs : notStar a = true) (hs2 : notStar b = true) (ha : SD X cl a ca) (hb : SD X cl b cb) :
    SE X cl (.Call (.Name "list" p) [.Call (.Name "range" p2) [a, b] [] pos2] [] pos) (lrgC ca cb) := by
  intro B G H τ σ ρ ρ' r Q hl he ok q
  obtain ⟨r1, ρ1, r2, i, j, e1, e2, rfl, rfl, b1, b2, b3, rfl⟩ := ev_lrg he
  refine WE_of (pe_listRg hc hg hm (prg_2 hg2 hm2 (pe_W X a) (pe_W X b) (star_cons hs) (star_cons hs2) (by rw [star_cons hs2]; rfl))) ?_
  refine ha B G H τ σ ρ ρ1 _ _ _ hl e1 rfl ok fun v G1 H1 l1 x1 k1 rv => ?_
  refine hb B G1 H1 τ σ ρ1 ρ' _ _ _ (by omega) e2 rfl k1 fun u G2 H2 l2 x2 k2 ru => ?_
  cases rv
  cases ru
  exact ⟨i, j, rfl, rfl, rg_ok b1 b2 b3, fun q0 hq => q _ _ _ (by omega) (x1.trans x2) (k2.newL hq (rg_reps i j))⟩
end
end PP
namespace PP
open PySem L2 PySem.Spec PyProof.Rows
/-! ### slots wiped -/
theorem wipe_len (σ : L2.St) : ∀ vs, (wipe σ vs).length = σ.length := wipe_length σ
theorem wipeE_len (ρ : PEnv) : ∀ vs : List Nat, (wipeE ρ vs).length = ρ.length
  | [] => rfl
  | v :: vs => by
    show ((wipeE ρ vs).set v .un).length = _
    rw [List.length_set, wipeE_len ρ vs]
theorem backE_len (ρ : PEnv) : ∀ (vs : List Nat) (ρ' : PEnv), (backE ρ ρ' vs).length = ρ'.length
  | [], _ => rfl
  | v :: vs, ρ' => by
    show (backE ρ (ρ'.set v _) vs).length = _
    rw [backE_len ρ vs, List.length_set]
theorem wipe_ext : ∀ {vs : List Nat} {σ σ' : L2.St}, σ'.length = σ.length → (∀ i, i ∉ vs → σ'[i]? = σ[i]?) → wipe σ' vs = wipe σ vs := by
  intro vs σ σ' hl h
  apply List.ext_getElem?
  intro i
  by_cases hi : i ∈ vs
  · have key : ∀ (σ : L2.St) (vs : List Nat), i ∈ vs → i < σ.length → (wipe σ vs)[i]? = some none := by
      intro σ vs
      induction vs with
      | nil => intro h; cases h
      | cons v vs ih =>
        intro h hl
        show ((wipe σ vs).set v none)[i]? = _
        by_cases e : v = i
        · subst e
          rw [List.getElem?_set_self (by rw [wipe_len]; exact hl)]
        · rw [List.getElem?_set_ne e]
          rcases List.mem_cons.mp h with h | h
          · exact absurd h.symm e
          · exact ih h hl
    by_cases hb : i < σ.length
    · rw [key σ vs hi hb, key σ' vs hi (by omega)]
    · rw [List.getElem?_eq_none (by rw [wipe_len]; omega), List.getElem?_eq_none (by rw [wipe_len]; omega)]
  · rw [wipe_out hi, wipe_out hi, h i hi]
theorem wipe_idem (σ : L2.St) (vs : List Nat) : wipe (wipe σ vs) vs = wipe σ vs := wipe_ext (wipe_len σ vs) fun i hi => wipe_out hi
section
variable {K : PySem.W.Frag} {B : Fr} {G H : Hp} {τ : List Ent} {σ : L2.St} {ρ : PEnv}
theorem ok_wipe : ∀ {vs : List Nat}, Ok K B G (τ ++ σ.zip ρ) H → Ok K B G (τ ++ (wipe σ vs).zip (wipeE ρ vs)) H
  | [], ok => ok
  | v :: vs, ok => by
    have k := (ok_wipe (vs := vs) ok).setU (n := τ.length + v) (p' := (none, .un)) trivial rfl
    rw [zset2] at k
    exact k
theorem ok_back {ρ1 : PEnv} : ∀ {vs : List Nat} {ρF : PEnv}, vs.Nodup → σ.length = ρF.length → ρ1.length = ρF.length → (∀ v ∈ vs, ∀ (x : Option V) (s : Sl), σ[v]? = some x → ρ1[v]? = some s → EntOk K B G H (x, s) ∧ ownA (x, s) = none) → Ok K B G (τ ++ (wipe σ vs).zip ρF) H → Ok K B G (τ ++ σ.zip (backE ρ1 ρF vs)) H
  | [], ρF, _, _, _, _, ok => ok
  | v :: vs, ρF, nd, hl, h1, hp, ok => by
    have nd' := List.nodup_cons.mp nd
    by_cases hv : v < σ.length
    · have e1 : σ[v]? = some σ[v] := List.getElem?_eq_getElem hv
      have e2 : ρ1[v]? = some (ρ1.getD v .un) := by
        rw [List.getD_eq_getElem?_getD, List.getElem?_eq_getElem (by omega)]
        rfl
      obtain ⟨p1, p2⟩ := hp v List.mem_cons_self _ _ e1 e2
      have k := ok.setU (n := τ.length + v) p1 p2
      rw [zset2] at k
      have e3 : (wipe σ (v :: vs)).set v σ[v] = wipe σ vs := by
        show ((wipe σ vs).set v none).set v σ[v] = wipe σ vs
        rw [List.set_set]
        apply List.ext_getElem?
        intro i
        by_cases e : v = i
        · subst e
          rw [List.getElem?_set_self (by rw [wipe_len]; exact hv), wipe_out nd'.1, e1]
        · rw [List.getElem?_set_ne e]
      rw [e3] at k
      show Ok K B G (τ ++ σ.zip (backE ρ1 (ρF.set v (ρ1.getD v .un)) vs)) H
      exact ok_back (vs := vs) nd'.2 (by simp [hl]) (by simp [h1]) (fun w hw => hp w (List.mem_cons_of_mem _ hw)) k
    · have e4 : (wipe σ (v :: vs)) = wipe σ vs := by
        show (wipe σ vs).set v none = wipe σ vs
        rw [List.set_eq_of_length_le]
        rw [wipe_len]
        omega
      have e5 : ρF.set v (ρ1.getD v .un) = ρF := List.set_eq_of_length_le (by omega)
      rw [e4] at ok
      show Ok K B G (τ ++ σ.zip (backE ρ1 (ρF.set v (ρ1.getD v .un)) vs)) H
      rw [e5]
      exact ok_back nd'.2 hl h1 (fun w hw => hp w (List.mem_cons_of_mem _ hw)) ok
theorem plain_ent {v : Nat} {x : Option V} {s : Sl} (hp : plainSl ρ v = true) (hs : ρ[v]? = some s) (h : EntOk K B G H (x, s)) {G' H' : Hp} (eg : Ex G G') : EntOk K B G' H' (x, s) ∧ ownA (x, s) = none := by
  unfold plainSl at hp
  rw [hs] at hp
  cases s <;> simp at hp
  · exact ⟨trivial, ownA_un x⟩
  · obtain ⟨y, e, r⟩ := h
    exact ⟨⟨y, e, r.mono eg⟩, ownA_sh x _⟩
end
/-! ### comprehensions -/
abbrev Blk (X : Cx) (scope : Scope) (s : Shared) (H : Hp) (C : Addr) (l : List (Str × Addr)) (fp : List Addr) : Cx := X.blk s H scope (compEnvC scope l C X.env) fp
def WPs (X : Cx) (ifs : List Expr) : TT := fun σ H Q => ∀ (pins : List (Addr × Obj)) (s : Shared), Inv X pins σ H s →
    wpAny (model X.prog X.w) X.A (forIn ifs true fun c r => if r = true then do let ok ← isTrue c X.env (eval c X.env); pure (ForInStep.yield ok) else pure (ForInStep.yield r)) (TP X pins σ Q) X.xe s
theorem pts_W (X : Cx) (ifs : List Expr) : PTs X ifs (WPs X ifs) := ⟨fun pins s σ H Q I h => h pins s I⟩
theorem WPs_of {X : Cx} {e : List Expr} {t : TT} (h : PTs X e t) {σ : L2.St} {H : Hp} {Q : Bool → Hp → Prop} (q : t σ H Q) : WPs X e σ H Q := fun pins s I => h.run pins s σ H Q I q
section
variable {X : Cx} {cl : Calls} {e a b elt tg iter : Expr} {es ifs : List Expr} {c ca cb cc ce : CE} {pos p : Pos} {x : Str} {t t2 : Tg}
theorem st_nil : ST X cl (WPs X []) (.k (.bool true)) := by
  intro B G H τ σ ρ ρ' r b Q hl he hb ok q
  simp only [ev, Option.some.injEq, Prod.mk.injEq] at he
  obtain ⟨rfl, rfl⟩ := he
  have e2 : true = b := by simpa [toD, truthD] using hb
  subst e2
  exact WPs_of pts_nil (q G H rfl (Evl.Ex.refl G) ok)
theorem st_one (h : ST X cl (WT X a) ca) : ST X cl (WPs X [a]) ca := fun B G H τ σ ρ ρ' r b Q hl he hb ok q =>
  WPs_of (pts_one (pt_W X a)) (h B G H τ σ ρ ρ' r b Q hl he hb ok q)
theorem comp_rd {scope : Scope} {own : List (Str × Nat)} (hnd : (own.map (·.2)).Nodup) (hi : SI X cl tg iter c) (hsub : ∀ i ∈ tgS t, i ∈ own.map (·.2))
    (hg : ∀ s H C l fp, SG (Blk X scope s H C l fp) tg t) (ht : ∀ s H C l fp, ST (Blk X scope s H C l fp) cl (WPs (Blk X scope s H C l fp) ifs) cc) (he : ∀ s H C l fp, SD (Blk X scope s H C l fp) cl elt ce)
    {B : Fr} {G H : Hp} {τ : List Ent} {σ : L2.St} {ρ ρ' : PEnv} {r : Sl} {Q : VK} (hl : σ.length = ρ.length) (hev : ev cl (.comp c (own.map (·.2)) t cc ce) ρ = some (r, ρ')) (ok : Ok X.K B G (τ ++ σ.zip ρ) H)
    (q : ∀ v G' H', ρ'.length = ρ.length → Ex G G' → Ok X.K B G' ((some v, r) :: (τ ++ σ.zip ρ')) H' → Q v H') :
    tLc (WI X tg iter) (fun v σ H Q => ∀ s H0 C l fp, WG (Blk X scope s H0 C l fp) tg v σ H Q) (fun σ H Q => ∀ s H0 C l fp, WPs (Blk X scope s H0 C l fp) ifs σ H Q) (fun σ H Q => ∀ s H0 C l fp, WE (Blk X scope s H0 C l fp) elt σ H Q) (own.map (·.2)) σ H Q := by
  generalize hvs : own.map (·.2) = vs at *
  simp only [ev, bind, Option.bind_eq_some_iff, Prod.exists] at hev
  obtain ⟨r1, ρ1, e1, l, e2, e3⟩ := hev
  simp only [Option.ite_none_right_eq_some, Bool.and_eq_true, decide_eq_true_eq, Option.bind_eq_some_iff, Option.some.injEq, Prod.exists, Prod.mk.injEq] at e3
  obtain ⟨⟨hz, hpl⟩, accF, ρF, e4, rfl, rfl⟩ := e3
  refine hi B G H τ σ ρ ρ1 r1 l _ hl e1 e2 ok fun J G1 H1 l1 x1 k1 W1 => ?_
  intro D hD
  refine ⟨fun i m H' => i + m = l.length ∧ ∃ G' ρ2 acc, Ex G1 G' ∧ ρ2.length = ρ1.length ∧ compLoop (asgn t) (ev cl cc) (ev cl ce) vs (l.drop i) ρ2 acc = some (accF, ρF) ∧ acc.length ≤ i ∧ Ok X.K B G' ((some (.ref D), .ow acc) :: (τ ++ (wipe σ vs).zip ρ2)) H', ⟨l.length, ?_⟩, fun i m H' hW => ?_⟩
  · refine ⟨by omega, G1, wipeE ρ1 vs, [], Evl.Ex.refl G1, wipeE_len _ _, by rw [List.drop_zero]; exact e4, Nat.zero_le _, ?_⟩
    exact (ok_wipe k1).newL hD .nil
  · obtain ⟨him, G', ρ2, acc, xg, hl2, hc, hacc, k⟩ := hW
    cases hd : l[i]? with
    | none =>
      have hil : l.length ≤ i := List.getElem?_eq_none_iff.mp hd
      have hi' : i = l.length := by omega
      refine .inl ⟨(W1 G' H' _ i xg k).2 hi', ?_⟩
      rw [List.drop_of_length_le hil] at hc
      simp only [compLoop, Option.some.injEq, Prod.mk.injEq] at hc
      obtain ⟨rfl, rfl⟩ := hc
      have k2 : Ok X.K B G' (((some (.ref D), .ow acc) :: τ) ++ (wipe σ vs).zip ρ2) H' := k
      have k3 := ok_back (ρ1 := ρ1) hnd (by omega) (by omega) (fun v hv x s ex es => by
        obtain ⟨x', ex', en⟩ := zget (σ := σ) (τ := τ) (by omega) es
        rw [ex] at ex'
        cases ex'
        exact plain_ent (List.all_eq_true.mp hpl v hv) es (k1.ent _ _ en) xg) k2
      exact q _ G' H' (by rw [backE_len]; omega) (x1.trans xg) k3
    | some d =>
      have hlt : i < l.length := (List.getElem?_eq_some_iff.mp hd).1
      obtain ⟨hgo, hy⟩ := (W1 G' H' _ i xg k).1 d hd
      have hdrop : l.drop i = d :: l.drop (i + 1) := by
        rw [List.drop_eq_getElem_cons hlt]
        congr 1
        exact (List.getElem?_eq_some_iff.mp hd).2
      rw [hdrop] at hc
      simp only [compLoop, bind, Option.bind_eq_some_iff, Prod.exists] at hc
      obtain ⟨ρ3, a3, b4, ρ4, a4, b, a5, a6⟩ := hc
      refine .inr ⟨hgo, fun H' => i + 1 + (m - 1) = l.length ∧ ∃ G' ρ2 acc, Ex G1 G' ∧ ρ2.length = ρ1.length ∧ compLoop (asgn t) (ev cl cc) (ev cl ce) vs (l.drop (i + 1)) ρ2 acc = some (accF, ρF) ∧ acc.length ≤ i + 1 ∧ Ok X.K B G' ((some (.ref D), .ow acc) :: (τ ++ (wipe σ vs).zip ρ2)) H', fun H2 hN => ⟨m - 1, by omega, hN⟩, fun x H2 hx => ?_⟩
      obtain ⟨G2, xg2, k2, rx⟩ := hy x H2 hx
      intro s0 H0 C0 l0 fp0
      have k2' : Ok X.K B G2 (((some (.ref D), .ow acc) :: τ) ++ (wipe σ vs).zip ρ2) H2 := k2
      have hw : (wipe σ vs).length = ρ2.length := by rw [wipe_len]; omega
      refine hg s0 H0 C0 l0 fp0 B G2 H2 _ (wipe σ vs) ρ2 ρ3 d x _ hw a3 k2' rx fun σ2 H3 l3 m3 hst k3 => ?_
      have ew : wipe σ2 vs = wipe σ vs := by
        rw [← wipe_idem σ vs]
        refine wipe_ext (by omega) fun j hj => hst j fun hm => hj (hsub j hm)
      refine ⟨ew, ?_⟩
      intro s1 H1' C1 l1' fp1
      refine ht s1 H1' C1 l1' fp1 B G2 H3 _ σ2 ρ3 ρ4 b4 b _ l3 a4 (Option.bind_eq_some_iff.mpr a5) k3 fun G4 H4 l4 x4 k4 => ?_
      cases b with
      | false =>
        rw [if_neg (by decide)] at a6 ⊢
        refine ⟨by omega, G4, wipeE ρ4 vs, acc, (xg.trans xg2).trans x4, by rw [wipeE_len]; omega, a6, by omega, ?_⟩
        have := ok_wipe (vs := vs) k4
        rw [ew] at this
        exact this
      | true =>
        rw [if_pos rfl] at a6 ⊢
        simp only [Option.bind_eq_some_iff, Prod.exists] at a6
        obtain ⟨r5, ρ5, a7, d5, a8, a9⟩ := a6
        intro s2 H2' C2 l2' fp2
        refine he s2 H2' C2 l2' fp2 B G4 H4 _ σ2 ρ4 ρ5 r5 d5 _ (by omega) a7 a8 k4 fun y G5 H5 l5 x5 k5 ry => ?_
        have k6 := ok_wipe (vs := vs) k5
        rw [ew] at k6
        have k7 : Ok X.K B G5 ((some (.ref D), .ow acc) :: (τ ++ (wipe σ vs).zip (wipeE ρ5 vs))) H5 := k6
        obtain ⟨D', xs, eD, h0, hgD, hHD, hrD⟩ := k7.head
        cases eD
        refine ⟨xs, hHD, ?_, ?_⟩
        · rw [hrD.length]
          refine lim_lt (Nat.lt_of_le_of_lt hacc ?_)
          omega
        · refine ⟨by omega, G5, wipeE ρ5 vs, acc ++ [d5], ((xg.trans xg2).trans x4).trans x5, by rw [wipeE_len]; omega, a9, by simp; omega, ?_⟩
          have k8 := k7.setA (n := 0) (p' := (some (.ref D), .ow (acc ++ [d5]))) (o := .lst (xs ++ [y])) rfl rfl rfl (.inl h0) ⟨D, xs ++ [y], rfl, h0, hgD, upd_same, hrD.append (.cons ry .nil)⟩
          exact k8
theorem se_comp {scope : Scope} {own : List (Str × Nat)} (hc : X.calm = true) (hN : X.N.Nodup) (hf : ∀ x, foldedSetIterable iter X.env x = pure x) (okb : BlkOk X.N X.env.scope scope own) (hnd : (own.map (·.2)).Nodup) (hi : SI X cl tg iter c) (hsub : ∀ i ∈ tgS t, i ∈ own.map (·.2))
    (hg : ∀ s H C l fp, SG (Blk X scope s H C l fp) tg t) (ht : ∀ s H C l fp, ST (Blk X scope s H C l fp) cl (WPs (Blk X scope s H C l fp) ifs) cc) (he : ∀ s H C l fp, SD (Blk X scope s H C l fp) cl elt ce) :
    SE X cl (.ListComp elt [⟨tg, iter, ifs, 0⟩] scope pos) (.comp c (own.map (·.2)) t cc ce) := by
  intro B G H τ σ ρ ρ' r Q hl hev ok q
  refine WE_of (pe_lc hc hN (pi_W X tg iter) okb (g := fun v σ H Q => ∀ s H0 C l fp, WG (Blk X scope s H0 C l fp) tg v σ H Q) (tt := fun σ H Q => ∀ s H0 C l fp, WPs (Blk X scope s H0 C l fp) ifs σ H Q) (te := fun σ H Q => ∀ s H0 C l fp, WE (Blk X scope s H0 C l fp) elt σ H Q)
    (fun s H C l fp => ⟨fun pins s' σ H v u Q I r h => h s _ C l fp pins s' u I r⟩) (fun s H C l fp => ⟨fun pins s' σ H Q I h => h s _ C l fp pins s' I⟩) (fun s H C l fp => ⟨fun pins s' σ H Q I h => h s _ C l fp pins s' I⟩) hf) ?_
  exact comp_rd hnd hi hsub hg ht he hl hev ok q
end
end PP
namespace PP
open PySem L2 PySem.Spec PyProof.Rows
def WS (X : Cx) (st : Stmt) : TS := fun D σ H => ∀ (pins : List (Addr × Obj)) (s : Shared), Inv X pins σ H s → wpAny (model X.prog X.w) X.A (exec st X.env) (L2.SP X pins D) X.xe s
def WSs (X : Cx) (st : List Stmt) : TS := fun D σ H => ∀ (pins : List (Addr × Obj)) (s : Shared), Inv X pins σ H s → wpAny (model X.prog X.w) X.A (execs st X.env) (L2.SP X pins D) X.xe s
theorem ps_W (X : Cx) (e : Stmt) : PS X e (WS X e) := ⟨fun pins s σ H D I h => h pins s I⟩
theorem pss_W (X : Cx) (e : List Stmt) : PSs X e (WSs X e) := ⟨fun pins s σ H D I h => h pins s I⟩
theorem WS_of {X : Cx} {e : Stmt} {t : TS} (h : PS X e t) {D : Ends} {σ : L2.St} {H : Hp} (q : t D σ H) : WS X e D σ H := fun pins s I => h.run pins s σ H D I q
theorem WSs_of {X : Cx} {e : List Stmt} {t : TS} (h : PSs X e t) {D : Ends} {σ : L2.St} {H : Hp} (q : t D σ H) : WSs X e D σ H := fun pins s I => h.run pins s σ H D I q
/-- what a statement's end gives -/
def PostS (K : PySem.W.Frag) (B : Fr) (G : Hp) (τ : List Ent) (n : Nat) (D : Ends) : Out → Prop
  | .nx ρ' => ρ'.length = n → ∀ σ' G' H', σ'.length = ρ'.length → Ex G G' → Ok K B G' (τ ++ σ'.zip ρ') H' → D.nx σ' H'
  | .rt r ρ' => ρ'.length = n → ∀ v (σ' : L2.St) G' H', σ'.length = ρ'.length → Ex G G' → Ok K B G' ((some v, r) :: (τ ++ σ'.zip ρ')) H' → D.rt v H'
theorem PostS.mono {K : PySem.W.Frag} {B : Fr} {G G' : Hp} {τ : List Ent} {n n' : Nat} {D : Ends} {o : Out} (e : Ex G G') (hn : n = n') (h : PostS K B G τ n D o) : PostS K B G' τ n' D o := by
  subst hn
  cases o with
  | nx ρ' => exact fun hl σ' G2 H2 l x k => h hl σ' G2 H2 l (e.trans x) k
  | rt r ρ' => exact fun hl v σ' G2 H2 l x k => h hl v σ' G2 H2 l (e.trans x) k
section
variable (X : Cx) (cl : Calls) (F : Nat)
def SS (st : Stmt) (c : CS) : Prop := ∀ (B : Fr) (G H : Hp) (τ : List Ent) (σ : L2.St) (ρ : PEnv) (o : Out) (D : Ends), σ.length = ρ.length → ex cl F c ρ = some o → Ok X.K B G (τ ++ σ.zip ρ) H → PostS X.K B G τ ρ.length D o → WS X st D σ H
def SSs (st : List Stmt) (c : CS) : Prop := ∀ (B : Fr) (G H : Hp) (τ : List Ent) (σ : L2.St) (ρ : PEnv) (o : Out) (D : Ends), σ.length = ρ.length → ex cl F c ρ = some o → Ok X.K B G (τ ++ σ.zip ρ) H → PostS X.K B G τ ρ.length D o → WSs X st D σ H
end
section
variable {X : Cx} {cl : Calls} {F : Nat} {e a b tg iter : Expr} {es : List Expr} {st : Stmt} {sts sts2 : List Stmt} {c ca cb cc ce : CE} {s1 s2 : CS} {pos p : Pos} {x : Str} {t t2 : Tg}
theorem ss_nil : SSs X cl F [] .pass := by
  intro B G H τ σ ρ o D hl he ok q
  simp only [ex, Option.some.injEq] at he
  subst he
  exact WSs_of pss_nil (q rfl σ G H hl (Evl.Ex.refl G) ok)
theorem ss_cons (h1 : SS X cl F st s1) (h2 : SSs X cl F sts s2) : SSs X cl F (st :: sts) (.seq s1 s2) := by
  intro B G H τ σ ρ o D hl he ok q
  simp only [ex, bind, Option.bind_eq_some_iff] at he
  obtain ⟨o1, e1, e2⟩ := he
  refine WSs_of (pss_cons (ps_W X st) (pss_W X sts)) ?_
  refine h1 B G H τ σ ρ o1 _ hl e1 ok ?_
  cases o1 with
  | nx ρ1 => exact fun hn σ1 G1 H1 l1 x1 k1 => h2 B G1 H1 τ σ1 ρ1 o D l1 e2 k1 (q.mono x1 hn.symm)
  | rt r ρ1 =>
    simp only [Option.some.injEq] at e2
    subst e2
    exact q
theorem ss_pass : SS X cl F (.Pass pos) .pass := by
  intro B G H τ σ ρ o D hl he ok q
  simp only [ex, Option.some.injEq] at he
  subst he
  exact WS_of ps_pass (q rfl σ G H hl (Evl.Ex.refl G) ok)
theorem ss_never : SS X cl F st .fail := by
  intro B G H τ σ ρ o D hl he ok q
  simp [ex] at he
def isComp : Expr → Bool
  | .ListComp .. => true
  | .SetComp .. => true
  | .DictComp .. => true
  | _ => false
theorem swaps_plain {t : Option Expr} {l : Nat} {env : Env} (h : isComp e = false) : swapsWith e t l env = pure false := by
  cases e <;> first
    | rfl
    | cases h
theorem ss_drop (hn : isComp e = false) (h : SD X cl e c) (hd : ∀ ρ ρ' r, ev cl c ρ = some (r, ρ') → ∃ d, toD r = some d) : SS X cl F (.Expr e pos) (.drop c) := by
  intro B G H τ σ ρ o D hl he ok q
  simp only [ex, bind, Option.bind_eq_some_iff, Option.some.injEq, Prod.exists] at he
  obtain ⟨r, ρ1, e1, rfl⟩ := he
  obtain ⟨d, hd⟩ := hd _ _ _ e1
  refine WS_of (ps_expr (pe_W X e) (swaps_plain hn)) ?_
  exact h B G H τ σ ρ ρ1 r d _ hl e1 hd ok fun v G' H' l eg k _ => q l σ G' H' (by omega) eg k
theorem ss_ret (h : SE X cl e c) : SS X cl F (.Return (some e) pos) (.ret c) := by
  intro B G H τ σ ρ o D hl he ok q
  simp only [ex, bind, Option.bind_eq_some_iff, Option.some.injEq, Prod.exists] at he
  obtain ⟨r, ρ1, e1, rfl⟩ := he
  exact WS_of (ps_ret (pe_W X e)) (h B G H τ σ ρ ρ1 r _ hl e1 ok fun v G' H' l eg k => q l v σ G' H' (by omega) eg k)
theorem ss_if (hc : ST X cl (WT X e) c) (h1 : SSs X cl F sts s1) (h2 : SSs X cl F sts2 s2) : SS X cl F (.If e sts sts2 pos) (.ite c s1 s2) := by
  intro B G H τ σ ρ o D hl he ok q
  simp only [ex, tst, bind, Option.bind_eq_some_iff, Option.some.injEq, Prod.exists, Prod.mk.injEq] at he
  obtain ⟨t, ρ1, ⟨r, ρ2, e1, t', e2, rfl, rfl⟩, e3⟩ := he
  refine WS_of (ps_if (pt_W X e) (pss_W X sts) (pss_W X sts2)) ?_
  refine hc B G H τ σ ρ ρ2 r t' _ hl e1 (Option.bind_eq_some_iff.mpr e2) ok fun G1 H1 l1 x1 k1 => ?_
  cases t' with
  | true =>
    rw [if_pos rfl] at e3 ⊢
    exact h1 B G1 H1 τ σ ρ2 o D (by omega) e3 k1 (q.mono x1 l1.symm)
  | false =>
    rw [if_neg (by decide)] at e3 ⊢
    exact h2 B G1 H1 τ σ ρ2 o D (by omega) e3 k1 (q.mono x1 l1.symm)
theorem put_len {ρ ρ' : PEnv} {i : Nat} {s : Sl} (h : put ρ i s = some ρ') : ρ'.length = ρ.length := by
  rw [put_eq h]
  simp
/-- name = e -/
theorem ss_set {i : Nat} {p2 : Pos} (hN : X.N.Nodup) (hi : X.N[i]? = some x) (hx : Loc X.env.scope x) (hf : X.fn x = true ∨ X.env.scope.names.lookup x = some .local) (hs : swapsWith e (some (.Name x p2)) pos.line X.env = pure false) (h : SE X cl e c) :
    SS X cl F (.Assign [.Name x p2] e pos) (.asg (.nm i) c) := by
  intro B G H τ σ ρ o D hl he ok q
  simp only [ex, bind, Option.bind_eq_some_iff, Option.map_eq_some_iff, Prod.exists] at he
  obtain ⟨r, ρ1, e1, ρ2, e2, rfl⟩ := he
  refine WS_of (ps_set hN hi hx (pe_W X e) hs hf) ?_
  refine h B G H τ σ ρ ρ1 r _ hl e1 ok fun v G' H' l eg k => ?_
  have e3 := put_len e2
  have e4 := put_eq e2
  subst e4
  exact q (by omega) _ G' H' (by simp; omega) eg (put_ok k)
/-- name = [..] on one line -/
theorem ss_setLc {i : Nat} {p2 : Pos} {elt : Expr} {ifs : List Expr} {scope : Scope} {own : List (Str × Nat)} (hN : X.N.Nodup) (hi : X.N[i]? = some x) (hx : X.env.scope.names.lookup x = some .local) (hs : swapsWith (.ListComp elt [⟨tg, iter, ifs, 0⟩] scope p) (some (.Name x p2)) pos.line X.env = pure true)
    (hc : X.calm = true) (hf : ∀ x, foldedSetIterable iter X.env x = pure x) (okb : BlkOk X.N X.env.scope scope own) (hnd : (own.map (·.2)).Nodup) (hI : SI X cl tg iter c) (hsub : ∀ i ∈ tgS t, i ∈ own.map (·.2))
    (hg : ∀ s H C l fp, SG (Blk X scope s H C l fp) tg t) (ht : ∀ s H C l fp, ST (Blk X scope s H C l fp) cl (WPs (Blk X scope s H C l fp) ifs) cc) (he : ∀ s H C l fp, SD (Blk X scope s H C l fp) cl elt ce) :
    SS X cl F (.Assign [.Name x p2] (.ListComp elt [⟨tg, iter, ifs, 0⟩] scope p) pos) (.asg (.nm i) (.comp c (own.map (·.2)) t cc ce)) := by
  intro B G H τ σ ρ o D hl hex ok q
  rw [ex] at hex
  simp only [bind, Option.bind_eq_some_iff, Option.map_eq_some_iff, Prod.exists] at hex
  obtain ⟨r, ρ1, e1, ρ2, e2, rfl⟩ := hex
  refine WS_of (ps_setLc hc hN hi hx hs (pi_W X tg iter) okb (g := fun v σ H Q => ∀ s H0 C l fp, WG (Blk X scope s H0 C l fp) tg v σ H Q) (tt := fun σ H Q => ∀ s H0 C l fp, WPs (Blk X scope s H0 C l fp) ifs σ H Q) (te := fun σ H Q => ∀ s H0 C l fp, WE (Blk X scope s H0 C l fp) elt σ H Q)
    (fun s H C l fp => ⟨fun pins s' σ H v u Q I r h => h s _ C l fp pins s' u I r⟩) (fun s H C l fp => ⟨fun pins s' σ H Q I h => h s _ C l fp pins s' I⟩) (fun s H C l fp => ⟨fun pins s' σ H Q I h => h s _ C l fp pins s' I⟩) hf) ?_
  refine comp_rd hnd hI hsub hg ht he hl e1 ok fun v G' H' l eg k => ?_
  have e3 := put_len e2
  have e4 := put_eq e2
  subst e4
  exact q (by omega) _ G' H' (by simp; omega) eg (put_ok k)
/-- (a, b, ..) = e -/
theorem ss_asgT {j : Nat} {p2 : Pos} (hs : swapsWithSole [.Tuple es j p2] e pos.line X.env = pure false) (hw : swappedStores [.Tuple es j p2] e X.env = pure none) (hg : SG X (.Tuple es j p2) (.tp t)) (h : SD X cl e c) :
    SS X cl F (.Assign [.Tuple es j p2] e pos) (.asg (.tp t) c) := by
  intro B G H τ σ ρ o D hl he ok q
  simp only [ex, bind, Option.bind_eq_some_iff, Option.map_eq_some_iff, Prod.exists] at he
  obtain ⟨r, ρ1, e1, d, e2, ρ2, e3, rfl⟩ := he
  refine WS_of (ps_asg (pe_W X e) (pg_W X _) hs hw rfl) ?_
  refine h B G H τ σ ρ ρ1 r d _ hl e1 e2 ok fun v G' H' l eg k rv => ?_
  exact hg B G' H' τ σ ρ1 ρ2 d v _ (by omega) e3 k rv fun σ' H2 l2 m2 _ k2 => q (by omega) σ' G' H2 l2 eg k2
def notSlice : Expr → Bool
  | .Slice .. => false
  | _ => true
theorem plainIx (h : notSlice a = true) : PlainIx a := by
  intro o i
  cases a <;> first
    | rfl
    | cases h
theorem asg_sub {o : Expr} {env : Env} (h : notSlice a = true) (v : Value) : assign (.Subscript o a p) env v = (do
    let ov ← holding [v] (eval o env)
    let iv ← holding [v, ov] (eval a env)
    standAt p
    holding [v, ov, iv] (setItem ov iv v)
    release [v, ov, iv] []) := by
  cases a <;> first
    | rfl
    | cases h
/-! a, b = x, y with plain local names -/
theorem set_cm {α : Type} (l : List α) (u v : α) {i j : Nat} (h : i ≠ j) : (l.set i u).set j v = (l.set j v).set i u := List.set_comm _ _ h
theorem ss_par2 {i j : Nat} {y : Str} {px py pt : Pos} {kt k2 : Nat} {pt2 : Pos} (hc : X.calm = true) (hN : X.N.Nodup) (hi : X.N[i]? = some x) (hj : X.N[j]? = some y) (hij : i ≠ j)
    (hx : X.env.scope.names.lookup x = some .local) (hy : X.env.scope.names.lookup y = some .local) (hs1 : notStar a = true) (hs2 : notStar b = true) (ha : SE X cl a ca) (hb : SE X cl b cb)
    (hw : swappedStores [.Tuple [.Name x px, .Name y py] kt pt] (.Tuple [a, b] k2 pt2) X.env = pure (some [x, y])) :
    SS X cl F (.Assign [.Tuple [.Name x px, .Name y py] kt pt] (.Tuple [a, b] k2 pt2) pos) (.par (.cons (.nm i) (.cons (.nm j) .nil)) (.cons ca (.cons cb .nil))) := by
  intro B G H τ σ ρ o D hl he ok q
  simp only [ex, evP, bind, Option.bind_eq_some_iff, Option.map_eq_some_iff, Option.some.injEq, Prod.exists, Prod.mk.injEq] at he
  obtain ⟨rs, ρ', ⟨r1, ρ1, e1, rs2, ρ2', ⟨r2, ρ2, e2, rs3, ρ3, ⟨rfl, rfl⟩, rfl, rfl⟩, rfl, rfl⟩, ρF, e3, rfl⟩ := he
  simp only [putP, Option.bind_eq_some_iff, Option.some.injEq] at e3
  obtain ⟨ρ4, e4, ρ5, e5, rfl⟩ := e3
  have g4 := put_eq e4
  subst g4
  have g5 := put_eq e5
  subst g5
  refine WS_of (ps_par hc hN hi hj hij hx hy (pa_cons (pe_W X a) (pa_cons (pe_W X b) pa_nil (star_cons hs2)) (star_cons hs1)) hw rfl) ?_
  refine ha B G H τ σ ρ ρ1 r1 _ hl e1 ok fun v G1 H1 l1 x1 k1 => ?_
  refine hb B G1 H1 ((some v, r1) :: τ) σ ρ1 _ r2 _ (by omega) e2 k1 fun u G2 H2 l2 x2 k2 => ⟨v, u, rfl, ?_⟩
  refine q (by simp; omega) _ G2 H2 (by simp; omega) (x1.trans x2) ?_
  have k3 : Ok X.K B G2 ((some u, r2) :: ((some v, r1) :: (τ ++ σ.zip ρ2))) H2 := k2
  have k4 := k3.setH (n := τ.length + j + 1)
  have k5 : Ok X.K B G2 ((some v, r1) :: (τ ++ σ.zip ρ2).set (τ.length + j) (some u, r2)) H2 := k4
  rw [zset2] at k5
  have k6 := put_ok (i := i) k5
  rw [set_cm σ _ _ (Ne.symm hij), set_cm ρ2 _ _ (Ne.symm hij)] at k6
  exact k6
theorem ss_par3 {i j l : Nat} {y z : Str} {cE : Expr} {px py pz pt : Pos} {kt k2 : Nat} {pt2 : Pos} (hc : X.calm = true) (hN : X.N.Nodup) (hi : X.N[i]? = some x) (hj : X.N[j]? = some y) (hl' : X.N[l]? = some z) (hij : i ≠ j) (hil : i ≠ l) (hjl : j ≠ l)
    (hx : X.env.scope.names.lookup x = some .local) (hy : X.env.scope.names.lookup y = some .local) (hz : X.env.scope.names.lookup z = some .local) (hs1 : notStar a = true) (hs2 : notStar b = true) (hs3 : notStar cE = true) (ha : SE X cl a ca) (hb : SE X cl b cb) (hcE : SE X cl cE cc)
    (hw : swappedStores [.Tuple [.Name x px, .Name y py, .Name z pz] kt pt] (.Tuple [a, b, cE] k2 pt2) X.env = pure (some [x, y, z])) :
    SS X cl F (.Assign [.Tuple [.Name x px, .Name y py, .Name z pz] kt pt] (.Tuple [a, b, cE] k2 pt2) pos) (.par (.cons (.nm i) (.cons (.nm j) (.cons (.nm l) .nil))) (.cons ca (.cons cb (.cons cc .nil)))) := by
  intro B G H τ σ ρ o D hl he ok q
  simp only [ex, evP, bind, Option.bind_eq_some_iff, Option.map_eq_some_iff, Option.some.injEq, Prod.exists, Prod.mk.injEq] at he
  obtain ⟨rs, ρ', ⟨r1, ρ1, e1, rs2, ρ2', ⟨r2, ρ2, e2, rs3, ρ3', ⟨r3, ρ3, e3, rs4, ρ4', ⟨rfl, rfl⟩, rfl, rfl⟩, rfl, rfl⟩, rfl, rfl⟩, ρF, e4, rfl⟩ := he
  simp only [putP, Option.bind_eq_some_iff, Option.some.injEq] at e4
  obtain ⟨ρ5, e5, ρ6, e6, ρ7, e7, rfl⟩ := e4
  have g5 := put_eq e5
  subst g5
  have g6 := put_eq e6
  subst g6
  have g7 := put_eq e7
  subst g7
  refine WS_of (L2.ps_par3 hc hN hi hj hl' hij hil hjl hx hy hz (pa_cons (pe_W X a) (pa_cons (pe_W X b) (pa_cons (pe_W X cE) pa_nil (star_cons hs3)) (star_cons hs2)) (star_cons hs1)) hw rfl) ?_
  refine ha B G H τ σ ρ ρ1 r1 _ hl e1 ok fun v G1 H1 l1 x1 k1 => ?_
  refine hb B G1 H1 ((some v, r1) :: τ) σ ρ1 _ r2 _ (by omega) e2 k1 fun u G2 H2 l2 x2 k2 => ?_
  refine hcE B G2 H2 ((some u, r2) :: ((some v, r1) :: τ)) σ ρ2 _ r3 _ (by omega) e3 k2 fun w G3 H3 l3 x3 k3 => ⟨v, u, w, rfl, ?_⟩
  refine q (by simp; omega) _ G3 H3 (by simp; omega) ((x1.trans x2).trans x3) ?_
  have k4 : Ok X.K B G3 ((some w, r3) :: ((some u, r2) :: ((some v, r1) :: (τ ++ σ.zip ρ3)))) H3 := k3
  have k5 := k4.setH (n := τ.length + l + 2)
  have k6 : Ok X.K B G3 ((some u, r2) :: ((some v, r1) :: (τ ++ σ.zip ρ3).set (τ.length + l) (some w, r3))) H3 := k5
  rw [zset2] at k6
  have k7 := k6.setH (n := τ.length + j + 1)
  have k8 : Ok X.K B G3 ((some v, r1) :: (τ ++ (σ.set l (some w)).zip (ρ3.set l r3)).set (τ.length + j) (some u, r2)) H3 := k7
  rw [zset2] at k8
  have k9 := put_ok (i := i) k8
  rw [set_cm (σ.set l (some w)) _ _ (Ne.symm hij), set_cm (ρ3.set l r3) _ _ (Ne.symm hij), set_cm σ _ _ (Ne.symm hil), set_cm ρ3 _ _ (Ne.symm hil), set_cm (σ.set i (some v)) _ _ (Ne.symm hjl), set_cm (ρ3.set i r1) _ _ (Ne.symm hjl)] at k9
  exact k9
/-! stores into a list of one's own -/
theorem upd_ok {B : Fr} {G H : Hp} {τ : List Ent} {σ : L2.St} {ρ ρ' : PEnv} {i : Nat} {f : List PyData → Option (List PyData)} (hl : σ.length = ρ.length) (ok : Ok X.K B G (τ ++ σ.zip ρ) H) (h : upd ρ i f = some ρ') :
    ∃ a xs l l', σ[i]? = some (some (.ref a)) ∧ H a = some (.lst xs) ∧ Reps X.K G xs l ∧ f l = some l' ∧ ρ'.length = ρ.length ∧ ∀ xs', Reps X.K G xs' l' → Ok X.K B G (τ ++ σ.zip ρ') (L2.upd H a (.lst xs')) := by
  unfold upd at h
  split at h
  · rename_i l el
    simp only [Option.map_eq_some_iff] at h
    obtain ⟨l', h1, rfl⟩ := h
    obtain ⟨v, s0, en⟩ := zget (τ := τ) hl el
    obtain ⟨a, xs, rfl, h0, hG, hH, hR⟩ := ok.ent _ _ en
    refine ⟨a, xs, l, l', s0, hH, hR, h1, by simp, fun xs' r' => ?_⟩
    have k := ok.setA (n := τ.length + i) (p' := (some (.ref a), .ow l')) (o := .lst xs') en rfl rfl (.inl h0) ⟨a, xs', rfl, h0, hG, upd_same, r'⟩
    rw [zset s0] at k
    exact k
  · rename_i l el
    simp only [Option.map_eq_some_iff] at h
    obtain ⟨l', h1, rfl⟩ := h
    obtain ⟨v, s0, en⟩ := zget (τ := τ) hl el
    obtain ⟨a, xs, rfl, h0, hG, hH, hR⟩ := ok.ent _ _ en
    refine ⟨a, xs, l, l', s0, hH, hR, h1, by simp, fun xs' r' => ?_⟩
    have k := ok.setA (n := τ.length + i) (p' := (some (.ref a), .io l')) (o := .lst xs') en rfl rfl (.inr h0) ⟨a, xs', rfl, h0, hG, upd_same, r'⟩
    rw [zset s0] at k
    exact k
  · cases h
theorem listAt_ok {B : Fr} {G H : Hp} {τ : List Ent} {σ : L2.St} {ρ : PEnv} {i : Nat} {l : List PyData} (hl : σ.length = ρ.length) (ok : Ok X.K B G (τ ++ σ.zip ρ) H) (h : listAt ρ i = some l) : ∃ a xs, σ[i]? = some (some (.ref a)) ∧ H a = some (.lst xs) := by
  unfold listAt at h
  split at h
  · rename_i m em
    obtain ⟨v, s0, en⟩ := zget (τ := τ) hl em
    obtain ⟨a, xs, rfl, h0, hG, hH, hR⟩ := ok.ent _ _ en
    exact ⟨a, xs, s0, hH⟩
  · rename_i m em
    obtain ⟨v, s0, en⟩ := zget (τ := τ) hl em
    obtain ⟨a, xs, rfl, h0, hG, hH, hR⟩ := ok.ent _ _ en
    exact ⟨a, xs, s0, hH⟩
  · cases h
theorem setAt_ok {B : Fr} {G H : Hp} {τ : List Ent} {σ : L2.St} {ρ ρ' : PEnv} {i : Nat} {z : Int} {d : PyData} {v : V} (hl : σ.length = ρ.length) (ok : Ok X.K B G (τ ++ σ.zip ρ) H) (rv : Rep X.K G v d) (h : setAt ρ i z d = some ρ') :
    ∃ a, σ[i]? = some (some (.ref a)) ∧ ρ'.length = ρ.length ∧ ∀ Q : Hp → Prop, (∀ H', Ok X.K B G (τ ++ σ.zip ρ') H' → Q H') → rSetL (.ref a) (.int z) v H Q := by
  obtain ⟨a, xs, l, l', s0, hH, hR, hf, hn, hk⟩ := upd_ok hl ok h
  simp only [Option.map_eq_some_iff] at hf
  obtain ⟨j, h1, rfl⟩ := hf
  refine ⟨a, s0, hn, fun Q q => ⟨a, xs, z, j, rfl, rfl, hH, by rw [hR.length]; exact h1, q _ (hk _ (hR.set rv j))⟩⟩
theorem ss_seti {i : Nat} {p2 p3 : Pos} (hns : notSlice a = true) (hN : X.N[i]? = some x) (hv : Vis X.env.scope x) (hd : (x == ("__debug__" : Str)) = false) (hcd : (x == ("__classdict__" : Str)) = false) (hs : swapsWithSole [.Subscript (.Name x p3) a p2] e pos.line X.env = pure false) (ha : SD X cl a ca) (h : SD X cl e c) (hw : swappedStores [.Subscript (.Name x p3) a p2] e X.env = pure none := by rfl) :
    SS X cl F (.Assign [.Subscript (.Name x p3) a p2] e pos) (.seti i ca c) := by
  intro B G H τ σ ρ o D hl he ok q
  simp only [ex, bind, Option.bind_eq_some_iff, Prod.exists] at he
  obtain ⟨r, ρ1, e1, d, e2, d0, e0, r2, ρ2, e3, y, e4, e5⟩ := he
  cases y <;> simp only [Option.map_eq_some_iff, reduceCtorEq] at e5
  rename_i z
  obtain ⟨ρ3, e6, rfl⟩ := e5
  refine WS_of (ps_asg (pe_W X e) (pg_sub (pe_var hN hv hd hcd) (pe_W X a) set_list (ha := fun v => asg_sub hns v)) hs hw rfl) ?_
  refine h B G H τ σ ρ ρ1 r d _ hl e1 e2 ok fun v G1 H1 l1 x1 k1 rv => ?_
  obtain ⟨v0, s0, _⟩ := peek_ok (by omega) k1 e0
  refine ⟨v0, s0, ?_⟩
  refine ha B G1 H1 τ σ ρ1 ρ2 r2 _ _ (by omega) e3 e4 k1 fun u G2 H2 l2 x2 k2 ru => ?_
  cases ru
  obtain ⟨a', s1, hn, key⟩ := setAt_ok (by omega) k2 (rv.mono x2) e6
  rw [s0] at s1
  cases s1
  exact key _ fun H' k => q (by omega) σ G2 H' (by omega) (x1.trans x2) k
/-- old[i] of a list, for the augmented store -/
def tGetL (K : PySem.W.Frag) : V → V → Hp → VK → Prop := fun x y H Q => ∃ p xs i v, x = .ref p ∧ y = .int i ∧ SqL K H p xs ∧ L2.atI xs i = some v ∧ Q v H
theorem get_listP : PGet X (tGetL X.K) := by
  intro pins st σ H x y v u Q I rx ry h
  obtain ⟨p, xs, i, z, rfl, rfl, hq, he, q⟩ := h
  cases rx
  obtain ⟨t, rfl⟩ := ry
  obtain ⟨its, r, pl, hz⟩ := I.list hq
  obtain ⟨j, h1, h2, h3, h4, h5⟩ := atI_get he
  obtain ⟨w, ew, rw'⟩ := r.get h2
  have hl := r.length
  have hn := line63
  have fin : EP X pins σ Q w st := ⟨z, H, I, rw', q⟩
  by_cases h0 : 0 ≤ i
  · have hj : i.toNat = j := by
      rw [seqIndex_of h0 h5] at h1
      exact Option.some.inj h1
    exact wpAny_getItem_list pl.isList h0 (by omega) (by rw [hj]; simpa using ew) fin
  · have hj : (i + (its.toArray.size : Int)).toNat = j := by
      rw [seqIndex_neg (by omega) h4] at h1
      rw [List.size_toArray, ← hl]
      exact Option.some.inj h1
    exact wpAny_getItem_list_neg pl.isList (by omega) (by rw [List.size_toArray] <;> omega) (by omega) (by rw [hj]; simpa using ew) fin
/-- the operators of an augmented store -/
def augO : O2 → Option Operator
  | .add => some .Add
  | .sub => some .Sub
  | .mul => some .Mult
  | _ => none
def tIpD (o : O2) : TIp := fun x y H Q => ∃ i j k, x = .int i ∧ y = .int j ∧ op2 o (.int i) (.int j) = some (.sh (.int k)) ∧ Q (.int k) H
theorem ip_ok {o : O2} {op : Operator} (h : augO o = some op) : PIp X op (tIpD o) := by
  intro pins st σ H x y v u Q I r1 r2 hq
  obtain ⟨i, j, k, rfl, rfl, e, q⟩ := hq
  obtain ⟨t, rfl⟩ := r1
  obtain ⟨t', rfl⟩ := r2
  cases o <;> simp only [augO, Option.some.injEq, reduceCtorEq] at h <;> subst h
  · simp only [op2, it, Option.some.injEq, Sl.sh.injEq, PyData.int.injEq] at e
    subst e
    exact iadd_int ⟨.int _, H, I.tok _, ⟨_, rfl⟩, q⟩
  · simp only [op2, it, Option.some.injEq, Sl.sh.injEq, PyData.int.injEq] at e
    subst e
    exact isub_int ⟨.int _, H, I.tok _, ⟨_, rfl⟩, q⟩
  · simp only [op2, it, Option.ite_none_right_eq_some, Option.some.injEq, Sl.sh.injEq, PyData.int.injEq] at e
    obtain ⟨e1, rfl⟩ := e
    exact imul_int ⟨.int _, H, I.tok _, ⟨_, rfl⟩, q⟩ (mulOk_c e1).ok
theorem aug_int {o : O2} {op : Operator} {i j : Int} {z : Sl} (h : augO o = some op) (e : op2 o (.int i) (.int j) = some z) : ∃ k, z = .sh (.int k) := by
  cases o <;> simp only [augO, reduceCtorEq] at h <;> simp only [op2, it, Option.ite_none_right_eq_some, Option.some.injEq] at e
  · exact ⟨_, e.symm⟩
  · exact ⟨_, e.symm⟩
  · exact ⟨_, e.2.symm⟩
theorem ss_augn {i : Nat} {o : O2} {op : Operator} {p2 : Pos} (ho : augO o = some op) (hN : X.N.Nodup) (hi : X.N[i]? = some x) (hx : X.env.scope.names.lookup x = some .local) (h : SD X cl e c) :
    SS X cl F (.AugAssign (.Name x p2) op e pos) (.augn i o c) := by
  intro B G H τ σ ρ out D hl he ok q
  simp only [ex, bind, Option.bind_eq_some_iff, Prod.exists] at he
  obtain ⟨old, e0, r, ρ1, e1, d, e2, e3⟩ := he
  cases old <;> cases d <;> simp only [reduceCtorEq, Option.bind_eq_some_iff, Option.map_eq_some_iff] at e3
  rename_i a b
  obtain ⟨z, e4, ρ2, e5, rfl⟩ := e3
  obtain ⟨k, rfl⟩ := aug_int ho e4
  obtain ⟨v0, s0, r0⟩ := peek_ok hl ok e0
  cases r0
  refine WS_of (ps_aug hN hi (.inl hx) (pe_W X e) (ip_ok ho) (.inr hx)) ⟨_, s0, ?_⟩
  refine h B G H τ σ ρ ρ1 r _ _ hl e1 e2 ok fun v G' H' l eg k1 rv => ?_
  cases rv
  refine ⟨a, b, k, rfl, rfl, e4, ?_⟩
  have e6 := put_eq e5
  subst e6
  exact q (by simp; omega) _ G' H' (by simp; omega) eg (put_ok (k1.consR (.int _)))
theorem ss_augi {i : Nat} {o : O2} {op : Operator} {p2 p3 : Pos} (ho : augO o = some op) (hns : notSlice a = true) (hN : X.N[i]? = some x) (hv : Vis X.env.scope x) (hd : (x == ("__debug__" : Str)) = false) (hcd : (x == ("__classdict__" : Str)) = false) (ha : SD X cl a ca) (h : SD X cl e c) :
    SS X cl F (.AugAssign (.Subscript (.Name x p3) a p2) op e pos) (.augi i o ca c) := by
  intro B G H τ σ ρ out D hl he ok q
  simp only [ex, bind, Option.bind_eq_some_iff, Prod.exists] at he
  obtain ⟨d0, e0, r2, ρ1, e1, y, e2, l0, e3, old, e4, r, ρ2, e5, d, e6, e7⟩ := he
  cases l0 <;> cases y <;> simp only [reduceCtorEq] at e4
  rename_i l0 z
  cases old <;> cases d <;> simp only [reduceCtorEq, Option.bind_eq_some_iff, Option.map_eq_some_iff] at e7
  rename_i p q'
  obtain ⟨new, ⟨zz, e8, e9⟩, ρ3, e10, rfl⟩ := e7
  obtain ⟨k, rfl⟩ := aug_int ho e8
  simp only [toD, Option.some.injEq] at e9
  subst e9
  obtain ⟨v0, s0, _⟩ := peek_ok hl ok e0
  have hst : ∀ ov iv nw, augStore a ov iv nw = (do holding [nw, ov, iv] (setItem ov iv nw); release [nw, ov, iv] []; pure .next) := by
    intro ov iv nw
    cases a <;> first
      | rfl
      | cases hns
  refine WS_of (ps_augS (pe_var hN hv hd hcd) (pe_W X a) get_listP (pe_W X e) (ip_ok ho) set_list hst) ?_
  refine ⟨v0, s0, ?_⟩
  refine ha B G H τ σ ρ ρ1 r2 _ _ hl e1 e2 ok fun u G1 H1 l1 x1 k1 ru => ?_
  cases ru
  obtain ⟨v1, s1, r1⟩ := peek_ok (by omega) k1 e3
  rw [s0] at s1
  cases s1
  cases r1 with
  | lst ha0 ra =>
    obtain ⟨w, h3, h4⟩ := atI_rep ra e4
    cases h4
    refine ⟨_, _, z, _, rfl, rfl, .inl (.inl ha0), h3, ?_⟩
    refine h B G1 H1 τ σ ρ1 ρ2 r _ _ (by omega) e5 e6 k1 fun u G2 H2 l2 x2 k2 ru => ?_
    cases ru
    refine ⟨p, q', k, rfl, rfl, e8, ?_⟩
    obtain ⟨a', s1, hn, key⟩ := setAt_ok (v := .int k) (by omega) k2 (.int _) e10
    rw [s0] at s1
    cases s1
    exact key _ fun H' kk => q (by omega) σ G2 H' (by omega) (x1.trans x2) kk
/-- state[k] as a target -/
theorem sg_ix {i : Nat} {k : Int} {j : Nat} {p2 p3 : Pos} (hN : X.N[i]? = some x) (hv : Vis X.env.scope x) (hd : (x == ("__debug__" : Str)) = false) (hcd : (x == ("__classdict__" : Str)) = false) : SG X (.Subscript (.Name x p3) (.Constant (.int k) j p2) pos) (.ix i k) := by
  intro B G H τ σ ρ ρ' d v Q hl he ok rv q
  simp only [asgn] at he
  obtain ⟨a, s0, hn, key⟩ := setAt_ok hl ok rv he
  refine WG_of (pg_sub (pe_var hN hv hd hcd) pe_int set_list) ⟨_, s0, ?_⟩
  exact key _ fun H' k => q σ H' (by omega) hn (fun _ _ => rfl) k
theorem ss_app {i : Nat} {p2 p3 p4 : Pos} (hN : X.N[i]? = some x) (hv : Vis X.env.scope x) (hd : (x == ("__debug__" : Str)) = false) (hcd : (x == ("__classdict__" : Str)) = false) (hs : notStar e = true) (hline : (p3.endLine == p4.line) = true) (h : SD X cl e c) :
    SS X cl F (.Expr (.Call (.Attribute (.Name x p2) "append" p3) [e] [] p4) pos) (.app i c) := by
  intro B G H τ σ ρ o D hl he ok q
  simp only [ex, bind, Option.bind_eq_some_iff, Option.map_eq_some_iff, Prod.exists] at he
  obtain ⟨l0, e0, r, ρ1, e1, d, e2, ρ2, e3, rfl⟩ := he
  obtain ⟨a0, xs0, s0, hH0⟩ := listAt_ok hl ok e0
  have hfew : ((backTo p4 (starEach [e] X.env)).all (fun x => !x.1) && (backToKw p4 (keywordEach [] X.env)).all (fun x => x.1.isSome)
      && decide ([e].length + ([] : List Keyword).length + (if ([] : List Keyword).isEmpty then 0 else 1) < 30)) = true := by
    rw [star_none (by simp [hs])]
    rfl
  refine WS_of (ps_expr (pe_bm PySem.F.plainAttrs_list PySem.F.slot_list_append PySem.F.type_list_append mt_append (pe_var hN hv hd hcd) (pa_cons (pe_W X e) pa_nil (star_cons hs)) (hfew := hfew) (hline := hline) (hs := star_cons hs) (hplain := by rfl)) rfl) ⟨_, s0, Or.inl ⟨rfl, _, .inl (.inl hH0)⟩, ?_⟩
  refine h B G H τ σ ρ ρ1 r d _ hl e1 e2 ok fun v G' H' l eg k rv => ?_
  obtain ⟨a, xs, m, m', s1, hH, hR, hf, hn, hk⟩ := upd_ok (by omega) k e3
  rw [s0] at s1
  cases s1
  simp only [Option.ite_none_right_eq_some, Option.some.injEq] at hf
  obtain ⟨h1, rfl⟩ := hf
  refine ⟨a0, xs, v, rfl, rfl, hH, by rw [hR.length]; exact lim_lt h1, ?_⟩
  exact q (by omega) σ G' _ (by omega) eg (hk _ (hR.append (.cons rv .nil)))
theorem ss_ext {i : Nat} {p2 p3 p4 : Pos} (hN : X.N[i]? = some x) (hv : Vis X.env.scope x) (hd : (x == ("__debug__" : Str)) = false) (hcd : (x == ("__classdict__" : Str)) = false) (hs : notStar e = true) (hline : (p3.endLine == p4.line) = true) (h : SD X cl e c) :
    SS X cl F (.Expr (.Call (.Attribute (.Name x p2) "extend" p3) [e] [] p4) pos) (.ext i c) := by
  intro B G H τ σ ρ o D hl he ok q
  simp only [ex, bind, Option.bind_eq_some_iff, Prod.exists] at he
  obtain ⟨l0, e0, r, ρ1, e1, d, e2, e3⟩ := he
  cases d <;> simp only [Option.map_eq_some_iff, reduceCtorEq] at e3
  rename_i mm
  obtain ⟨ρ2, e3, rfl⟩ := e3
  obtain ⟨a0, xs0, s0, hH0⟩ := listAt_ok hl ok e0
  have hfew : ((backTo p4 (starEach [e] X.env)).all (fun x => !x.1) && (backToKw p4 (keywordEach [] X.env)).all (fun x => x.1.isSome)
      && decide ([e].length + ([] : List Keyword).length + (if ([] : List Keyword).isEmpty then 0 else 1) < 30)) = true := by
    rw [star_none (by simp [hs])]
    rfl
  refine WS_of (ps_expr (pe_bm PySem.F.plainAttrs_list PySem.F.slot_list_extend PySem.F.type_list_extend mt_extend (pe_var hN hv hd hcd) (pa_cons (pe_W X e) pa_nil (star_cons hs)) (hfew := hfew) (hline := hline) (hs := star_cons hs) (hplain := by rfl)) rfl) ⟨_, s0, Or.inl ⟨rfl, _, .inl (.inl hH0)⟩, ?_⟩
  refine h B G H τ σ ρ ρ1 r _ _ hl e1 e2 ok fun v G' H' l eg k rv => ?_
  obtain ⟨a, xs, m, m', s1, hH, hR, hf, hn, hk⟩ := upd_ok (by omega) k e3
  rw [s0] at s1
  cases s1
  simp only [Option.ite_none_right_eq_some, Option.some.injEq] at hf
  obtain ⟨h1, rfl⟩ := hf
  cases rv with
  | lst hb rb =>
    refine ⟨a0, _, xs, _, rfl, rfl, hH, k.sub _ _ hb, by rw [hR.length, rb.length]; exact lim_le h1, ?_⟩
    exact q (by omega) σ G' _ (by omega) eg (hk _ (hR.append rb))
/-! loops -/
theorem ss_for (hp : PassesOwn (model X.prog X.w) X.A X.env X.xe) (hc : X.calm = true) (hf : ∀ x, foldedSetIterable iter X.env x = pure x) (hi : SI X cl tg iter c) (hg : SG X tg t) (hb : SSs X cl F sts s1) : SS X cl F (.For tg iter sts [] pos) (.for t c s1) := by
  intro B G H τ σ ρ o D hl he ok q
  simp only [ex, bind, Option.bind_eq_some_iff, Prod.exists] at he
  obtain ⟨r, ρ1, e1, l, e2, e3⟩ := he
  refine WS_of (ps_for hp hc (pi_W X tg iter) (pg_W X tg) (pss_W X sts) hf) ?_
  refine hi B G H τ σ ρ ρ1 r l _ hl e1 e2 ok fun J G1 H1 l1 x1 k1 W1 => ?_
  refine ⟨fun i m σ' H' => i + m = l.length ∧ ∃ G' ρ', Ex G1 G' ∧ σ'.length = ρ'.length ∧ ρ'.length = ρ.length ∧ forLoop (asgn t) (ex cl F s1) (l.drop i) ρ' = some o ∧ Ok X.K B G' (τ ++ σ'.zip ρ') H', ⟨l.length, by omega, G1, ρ1, Evl.Ex.refl G1, by omega, l1, by rw [List.drop_zero]; exact e3, k1⟩, fun i m σ' H' hW => ?_⟩
  obtain ⟨him, G', ρ', xg, hl2, hl3, hc', k⟩ := hW
  cases hd : l[i]? with
  | none =>
    have hil : l.length ≤ i := List.getElem?_eq_none_iff.mp hd
    refine .inl ⟨(W1 G' H' _ i xg k).2 (by omega), ?_⟩
    rw [List.drop_of_length_le hil] at hc'
    simp only [forLoop, Option.some.injEq] at hc'
    subst hc'
    exact q hl3 σ' G' H' hl2 (x1.trans xg) k
  | some d =>
    have hlt : i < l.length := (List.getElem?_eq_some_iff.mp hd).1
    obtain ⟨hgo, hy⟩ := (W1 G' H' _ i xg k).1 d hd
    have hdrop : l.drop i = d :: l.drop (i + 1) := by
      rw [List.drop_eq_getElem_cons hlt]
      congr 1
      exact (List.getElem?_eq_some_iff.mp hd).2
    rw [hdrop] at hc'
    simp only [forLoop, bind, Option.bind_eq_some_iff] at hc'
    obtain ⟨ρ2, a1, o2, a2, a3⟩ := hc'
    refine .inr ⟨hgo, fun σ' H' => i + 1 + (m - 1) = l.length ∧ ∃ G' ρ', Ex G1 G' ∧ σ'.length = ρ'.length ∧ ρ'.length = ρ.length ∧ forLoop (asgn t) (ex cl F s1) (l.drop (i + 1)) ρ' = some o ∧ Ok X.K B G' (τ ++ σ'.zip ρ') H', fun σ2 H2 hN => ⟨m - 1, by omega, hN⟩, fun x H2 hx => ?_⟩
    obtain ⟨G2, xg2, k2, rx⟩ := hy x H2 hx
    refine hg B G2 H2 τ σ' ρ' ρ2 d x _ hl2 a1 k2 rx fun σ3 H3 l3 m3 _ k3 => ?_
    refine hb B G2 H3 τ σ3 ρ2 o2 _ l3 a2 k3 ?_
    cases o2 with
    | nx ρ4 => exact fun hn σ5 G5 H5 l5 x5 k5 => ⟨by omega, G5, ρ4, (xg.trans xg2).trans x5, l5, by omega, a3, k5⟩
    | rt r ρ4 =>
      simp only [Option.some.injEq] at a3
      subst a3
      exact fun hn v σ5 G5 H5 l5 x5 k5 => q (by omega) v σ5 G5 H5 l5 (((x1.trans xg).trans xg2).trans x5) k5
theorem ss_while (hp : PassesOwn (model X.prog X.w) X.A X.env X.xe) (hc : ST X cl (WT X e) c) (hb : SSs X cl F sts s1) : SS X cl F (.While e sts [] pos) (.while c s1) := by
  intro B G H τ σ ρ o D hl he ok q
  simp only [ex] at he
  refine WS_of (ps_while hp (pt_W X e) (pss_W X sts)) ?_
  refine ⟨fun m σ' H' => ∃ G' ρ', Ex G G' ∧ σ'.length = ρ'.length ∧ ρ'.length = ρ.length ∧ whileLoop (tst cl c) (ex cl F s1) m ρ' = some o ∧ Ok X.K B G' (τ ++ σ'.zip ρ') H', ⟨F, G, ρ, Evl.Ex.refl G, hl, rfl, he, ok⟩, fun m σ' H' hW => ?_⟩
  obtain ⟨G', ρ', xg, hl2, hl3, hw, k⟩ := hW
  cases m with
  | zero => simp [whileLoop] at hw
  | succ m =>
    simp only [whileLoop, tst, bind, Option.bind_eq_some_iff, Option.some.injEq, Prod.exists, Prod.mk.injEq] at hw
    obtain ⟨t, ρ1, ⟨r, ρ2, e1, t', e2, rfl, rfl⟩, e3⟩ := hw
    refine hc B G' H' τ σ' ρ' ρ2 r t' _ hl2 e1 (Option.bind_eq_some_iff.mpr e2) k fun G1 H1 l1 x1 k1 => ?_
    cases t' with
    | false =>
      rw [if_neg (by decide)] at e3
      simp only [Option.some.injEq] at e3
      subst e3
      exact q (by omega) σ' G1 H1 (by omega) (xg.trans x1) k1
    | true =>
      rw [if_pos rfl] at e3
      simp only [Option.bind_eq_some_iff] at e3
      obtain ⟨o2, a2, a3⟩ := e3
      refine ⟨fun σ2 H2 => ∃ G' ρ', Ex G G' ∧ σ2.length = ρ'.length ∧ ρ'.length = ρ.length ∧ whileLoop (tst cl c) (ex cl F s1) m ρ' = some o ∧ Ok X.K B G' (τ ++ σ2.zip ρ') H2, fun σ2 H2 hN => ⟨m, by omega, hN⟩, ?_⟩
      refine hb B G1 H1 τ σ' ρ2 o2 _ (by omega) a2 k1 ?_
      cases o2 with
      | nx ρ4 => exact fun hn σ5 G5 H5 l5 x5 k5 => ⟨G5, ρ4, (xg.trans x1).trans x5, l5, by omega, a3, k5⟩
      | rt r ρ4 =>
        simp only [Option.some.injEq] at a3
        subst a3
        exact fun hn v σ5 G5 H5 l5 x5 k5 => q (by omega) v σ5 G5 H5 l5 ((xg.trans x1).trans x5) k5
end
end PP
namespace PP
open PySem L2 PySem.Spec PyProof.Rows
/-! ### from the text to the core -/
structure FI where
  ix : Nat
  n : Nat
  dfl : List PyData
  io : Bool
  sc : Bool
structure Sta where
  N : List Str
  sc : Scope
  raw : Option Scope
  fns : List (Str × FI)
  cons : List (Str × PyData)
  sp : Option Nat
def idx (N : List Str) (x : Str) : Option Nat := N.findIdx? (· == x)
theorem idx_get {N : List Str} {x : Str} {i : Nat} (h : idx N x = some i) : N[i]? = some x := by
  obtain ⟨h1, h2, _⟩ := List.findIdx?_eq_some_iff_getElem.mp h
  rw [List.getElem?_eq_getElem h1]
  exact congrArg some (beq_iff_eq.mp h2)
def dbg (x : Str) : Bool := (x == ("__debug__" : Str)) || (x == ("__classdict__" : Str))
def locK (S : Sta) (x : Str) : Bool := match S.sc.names.lookup x with
  | some .local => true
  | some .cell => true
  | some .free => true
  | _ => false
def glK (S : Sta) (x : Str) : Bool := match S.sc.names.lookup x with
  | some .globalImplicit => true
  | _ => false
/-- may the name be stored to here -/
def stOk (S : Sta) (x : Str) : Bool := match S.sc.names.lookup x, S.raw with
  | some .local, _ => true
  | some .cell, none => true
  | some .cell, some sc => sc.names.lookup x == some .cell
  | _, _ => false
def bltNames : List Str := ["len", "sum", "abs", "tuple", "list", "min", "max", "int", "all", "any", "isinstance", "range", "bool", "str", "enumerate", "zip", "sorted", "set"]
structure Dyn (X : Cx) (S : Sta) (cl : Calls) : Prop where
  hN : X.N = S.N
  hsc : X.env.scope = S.sc
  calm : X.calm = true
  nd : S.N.Nodup
  hu : X.A.units + 65 < cLine
  kind : S.sc.kind = .function
  fnC : ∀ x, match S.raw with
    | none => X.fn x = true
    | some sc => X.fn x = (sc.names.lookup x == some .cell)
  blt : ∀ x ∈ bltNames, X.mg x = none
  con : ∀ x d, S.cons.lookup x = some d → ∃ v u, X.mg x = some u ∧ RelV v u ∧ ∀ G, Rep X.K G v d
  fns : ∀ x i, S.fns.lookup x = some i → (∀ j, j ≤ i.dfl.length → Callable X cl x i.ix i.n (i.dfl.drop j)) ∧ ∀ as r o, cl i.ix as = some (r, o) → okR r = true ∧ as.length = i.n
def ofB : Operator → Option O2
  | .Add => some .add
  | .Sub => some .sub
  | .Mult => some .mul
  | .FloorDiv => some .fdiv
  | .Mod => some .mod
  | .LShift => some .shl
  | .RShift => some .shr
  | .BitAnd => some .band
  | .BitOr => some .bor
  | _ => none
def ofC : CmpOp → Option O2
  | .Eq => some .eq
  | .NotEq => some .ne
  | .Lt => some .lt
  | .LtE => some .le
  | .Gt => some .gt
  | .GtE => some .ge
  | .Is => some .is
  | .IsNot => some .isnt
  | .In => some .isin
  | .NotIn => some .notin
theorem ofB_ok {op : Operator} {o : O2} (h : ofB op = some o) : opB o = some op := by
  cases op <;> simp only [ofB, Option.some.injEq, reduceCtorEq] at h <;> subst h <;> rfl
theorem ofC_ok {op : CmpOp} {o : O2} (h : ofC op = some o) : opC o = some op := by
  cases op <;> simp only [ofC, Option.some.injEq, reduceCtorEq] at h <;> subst h <;> rfl
def o1s : List O1 := [.sorted, .len, .sum, .abs, .tuple, .list, .min, .max, .int, .all, .any]
def ofF (x : Str) : Option O1 := o1s.find? fun o => bltOf o == some x
theorem ofF_ok {x : Str} {o : O1} (h : ofF x = some o) : bltOf o = some x := by
  have := List.find?_some h
  exact eq_of_beq this
theorem bltOf_mem {x : Str} {o : O1} (h : bltOf o = some x) : x ∈ bltNames := by
  cases o <;> simp only [bltOf, Option.some.injEq, reduceCtorEq] at h <;> subst h <;> decide
def ofTy (x : Str) : Option O1 := [O1.isint, .isbool, .istuple, .isstr].find? fun o => isTyN o == some x
theorem ofTy_ok {x : Str} {o : O1} (h : ofTy x = some o) : isTyN o = some x := by
  have := List.find?_some h
  exact eq_of_beq this
theorem isTyN_mem {x : Str} {o : O1} (h : isTyN o = some x) : x ∈ bltNames := by
  cases o <;> simp only [isTyN, Option.some.injEq, reduceCtorEq] at h <;> subst h <;> decide
def nmM : B2 → Str
  | .min => "min"
  | .max => "max"
def ofM (x : Str) : Option B2 := if x = ("min" : Str) then some .min else if x = ("max" : Str) then some .max else none
/-- a block's own names with their slots -/
def ownOf (N : List Str) (scope : Scope) : List (Str × Nat) := scope.names.filterMap fun y => match y.2 with
  | .local => (idx N y.1).map fun i => (y.1, i)
  | .cell => (idx N y.1).map fun i => (y.1, i)
  | _ => none
def Sta.blk (S : Sta) (scope : Scope) : Sta := { S with sc := relS scope S.sc, raw := some scope, sp := none }
def isPlainT : Expr → Bool
  | .UnaryOp .Not _ _ => false
  | .BoolOp .. => false
  | .IfExp .. => false
  | .Compare .. => false
  | _ => true
theorem plainT {e : Expr} (h : isPlainT e = true) : ∀ (env : Env) (whole : Sem Value), isTrue e env whole = (do let v ← whole; standAt e.pos; holding [v] (truthy v)) := by
  intro env whole
  cases e <;> first
    | rfl
    | (rename_i op _ _; cases op <;> first | rfl | cases h)
    | cases h
def notSet : Expr → Bool
  | .Set .. => false
  | _ => true
theorem folded {e : Expr} {env : Env} (h : notSet e = true) : ∀ x, foldedSetIterable e env x = pure x := by
  intro x
  cases e <;> first
    | rfl
    | cases h
def compTg : Nat → Sta → Expr → Option Tg
  | 0, _, _ => none
  | n + 1, S, .Name x _ => if stOk S x && !dbg x then (idx S.N x).map Tg.nm else none
  | n + 1, S, .Tuple es _ _ => if es.all notStar then (compTgs n S es).bind fun t => if tgLen t == es.length then some (.tp t) else none else none
  | n + 1, S, .Subscript (.Name x _) (.Constant (.int k) _ _) _ => if locK S x && !dbg x then (idx S.N x).map fun i => .ix i k else none
  | _, _, _ => none
where compTgs : Nat → Sta → List Expr → Option Tg
  | 0, _, _ => none
  | _ + 1, _, [] => some .nil
  | n + 1, S, e :: es => (compTg n S e).bind fun a => (compTgs n S es).map fun b => .cons a b
/-- arguments of a call: the defaults that fill up -/
def fillOf (i : FI) (m : Nat) : Option (List PyData) := if i.n ≤ m + i.dfl.length && decide (m ≤ i.n) then some (i.dfl.drop (m + i.dfl.length - i.n)) else none
/-- list(range(..)): its bounds -/
def lrgOf (f : Str) (args : List Expr) : Option (Option Expr × Expr) := match args with
  | [.Call (.Name g _) [a] [] _] => if f = ("list" : Str) ∧ g = ("range" : Str) then some (none, a) else none
  | [.Call (.Name g _) [a, b] [] _] => if f = ("list" : Str) ∧ g = ("range" : Str) then some (some a, b) else none
  | _ => none
/-- enumerate, zip: only where the target is a display -/
def compJ (cE cI : Expr → Option CE) (S : Sta) (tg e : Expr) : Option CE := match tg with
  | .Tuple _ _ _ => (match e with
    | .Call (.Name f _) [a] [] _ => if f = ("enumerate" : Str) then (if glK S "enumerate" && notStar a then (cE a).map CE.enum else none) else cI e
    | .Call (.Name f _) [a, b] [] _ => if f = ("zip" : Str) then (if glK S "zip" && notStar a && notStar b then (cE a).bind fun ca => (cE b).map fun cb => .zip ca cb else none) else cI e
    | _ => cI e)
  | _ => cI e
mutual
def compE : Nat → Sta → Expr → Option CE
  | 0, _, _ => none
  | n + 1, S, e => match e with
    | .Constant .none _ _ => some (.k .none)
    | .Constant (.bool b) _ _ => some (.k (.bool b))
    | .Constant (.int b) _ _ => some (.k (.int b))
    | .Constant (.str b) _ _ => some (.k (.str b))
    | .Name x _ => if dbg x then none else if locK S x then (idx S.N x).map CE.v else if glK S x then (S.cons.lookup x).map CE.k else none
    | .BinOp a op b _ => (ofB op).bind fun o => (compO n S a).bind fun oa => (compO n S b).map fun ob => mk2 o oa ob
    | .UnaryOp .USub a _ => (compO n S a).map (mk1 .neg)
    | .UnaryOp .Not a _ => (compO n S a).map (mk1 .not)
    | .BoolOp op es _ => compB n S op es
    | .IfExp t a b _ => (compT n S t).bind fun ct => (compE n S a).bind fun ca => (compE n S b).map fun cb => .ite ct ca cb
    | .Compare a [op] [b] _ => if behindInMarks op b then none else (ofC op).bind fun o => (compO n S a).bind fun oa => (compO n S b).map fun ob => mk2 o oa ob
    | .Compare a [op, op'] [b, c] _ => if lastMarks [op, op'] [b, c] then none else (ofC op).bind fun o => (ofC op').bind fun o' => (compE n S a).bind fun ca => (compE n S b).bind fun cb => (compE n S c).map fun cc => .chain o o' ca cb cc
    | .Subscript a (.Slice lo hi none _) _ => (compP n S lo).bind fun cl => (compP n S hi).bind fun ch => match a with
      | .Name x _ => if locK S x && !dbg x then (idx S.N x).map fun i => if S.sp == some i then .slsc i cl ch else .slv i cl ch else none
      | _ => (compE n S a).map fun ca => .sl ca cl ch
    | .Subscript a b _ => if notSlice b then (compO n S a).bind fun oa => (compO n S b).map fun ob => mk2 .ix oa ob else none
    | .Tuple es _ _ => (compA n S es).map CE.tup
    | .List es _ => (compA n S es).map CE.lst
    | .ListComp elt [⟨tg, it, ifs, k⟩] scope _ => if k == 0 then (compC n S elt tg it ifs scope).map fun q => .comp q.1 ((ownOf S.N scope).map (·.2)) q.2.1 q.2.2.1 q.2.2.2 else none
    | .Call (.Name f _) args [] _ => if dbg f then none else if glK S f then (match lrgOf f args with
      | some (none, b) => if glK S "range" && notStar b then (compE n S b).map (lrgC (.k (.int 0))) else none
      | some (some a, b) => if glK S "range" && notStar a && notStar b then (compE n S a).bind fun ca => (compE n S b).map fun cb => lrgC ca cb else none
      | none => compK n S f args) else none
    | _ => none
def compO : Nat → Sta → Expr → Option (CE ⊕ Nat)
  | 0, _, _ => none
  | n + 1, S, e => match e with
    | .Name x _ => if dbg x then none else if locK S x then (idx S.N x).map Sum.inr else (compE n S e).map Sum.inl
    | e => (compE n S e).map Sum.inl
def compP : Nat → Sta → Option Expr → Option CE
  | 0, _, _ => none
  | n + 1, S, oe => match oe with
    | none => some (.k .none)
    | some e => (compE n S e).bind fun c => match c with
      | .k .none => none
      | c => some c
def compA : Nat → Sta → List Expr → Option CE
  | 0, _, _ => none
  | n + 1, S, es => match es with
    | [] => some .nil
    | e :: es => if notStar e then (compE n S e).bind fun a => (compA n S es).map fun b => .cons a b else none
def compB : Nat → Sta → BoolOp → List Expr → Option CE
  | 0, _, _, _ => none
  | n + 1, S, op, es => match es with
    | [a] => compE n S a
    | a :: b :: r => (compE n S a).bind fun ca => (compB n S op (b :: r)).map fun cb => match op with
      | .And => .and ca cb
      | .Or => .or ca cb
    | [] => none
def compT : Nat → Sta → Expr → Option CE
  | 0, _, _ => none
  | n + 1, S, e => match e with
    | .UnaryOp .Not a _ => (compT n S a).map fun c => .op1 .not c
    | .BoolOp op es _ => compW n S op es
    | .Compare a [op] [b] _ => if behindInMarks op b then none else (ofC op).bind fun o => (compO n S a).bind fun oa => (compO n S b).map fun ob => mk2 o oa ob
    | .Compare a [op, op'] [b, c] _ => if lastMarks [op, op'] [b, c] then none else (ofC op).bind fun o => (ofC op').bind fun o' => (compE n S a).bind fun ca => (compE n S b).bind fun cb => (compE n S c).map fun cc => .chain o o' ca cb cc
    | e => if isPlainT e then (compO n S e).map (mk1 .truth) else none
def compW : Nat → Sta → BoolOp → List Expr → Option CE
  | 0, _, _, _ => none
  | n + 1, S, op, es => match es with
    | [a] => compT n S a
    | a :: b :: r => (compT n S a).bind fun ca => (compW n S op (b :: r)).map fun cb => match op with
      | .And => .and ca cb
      | .Or => .or ca cb
    | [] => none
def compI : Nat → Sta → Expr → Option CE
  | 0, _, _ => none
  | n + 1, S, e => match e with
    | .Call (.Name f _) [a] [] _ => if f = ("range" : Str) then (if glK S "range" && notStar a then (compE n S a).map fun ca => .rng (.k (.int 0)) ca else none) else compE n S e
    | .Call (.Name f _) [a, b] [] _ => if f = ("range" : Str) then (if glK S "range" && notStar a && notStar b then (compE n S a).bind fun ca => (compE n S b).map fun cb => .rng ca cb else none) else compE n S e
    | .Call (.Name f _) [a, b, c] [] _ => if f = ("range" : Str) then (if glK S "range" && notStar a && notStar b && notStar c then (compE n S a).bind fun ca => (compE n S b).bind fun cb => (compE n S c).map fun cc => .rng3 ca cb cc else none) else compE n S e
    | e => compE n S e
/-- a comprehension: what is walked, the target, the tests, the element -/
def compC : Nat → Sta → Expr → Expr → Expr → List Expr → Scope → Option (CE × Tg × CE × CE)
  | 0, _, _, _, _, _, _ => none
  | n + 1, S, elt, tg, it, ifs, scope =>
    if notSet it && blkC S.N S.sc scope (ownOf S.N scope) && decide (((ownOf S.N scope).map (·.2)).Nodup) && (match (relS scope S.sc).kind with | .function => true | _ => false) then
      (compJ (compE n S) (compI n S) S tg it).bind fun ci => (compTg n (S.blk scope) tg).bind fun t => if (tgS t).all (fun i => ((ownOf S.N scope).map (·.2)).contains i) then
        (match ifs with
          | [] => some (CE.k (.bool true))
          | [c] => compT n (S.blk scope) c
          | _ => (none : Option CE)).bind fun cc => (compE n (S.blk scope) elt).map fun ce => (ci, t, cc, ce)
      else none
    else none
/-- a call by name -/
def compK : Nat → Sta → Str → List Expr → Option CE
  | 0, _, _, _ => none
  | n + 1, S, f, args => match S.fns.lookup f with
    | some i =>
      if i.sc then match args with
        | [.Name y _] => if locK S y && !dbg y && i.n == 1 && i.dfl.isEmpty then (idx S.N y).map fun j => .callsc i.ix j else none
        | _ => none
      else if i.io then match args with
        | .Name y _ :: es => if locK S y && !dbg y && es.all notStar then (idx S.N y).bind fun j => (compA n S es).bind fun ca => (fillOf i (es.length + 1)).map fun d => .callm i.ix j (appC ca (kL d)) else none
        | _ => none
      else if args.isEmpty || !args.all notStar then none else (compA n S args).bind fun ca => (fillOf i args.length).map fun d => .call i.ix (appC ca (kL d))
    | none => match args with
      | [a] => if notStar a then (ofF f).bind fun o => (compO n S a).map (mk1 o) else none
      | [a, b] =>
        if f = ("isinstance" : Str) then match b with
          | .Name y _ => if glK S y && notStar a then (ofTy y).bind fun o => (compO n S a).map (mk1 o) else none
          | _ => none
        else if notStar a && notStar b then (ofM f).bind fun o => (compE n S a).bind fun ca => (compE n S b).map fun cb => .bi2 o ca cb else none
      | _ => none
end
end PP
namespace PP
open PySem L2 PySem.Spec PyProof.Rows
section
variable {X : Cx} {S : Sta} {cl : Calls} {x : Str}
theorem Dyn.vis (D : Dyn X S cl) (h : locK S x = true) : Vis X.env.scope x := by
  unfold locK at h
  rw [D.hsc]
  unfold Vis
  split at h
  · exact .inl (by assumption)
  · exact .inr (.inl (by assumption))
  · exact .inr (.inr (by assumption))
  · cases h
theorem Dyn.gl (D : Dyn X S cl) (h : glK S x = true) : Gl X x := by
  unfold glK at h
  show X.env.scope.names.lookup x = _
  rw [D.hsc]
  split at h
  · assumption
  · cases h
theorem Dyn.st (D : Dyn X S cl) (h : stOk S x = true) : L2.Loc X.env.scope x ∧ (X.fn x = true ∨ X.env.scope.names.lookup x = some .local) := by
  unfold stOk at h
  have f := D.fnC x
  rw [D.hsc]
  unfold L2.Loc
  split at h
  · exact ⟨.inl (by assumption), .inr (by assumption)⟩
  · rename_i h1 h2
    rw [h2] at f
    exact ⟨.inr h1, .inl f⟩
  · rename_i sc h1 h2
    rw [h2] at f
    exact ⟨.inr h1, .inl (by rw [f]; exact h)⟩
  · cases h
theorem dbg_no (h : dbg x = false) : (x == ("__debug__" : Str)) = false ∧ (x == ("__classdict__" : Str)) = false := by
  unfold dbg at h
  rw [Bool.or_eq_false_iff] at h
  exact h
theorem Dyn.blk (D : Dyn X S cl) {scope : Scope} (hk : (relS scope S.sc).kind = .function) (s : Shared) (H : Hp) (C : Addr) (l : List (Str × Addr)) (fp : List Addr) : Dyn (Blk X scope s H C l fp) (S.blk scope) cl where
  hN := D.hN
  hsc := by
    show relS scope X.env.scope = relS scope S.sc
    rw [D.hsc]
  calm := D.calm
  nd := D.nd
  hu := D.hu
  kind := hk
  fnC := fun x => rfl
  blt := D.blt
  con := D.con
  fns := fun x i h => ⟨fun j hj => by
    obtain ⟨k, a, fd, ps, vs, ds, r⟩ := ((D.fns x i h).1 j hj).ex
    exact ⟨k, a, fd, ps, vs, ds, r⟩, (D.fns x i h).2⟩
end
theorem compTg_ok {X : Cx} {S : Sta} {cl : Calls} (D : Dyn X S cl) : ∀ (n : Nat), (∀ (e : Expr) (t : Tg), compTg n S e = some t → SG X e t) ∧ (∀ (es : List Expr) (t : Tg), es.all notStar = true → compTg.compTgs n S es = some t → SGs X es t) := by
  intro n
  induction n with
  | zero => exact ⟨fun e t h => by simp [compTg] at h, fun es t _ h => by simp [compTg.compTgs] at h⟩
  | succ n ih =>
    refine ⟨fun e t h => ?_, fun es t hs h => ?_⟩
    · unfold compTg at h
      split at h
      · cases h
      · rename_i x p hn
        simp only [Option.ite_none_right_eq_some, Bool.and_eq_true, Bool.not_eq_true', Option.map_eq_some_iff] at h
        obtain ⟨⟨h1, h2⟩, i, h3, rfl⟩ := h
        obtain ⟨a, b⟩ := D.st h1
        have hN := idx_get h3
        rw [← D.hN] at hN
        exact sg_name (by rw [D.hN]; exact D.nd) hN a b
      · rename_i es k p hn
        simp only [Option.ite_none_right_eq_some, Option.bind_eq_some_iff, beq_iff_eq, Option.some.injEq] at h
        obtain ⟨h1, t', h2, h3, rfl⟩ := h
        cases hn
        exact sg_tup D.calm h1 h3 (ih.2 es t' h1 h2)
      · rename_i x p1 k j p2 p hn
        simp only [Option.ite_none_right_eq_some, Bool.and_eq_true, Bool.not_eq_true', Option.map_eq_some_iff] at h
        obtain ⟨⟨h1, h2⟩, i, h3, rfl⟩ := h
        have hN := idx_get h3
        rw [← D.hN] at hN
        exact sg_ix hN (D.vis h1) (dbg_no h2).1 (dbg_no h2).2
      · cases h
    · unfold compTg.compTgs at h
      split at h
      · cases h
      · simp only [Option.some.injEq] at h
        subst h
        exact sgs_nil
      · rename_i e es hn
        cases hn
        simp only [Option.bind_eq_some_iff, Option.map_eq_some_iff] at h
        obtain ⟨a, h1, b, h2, rfl⟩ := h
        rw [List.all_cons, Bool.and_eq_true] at hs
        exact sgs_cons hs.1 (ih.1 e a h1) (ih.2 es b hs.2 h2)
structure COk (cl : Calls) (n : Nat) : Prop where
  E : ∀ X S e c, Dyn X S cl → compE n S e = some c → SE X cl e c
  O : ∀ X S e c, Dyn X S cl → compO n S e = some c → Opd X cl e c
  P : ∀ X S e c, Dyn X S cl → compP n S e = some c → SP X cl e c
  A : ∀ X S es c, Dyn X S cl → compA n S es = some c → SA X cl es c
  B : ∀ X S op es c pos, Dyn X S cl → compB n S op es = some c → SE X cl (.BoolOp op es pos) c
  T : ∀ X S e c, Dyn X S cl → compT n S e = some c → ST X cl (WT X e) c
  W : ∀ X S op es c pos, Dyn X S cl → compW n S op es = some c → ST X cl (WW X (.BoolOp op es pos)) c
  I : ∀ X S e c tg, Dyn X S cl → compI n S e = some c → SI X cl tg e c
  C : ∀ X S elt tg it ifs scope c t cc ce, Dyn X S cl → compC n S elt tg it ifs scope = some (c, t, cc, ce) → (∀ x, foldedSetIterable it X.env x = pure x) ∧ BlkOk X.N X.env.scope scope (ownOf S.N scope) ∧ ((ownOf S.N scope).map (·.2)).Nodup ∧ SI X cl tg it c ∧ (∀ i ∈ tgS t, i ∈ (ownOf S.N scope).map (·.2)) ∧
    (∀ s H C l fp, SG (Blk X scope s H C l fp) tg t) ∧ (∀ s H C l fp, ST (Blk X scope s H C l fp) cl (WPs (Blk X scope s H C l fp) ifs) cc) ∧ ∀ s H C l fp, SD (Blk X scope s H C l fp) cl elt ce
  Kk : ∀ X S f args c p pos, Dyn X S cl → dbg f = false → glK S f = true → compK n S f args = some c → SE X cl (.Call (.Name f p) args [] pos) c
theorem fill_ok {X : Cx} {S : Sta} {cl : Calls} (D : Dyn X S cl) {f : Str} {i : FI} (h : S.fns.lookup f = some i) {m : Nat} {d : List PyData} (hf : fillOf i m = some d) : Callable X cl f i.ix i.n d := by
  unfold fillOf at hf
  simp only [Option.ite_none_right_eq_some, Bool.and_eq_true, decide_eq_true_eq, Option.some.injEq] at hf
  obtain ⟨⟨h1, h2⟩, rfl⟩ := hf
  exact (D.fns f i h).1 _ (by omega)
theorem ofM_ok {f : Str} {o : B2} (h : ofM f = some o) : o = .min ∧ f = "min" ∨ o = .max ∧ f = "max" := by
  unfold ofM at h
  split at h
  · cases h
    exact .inl ⟨rfl, by assumption⟩
  · split at h
    · cases h
      exact .inr ⟨rfl, by assumption⟩
    · cases h
theorem lrgOf1 {f : Str} {args : List Expr} {b : Expr} (h : lrgOf f args = some (none, b)) : ∃ (g : Str) (p2 pos2 : Pos), f = "list" ∧ g = "range" ∧ args = [.Call (.Name g p2) [b] [] pos2] := by
  unfold lrgOf at h
  split at h
  · simp only [Option.ite_none_right_eq_some, Option.some.injEq, Prod.mk.injEq, true_and] at h
    obtain ⟨⟨h1, h2⟩, rfl⟩ := h
    exact ⟨_, _, _, h1, h2, rfl⟩
  · simp only [Option.ite_none_right_eq_some, Option.some.injEq, Prod.mk.injEq, reduceCtorEq, false_and, and_false] at h
  · cases h
theorem lrgOf2 {f : Str} {args : List Expr} {a b : Expr} (h : lrgOf f args = some (some a, b)) : ∃ (g : Str) (p2 pos2 : Pos), f = "list" ∧ g = "range" ∧ args = [.Call (.Name g p2) [a, b] [] pos2] := by
  unfold lrgOf at h
  split at h
  · simp only [Option.ite_none_right_eq_some, Option.some.injEq, Prod.mk.injEq, reduceCtorEq, false_and, and_false] at h
  · simp only [Option.ite_none_right_eq_some, Option.some.injEq, Prod.mk.injEq] at h
    obtain ⟨⟨h1, h2⟩, rfl, rfl⟩ := h
    exact ⟨_, _, _, h1, h2, rfl⟩
  · cases h
theorem compJ_ok {X : Cx} {S : Sta} {cl : Calls} (D : Dyn X S cl) {cE cI : Expr → Option CE} (hE : ∀ e c, cE e = some c → SE X cl e c) (hI : ∀ e c tg, cI e = some c → SI X cl tg e c) {tg e : Expr} {c : CE} (h : compJ cE cI S tg e = some c) : SI X cl tg e c := by
  unfold compJ at h
  split at h
  · split at h
    · split at h
      · rename_i hf
        subst hf
        simp only [Option.ite_none_right_eq_some, Bool.and_eq_true, Option.map_eq_some_iff] at h
        obtain ⟨⟨h0, hs⟩, ca, h1, rfl⟩ := h
        exact si_enum (D.gl h0) (D.blt _ (by decide)) hs (hE _ _ h1).sd
      · exact hI _ _ _ h
    · split at h
      · rename_i hf
        subst hf
        simp only [Option.ite_none_right_eq_some, Bool.and_eq_true, Option.bind_eq_some_iff, Option.map_eq_some_iff] at h
        obtain ⟨⟨⟨h0, hs⟩, hs2⟩, ca, h1, cb, h2, rfl⟩ := h
        exact si_zip (D.gl h0) (D.blt _ (by decide)) hs hs2 (hE _ _ h1).sd (hE _ _ h2).sd
      · exact hI _ _ _ h
    · exact hI _ _ _ h
  · exact hI _ _ _ h
theorem comp_ok (cl : Calls) : ∀ n, COk cl n := by
  intro n
  induction n with
  | zero => constructor <;> intros <;> rename_i h <;> first | (simp [compE] at h; done) | (simp [compO] at h; done) | (simp [compP] at h; done) | (simp [compA] at h; done) | (simp [compB] at h; done) | (simp [compT] at h; done) | (simp [compW] at h; done) | (simp [compI] at h; done) | (simp [compC] at h; done) | (simp [compK] at h; done)
  | succ n ih =>
    have nm : ∀ {X : Cx} {S : Sta} {x : Str} {i : Nat}, Dyn X S cl → idx S.N x = some i → X.N[i]? = some x := fun D h => by
      rw [D.hN]
      exact idx_get h
    constructor
    case E =>
      intro X S e c D h
      unfold compE at h
      split at h
      · cases h
        exact se_k trivial
      · cases h
        exact se_k rfl
      · cases h
        exact se_k rfl
      · cases h
        exact se_k rfl
      · rename_i x p
        split at h
        · cases h
        · rename_i hd
          have hd' := dbg_no (by simpa using hd)
          split at h
          · rename_i hl
            simp only [Option.map_eq_some_iff] at h
            obtain ⟨i, h1, rfl⟩ := h
            exact se_v (nm D h1) (D.vis hl) hd'.1 hd'.2
          · split at h
            · rename_i hg
              simp only [Option.map_eq_some_iff] at h
              obtain ⟨d, h1, rfl⟩ := h
              obtain ⟨v, u, h2, h3, h4⟩ := D.con _ _ h1
              exact se_c (D.gl hg) h2 h3 h4 hd'.1
            · cases h
      · simp only [Option.bind_eq_some_iff, Option.map_eq_some_iff] at h
        obtain ⟨o, h1, oa, h2, ob, h3, rfl⟩ := h
        exact se_bin D.hu (ofB_ok h1) (ih.O _ _ _ _ D h2) (ih.O _ _ _ _ D h3)
      · simp only [Option.map_eq_some_iff] at h
        obtain ⟨oa, h1, rfl⟩ := h
        exact se_neg (ih.O _ _ _ _ D h1)
      · simp only [Option.map_eq_some_iff] at h
        obtain ⟨oa, h1, rfl⟩ := h
        exact se_not (ih.O _ _ _ _ D h1)
      · exact ih.B _ _ _ _ _ _ D h
      · simp only [Option.bind_eq_some_iff, Option.map_eq_some_iff] at h
        obtain ⟨ct, h1, ca, h2, cb, h3, rfl⟩ := h
        exact se_ite (ih.T _ _ _ _ D h1) (ih.E _ _ _ _ D h2) (ih.E _ _ _ _ D h3)
      · split at h
        · cases h
        · rename_i hm
          simp only [Option.bind_eq_some_iff, Option.map_eq_some_iff] at h
          obtain ⟨o, h1, oa, h2, ob, h3, rfl⟩ := h
          exact se_cmp D.hu (ofC_ok h1) (by simpa using hm) (ih.O _ _ _ _ D h2) (ih.O _ _ _ _ D h3)
      · split at h
        · cases h
        · rename_i hm
          simp only [Option.bind_eq_some_iff, Option.map_eq_some_iff] at h
          obtain ⟨o, h1, o', h2, ca, h3, cb, h4, cc, h5, rfl⟩ := h
          exact se_chain D.hu (ofC_ok h1) (ofC_ok h2) (by simpa using hm) (ih.E _ _ _ _ D h3).sd (ih.E _ _ _ _ D h4).sd (ih.E _ _ _ _ D h5).sd
      · simp only [Option.bind_eq_some_iff] at h
        obtain ⟨c1, h1, c2, h2, h3⟩ := h
        split at h3
        · simp only [Option.ite_none_right_eq_some, Bool.and_eq_true, Bool.not_eq_true', Option.map_eq_some_iff] at h3
          obtain ⟨⟨h4, h5⟩, i, h6, h7⟩ := h3
          have hd' := dbg_no h5
          split at h7
          · subst h7
            exact se_slsc (nm D h6) (D.vis h4) hd'.1 hd'.2 (ih.P _ _ _ _ D h1) (ih.P _ _ _ _ D h2)
          · subst h7
            exact se_slv (nm D h6) (D.vis h4) hd'.1 hd'.2 (ih.P _ _ _ _ D h1) (ih.P _ _ _ _ D h2)
        · simp only [Option.map_eq_some_iff] at h3
          obtain ⟨ca, h4, rfl⟩ := h3
          exact se_sl (ih.E _ _ _ _ D h4).sd (ih.P _ _ _ _ D h1) (ih.P _ _ _ _ D h2)
      · split at h
        · rename_i hs
          simp only [Option.bind_eq_some_iff, Option.map_eq_some_iff] at h
          obtain ⟨oa, h2, ob, h3, rfl⟩ := h
          exact se_ix (plainIx hs) (ih.O _ _ _ _ D h2) (ih.O _ _ _ _ D h3)
        · cases h
      · simp only [Option.map_eq_some_iff] at h
        obtain ⟨c, h1, rfl⟩ := h
        exact se_tup (ih.A _ _ _ _ D h1)
      · simp only [Option.map_eq_some_iff] at h
        obtain ⟨c, h1, rfl⟩ := h
        exact se_lst (ih.A _ _ _ _ D h1)
      · simp only [Option.ite_none_right_eq_some, Option.map_eq_some_iff, Prod.exists, beq_iff_eq] at h
        obtain ⟨h0, ci, t, cc, ce, h1, rfl⟩ := h
        subst h0
        obtain ⟨a1, a2, a3, a4, a5, a6, a7, a8⟩ := ih.C _ _ _ _ _ _ _ _ _ _ _ D h1
        exact se_comp D.calm (by rw [D.hN]; exact D.nd) a1 a2 a3 a4 a5 a6 a7 a8
      · split at h
        · cases h
        · rename_i hd
          simp only [Option.ite_none_right_eq_some] at h
          obtain ⟨hgl, h⟩ := h
          split at h
          · rename_i b hr
            obtain ⟨g, p2, pos2, rfl, rfl, rfl⟩ := lrgOf1 hr
            simp only [Option.ite_none_right_eq_some, Bool.and_eq_true, Option.map_eq_some_iff] at h
            obtain ⟨⟨h0, hs⟩, cb, h1, rfl⟩ := h
            exact se_lrg1 D.calm (D.gl hgl) (D.blt _ (by decide)) (D.gl h0) (D.blt _ (by decide)) hs (ih.E _ _ _ _ D h1).sd
          · rename_i a b hr
            obtain ⟨g, p2, pos2, rfl, rfl, rfl⟩ := lrgOf2 hr
            simp only [Option.ite_none_right_eq_some, Bool.and_eq_true, Option.bind_eq_some_iff, Option.map_eq_some_iff] at h
            obtain ⟨⟨⟨h0, hs⟩, hs2⟩, ca, h1, cb, h2, rfl⟩ := h
            exact se_lrg2 D.calm (D.gl hgl) (D.blt _ (by decide)) (D.gl h0) (D.blt _ (by decide)) hs hs2 (ih.E _ _ _ _ D h1).sd (ih.E _ _ _ _ D h2).sd
          · exact ih.Kk _ _ _ _ _ _ _ D (by simpa using hd) hgl h
      · cases h
    case O =>
      intro X S e c D h
      unfold compO at h
      split at h
      · rename_i x p
        split at h
        · cases h
        · rename_i hd
          have hd' := dbg_no (by simpa using hd)
          split at h
          · rename_i hl
            simp only [Option.map_eq_some_iff] at h
            obtain ⟨i, h1, rfl⟩ := h
            exact .v (nm D h1) (D.vis hl) hd'.1 hd'.2
          · simp only [Option.map_eq_some_iff] at h
            obtain ⟨c', h1, rfl⟩ := h
            exact .e (ih.E _ _ _ _ D h1).sd
      · simp only [Option.map_eq_some_iff] at h
        obtain ⟨c', h1, rfl⟩ := h
        exact .e (ih.E _ _ _ _ D h1).sd
    case P =>
      intro X S e c D h
      unfold compP at h
      split at h
      · cases h
        exact .none
      · simp only [Option.bind_eq_some_iff] at h
        obtain ⟨c', h1, h2⟩ := h
        split at h2
        · cases h2
        · rename_i hn
          cases h2
          refine .some (fun d z => ?_) (ih.E _ _ _ _ D h1).sd
          unfold bnd at z
          split at z
          · exact hn rfl
          · cases z
          · cases z
    case A =>
      intro X S es c D h
      unfold compA at h
      split at h
      · cases h
        exact sa_nil
      · simp only [Option.ite_none_right_eq_some, Option.bind_eq_some_iff, Option.map_eq_some_iff] at h
        obtain ⟨hs, a, h1, b, h2, rfl⟩ := h
        exact sa_cons hs (ih.E _ _ _ _ D h1).sd (ih.A _ _ _ _ D h2)
    case B =>
      intro X S op es c pos D h
      unfold compB at h
      split at h
      · exact se_one (ih.E _ _ _ _ D h)
      · simp only [Option.bind_eq_some_iff, Option.map_eq_some_iff] at h
        obtain ⟨ca, h1, cb, h2, rfl⟩ := h
        cases op
        · exact se_and (ih.E _ _ _ _ D h1).sd (ih.B _ _ _ _ _ _ D h2)
        · exact se_or (ih.E _ _ _ _ D h1).sd (ih.B _ _ _ _ _ _ D h2)
      · cases h
    case T =>
      intro X S e c D h
      unfold compT at h
      split at h
      · simp only [Option.map_eq_some_iff] at h
        obtain ⟨ca, h1, rfl⟩ := h
        exact st_not (ih.T _ _ _ _ D h1)
      · exact (ih.W _ _ _ _ _ _ D h).pt
      · split at h
        · cases h
        · rename_i hm
          simp only [Option.bind_eq_some_iff, Option.map_eq_some_iff] at h
          obtain ⟨o, h1, oa, h2, ob, h3, rfl⟩ := h
          exact st_cmp D.hu (ofC_ok h1) (by simpa using hm) (ih.O _ _ _ _ D h2) (ih.O _ _ _ _ D h3)
      · split at h
        · cases h
        · rename_i hm
          simp only [Option.bind_eq_some_iff, Option.map_eq_some_iff] at h
          obtain ⟨o, h1, o', h2, ca, h3, cb, h4, cc, h5, rfl⟩ := h
          exact st_chain D.hu (ofC_ok h1) (ofC_ok h2) (by simpa using hm) (ih.E _ _ _ _ D h3).sd (ih.E _ _ _ _ D h4).sd (ih.E _ _ _ _ D h5).sd
      · split at h
        · rename_i hp
          simp only [Option.map_eq_some_iff] at h
          obtain ⟨oa, h1, rfl⟩ := h
          exact st_truth (fun w => plainT hp _ w) (ih.O _ _ _ _ D h1)
        · cases h
    case W =>
      intro X S op es c pos D h
      unfold compW at h
      split at h
      · exact sw_one (ih.T _ _ _ _ D h)
      · simp only [Option.bind_eq_some_iff, Option.map_eq_some_iff] at h
        obtain ⟨ca, h1, cb, h2, rfl⟩ := h
        cases op
        · exact sw_and (ih.T _ _ _ _ D h1) (ih.W _ _ _ _ _ _ D h2)
        · exact sw_or (ih.T _ _ _ _ D h1) (ih.W _ _ _ _ _ _ D h2)
      · cases h
    case I =>
      intro X S e c tg D h
      have hr : glK S "range" = true → Gl X "range" ∧ X.mg "range" = none := fun z => ⟨D.gl z, D.blt _ (by decide)⟩
      unfold compI at h
      split at h
      · split at h
        · rename_i hf
          subst hf
          simp only [Option.ite_none_right_eq_some, Bool.and_eq_true, Option.map_eq_some_iff] at h
          obtain ⟨⟨h0, hs⟩, ca, h1, rfl⟩ := h
          exact si_rng1 (hr h0).1 (hr h0).2 hs (ih.E _ _ _ _ D h1).sd
        · exact si_e (ih.E _ _ _ _ D h).sd
      · split at h
        · rename_i hf
          subst hf
          simp only [Option.ite_none_right_eq_some, Bool.and_eq_true, Option.bind_eq_some_iff, Option.map_eq_some_iff] at h
          obtain ⟨⟨⟨h0, hs⟩, hs2⟩, ca, h1, cb, h2, rfl⟩ := h
          exact si_rng2 (hr h0).1 (hr h0).2 hs hs2 (ih.E _ _ _ _ D h1).sd (ih.E _ _ _ _ D h2).sd
        · exact si_e (ih.E _ _ _ _ D h).sd
      · split at h
        · rename_i hf
          subst hf
          simp only [Option.ite_none_right_eq_some, Bool.and_eq_true, Option.bind_eq_some_iff, Option.map_eq_some_iff] at h
          obtain ⟨⟨⟨⟨h0, hs⟩, hs2⟩, hs3⟩, ca, h1, cb, h2, cc, h3, rfl⟩ := h
          exact si_rng3 (hr h0).1 (hr h0).2 hs hs2 hs3 (ih.E _ _ _ _ D h1).sd (ih.E _ _ _ _ D h2).sd (ih.E _ _ _ _ D h3).sd
        · exact si_e (ih.E _ _ _ _ D h).sd
      · exact si_e (ih.E _ _ _ _ D h).sd
    case C =>
      intro X S elt tg it ifs scope c t cc ce D h
      unfold compC at h
      simp only [Option.ite_none_right_eq_some, Bool.and_eq_true, decide_eq_true_eq, Option.bind_eq_some_iff, Option.map_eq_some_iff, Prod.mk.injEq, List.all_eq_true] at h
      obtain ⟨⟨⟨⟨h1, h2⟩, h3⟩, h4⟩, ci, h5, t', h6, h7, cc', h8, ce', h9, rfl, rfl, rfl, rfl⟩ := h
      have hk : (relS scope S.sc).kind = .function := by
        split at h4
        · assumption
        · cases h4
      refine ⟨folded h1, ?_, h3, compJ_ok D (fun e c => ih.E _ _ _ _ D) (fun e c tg => ih.I _ _ _ _ tg D) h5, fun i hi => ?_, fun s H C l fp => (compTg_ok (D.blk hk s H C l fp) n).1 _ _ h6, fun s H C l fp => ?_, fun s H C l fp => (ih.E _ _ _ _ (D.blk hk s H C l fp) h9).sd⟩
      · rw [D.hN, D.hsc]
        exact blkOk_by h2
      · simpa using h7 i hi
      · split at h8
        · cases h8
          exact st_nil
        · exact st_one (ih.T _ _ _ _ (D.blk hk s H C l fp) h8)
        · cases h8
    case Kk =>
      intro X S f args c p pos D hd hg h
      have hd' := dbg_no hd
      have hb : ∀ y, y ∈ bltNames → X.mg y = none := D.blt
      unfold compK at h
      split at h
      · rename_i i hi
        have hok := (D.fns f i hi).2
        split at h
        · split at h
          · simp only [Option.ite_none_right_eq_some, Bool.and_eq_true, Bool.not_eq_true', Option.map_eq_some_iff, beq_iff_eq, List.isEmpty_iff] at h
            obtain ⟨⟨⟨⟨h1, h2⟩, h3⟩, h4⟩, j, h5, rfl⟩ := h
            have hd2 := dbg_no h2
            have hC := (D.fns f i hi).1 0 (Nat.zero_le _)
            rw [h3, h4] at hC
            rw [h3] at hok
            exact se_callsc (nm D h5) (D.vis h1) hd2.1 hd2.2 hC hok (D.gl hg) hd'.1
          · cases h
        · split at h
          · split at h
            · simp only [Option.ite_none_right_eq_some, Bool.and_eq_true, Bool.not_eq_true', Option.map_eq_some_iff, Option.bind_eq_some_iff] at h
              obtain ⟨⟨⟨h1, h2⟩, h3⟩, j, h4, ca, h5, d, h6, rfl⟩ := h
              have hd2 := dbg_no h2
              exact se_callm (nm D h4) (D.vis h1) hd2.1 hd2.2 (fill_ok D hi h6) hok (D.gl hg) hd'.1 h3 (ih.A _ _ _ _ D h5)
            · cases h
          · split at h
            · cases h
            · rename_i hne
              simp only [Option.bind_eq_some_iff, Option.map_eq_some_iff] at h
              obtain ⟨ca, h1, d, h2, rfl⟩ := h
              simp only [Bool.or_eq_true, Bool.not_eq_true', not_or, Bool.not_eq_true, Bool.not_eq_false] at hne
              exact se_call (by simpa using hne.1) (fill_ok D hi h2) hok (D.gl hg) hd'.1 hne.2 (ih.A _ _ _ _ D h1)
      · split at h
        · simp only [Option.ite_none_right_eq_some, Option.bind_eq_some_iff, Option.map_eq_some_iff] at h
          obtain ⟨hs, o, h1, oa, h2, rfl⟩ := h
          have h3 := ofF_ok h1
          exact se_b1 D.hu D.calm h3 (D.gl hg) (hb _ (bltOf_mem h3)) hs (ih.O _ _ _ _ D h2)
        · split at h
          · rename_i hf
            subst hf
            split at h
            · simp only [Option.ite_none_right_eq_some, Bool.and_eq_true, Option.bind_eq_some_iff, Option.map_eq_some_iff] at h
              obtain ⟨⟨hs1, hs2⟩, o, h1, oa, h2, rfl⟩ := h
              have h3 := ofTy_ok h1
              exact se_isi h3 (D.gl hg) (hb _ (by decide)) (D.gl hs1) (hb _ (isTyN_mem h3)) hs2 (ih.O _ _ _ _ D h2)
            · cases h
          · simp only [Option.ite_none_right_eq_some, Bool.and_eq_true, Option.bind_eq_some_iff, Option.map_eq_some_iff] at h
            obtain ⟨⟨hs1, hs2⟩, o, h1, ca, h2, cb, h3, rfl⟩ := h
            have h4 := ofM_ok h1
            refine se_bi2 D.calm h4 (D.gl hg) (hb _ ?_) hs1 hs2 (ih.E _ _ _ _ D h2).sd (ih.E _ _ _ _ D h3).sd
            rcases h4 with ⟨_, h4⟩ | ⟨_, h4⟩ <;> rw [h4] <;> decide
        · cases h
end PP
namespace PP
open PySem L2 PySem.Spec PyProof.Rows
theorem sw_gen {elt : Expr} {gs : List Comprehension} {scope : Scope} {p py : Pos} {y : Str} {l : Nat} {env : Env} : swapsWith (.ListComp elt gs scope p) (some (.Name y py)) l env = pure (env.blockKind == .function && env.kindOf y == some .local && py.line == p.line && !(scope.names.any fun (n, k) => n == y && (k == .local || k == .cell))) := rfl
def tsNames (sc : Scope) (ts : List Expr) (line : Nat) : List Str := ts.filterMap fun
    | .Name id pos => if sc.names.lookup id == some .local && pos.line == line then some id else none
    | _ => none
def isStarE : Expr → Bool
  | .Starred .. => true
  | _ => false
theorem isStarE_no {a : Expr} (h : notStar a = true) : isStarE a = false := by
  cases a <;> first
    | rfl
    | cases h
def nsw (sc : Scope) (ts vs : List Expr) : Bool :=
  !(ts.length == 2 || ts.length == 3) || vs.length != ts.length || vs.any isStarE ||
    (tsNames sc ts ((ts.head?.map (·.pos.line)).getD 0)).length != ts.length || (tsNames sc ts ((ts.head?.map (·.pos.line)).getD 0)).eraseDups.length != (tsNames sc ts ((ts.head?.map (·.pos.line)).getD 0)).length || vs.all (foldedForSure 8)
theorem sw_eq {ts vs : List Expr} {k k2 : Nat} {p p2 : Pos} {env : Env} (hk : env.scope.kind = .function) : swappedStores [.Tuple ts k p] (.Tuple vs k2 p2) env =
    if (!(ts.length == 2 || ts.length == 3) || vs.length != ts.length) = true then pure none else if vs.any isStarE = true then pure none else
    if ((tsNames env.scope ts ((ts.head?.map (·.pos.line)).getD 0)).length != ts.length || (tsNames env.scope ts ((ts.head?.map (·.pos.line)).getD 0)).eraseDups.length != (tsNames env.scope ts ((ts.head?.map (·.pos.line)).getD 0)).length) = true then pure none else
    if vs.all (foldedForSure 8) = true then pure none else if vs.all (constantsAlone 8) = true then (do unsupported "assign.tuple-of-constant-expressions:order-of-the-stores"; pure (some (tsNames env.scope ts ((ts.head?.map (·.pos.line)).getD 0)))) else pure (some (tsNames env.scope ts ((ts.head?.map (·.pos.line)).getD 0))) := by
  have hb : env.blockKind = .function := by unfold Env.blockKind; rw [hk]; rfl
  have hn : ∀ b : Bool, (b || (ScopeKind.function != ScopeKind.function)) = b := fun b => by cases b <;> rfl
  unfold swappedStores
  simp only [hb, hn]
  rfl
theorem nsw_ok {ts vs : List Expr} {k k2 : Nat} {p p2 : Pos} {env : Env} (hk : env.scope.kind = .function) (h : nsw env.scope ts vs = true) : swappedStores [.Tuple ts k p] (.Tuple vs k2 p2) env = pure none := by
  rw [sw_eq hk]
  unfold nsw at h
  simp only [Bool.or_eq_true] at h
  split
  · rfl
  · rename_i h1
    simp only [Bool.or_eq_true, not_or] at h1
    split
    · rfl
    · rename_i h2
      split
      · rfl
      · rename_i h3
        simp only [Bool.or_eq_true, not_or] at h3
        split
        · rfl
        · rename_i h4
          rcases h with ((((h | h) | h) | h) | h) | h
          · exact absurd h h1.1
          · exact absurd h h1.2
          · exact absurd h h2
          · exact absurd h h3.1
          · exact absurd h h3.2
          · exact absurd h h4
theorem sw_no {ts : List Expr} {k : Nat} {p : Pos} {e : Expr} {env : Env} (h : ∀ vs k2 p2, e ≠ .Tuple vs k2 p2) : swappedStores [.Tuple ts k p] e env = pure none := by
  cases e <;> first
    | rfl
    | exact absurd rfl (h _ _ _)
theorem sws_tup {ts : List Expr} {k : Nat} {p : Pos} {e : Expr} {l : Nat} {env : Env} : swapsWithSole [.Tuple ts k p] e l env = pure false := by
  cases e <;> rfl
theorem swapped {ts vs : List Expr} {k k2 : Nat} {p p2 : Pos} {env : Env} {ns : List Str} (hk : env.scope.kind = .function) (hl : (!(ts.length == 2 || ts.length == 3) || vs.length != ts.length) = false) (hn : tsNames env.scope ts ((ts.head?.map (·.pos.line)).getD 0) = ns) (hln : ns.length = ts.length) (hd : (ns.eraseDups.length != ns.length) = false)
    (hf : vs.all (foldedForSure 8) = false) (hc : vs.all (constantsAlone 8) = false) (hs : vs.any isStarE = false) : swappedStores [.Tuple ts k p] (.Tuple vs k2 p2) env = pure (some ns) := by
  have e1 : (ns.length != ts.length) = false := by rw [hln]; simp
  rw [sw_eq hk, hn, hl, hf, hc, hs, e1, hd]
  rfl
theorem sws_sub {o i e : Expr} {p : Pos} {l : Nat} {env : Env} (h : isComp e = false) : swapsWithSole [.Subscript o i p] e l env = pure false := by
  cases e <;> first
    | rfl
    | cases h
def swC (S : Sta) (x : Str) (p2 p : Pos) (scope : Scope) : Bool := (S.sc.names.lookup x == some .local) && p2.line == p.line && !(scope.names.any fun (n, k) => n == x && (k == .local || k == .cell))
def par2 (S : Sta) (x y : Str) (px py : Pos) (a b : Expr) : Bool := decide (tsNames S.sc [.Name x px, .Name y py] px.line = [x, y]) && !([a, b].all (foldedForSure 8)) && !([a, b].all (constantsAlone 8)) && notStar a && notStar b && (S.sc.names.lookup x == some .local) && (S.sc.names.lookup y == some .local) && !(x == y)
def par3 (S : Sta) (x y z : Str) (px py pz : Pos) (a b c : Expr) : Bool := decide (tsNames S.sc [.Name x px, .Name y py, .Name z pz] px.line = [x, y, z]) && !([a, b, c].all (foldedForSure 8)) && !([a, b, c].all (constantsAlone 8)) && notStar a && notStar b && notStar c && (S.sc.names.lookup x == some .local) && (S.sc.names.lookup y == some .local) && (S.sc.names.lookup z == some .local) && !(x == y) && !(x == z) && !(y == z)
def ofAug (op : Operator) : Option O2 := [O2.add, .sub, .mul].find? fun o => match augO o, op with
  | some .Add, .Add => true
  | some .Sub, .Sub => true
  | some .Mult, .Mult => true
  | _, _ => false
theorem ofAug_ok {op : Operator} {o : O2} (h : ofAug op = some o) : augO o = some op := by
  have := List.find?_some h
  cases o <;> cases op <;> first
    | rfl
    | cases this
mutual
def compS : Nat → Sta → Stmt → Option CS
  | 0, _, _ => none
  | n + 1, S, st => match st with
    | .Pass _ => some .pass
    | .Raise _ _ _ => some .fail
    | .Return (some e) _ => match e with
      | .Name x _ => if locK S x && !dbg x then (idx S.N x).map fun i => .ret (.mv i) else (compE n S e).map CS.ret
      | e => (compE n S e).map CS.ret
    | .If e a b _ => (compT n S e).bind fun c => (compSs n S a).bind fun s1 => (compSs n S b).map fun s2 => .ite c s1 s2
    | .For tg it b [] _ => if notSet it then (compJ (compE n S) (compI n S) S tg it).bind fun c => (compTg n S tg).bind fun t => (compSs n S b).map fun s1 => .for t c s1 else none
    | .While e b [] _ => (compT n S e).bind fun c => (compSs n S b).map fun s1 => .while c s1
    | .Expr e _ => match e with
      | .Call (.Attribute (.Name x _) m p3) [a] [] p4 => if locK S x && !dbg x && notStar a && p3.endLine == p4.line then
          (if m = ("append" : Str) then (idx S.N x).bind fun i => (compE n S a).map fun c => .app i c
          else if m = ("extend" : Str) then (idx S.N x).bind fun i => (compE n S a).map fun c => .ext i c else none) else none
      | .Call (.Name f _) args [] _ => if dbg f then none else if glK S f && (S.fns.lookup f).isSome then (compK n S f args).map CS.drop else none
      | _ => none
    | .Assign [.Name x p2] e _ => if stOk S x && !dbg x then (idx S.N x).bind fun i => match e with
      | .Name y _ => if locK S y && !dbg y then (idx S.N y).map fun j => .asg (.nm i) (.mv j) else (compE n S e).map fun c => .asg (.nm i) c
      | .ListComp elt [⟨tg, it, ifs, k⟩] scope p => if k == 0 then
          (if swC S x p2 p scope then (compC n S elt tg it ifs scope).map fun q => .asg (.nm i) (.comp q.1 ((ownOf S.N scope).map (·.2)) q.2.1 q.2.2.1 q.2.2.2) else (compE n S e).map fun c => .asg (.nm i) c) else none
      | e => if isComp e then none else (compE n S e).map fun c => .asg (.nm i) c
      else none
    | .Assign [.Tuple ts k p2] e _ => match e with
      | .Tuple vs _ _ => if nsw S.sc ts vs then (compTg n S (.Tuple ts k p2)).bind fun t => (compE n S e).bind fun c => (match t with
          | .tp _ => some (.asg t c)
          | _ => none)
        else (match ts, vs with
          | [.Name x px, .Name y py], [a, b] => if par2 S x y px py a b then (idx S.N x).bind fun i => (idx S.N y).bind fun j => (compE n S a).bind fun ca => (compE n S b).map fun cb => .par (.cons (.nm i) (.cons (.nm j) .nil)) (.cons ca (.cons cb .nil)) else none
          | [.Name x px, .Name y py, .Name z pz], [a, b, c] => if par3 S x y z px py pz a b c then (idx S.N x).bind fun i => (idx S.N y).bind fun j => (idx S.N z).bind fun l => (compE n S a).bind fun ca => (compE n S b).bind fun cb => (compE n S c).map fun cc => .par (.cons (.nm i) (.cons (.nm j) (.cons (.nm l) .nil))) (.cons ca (.cons cb (.cons cc .nil))) else none
          | _, _ => none)
      | e => (compTg n S (.Tuple ts k p2)).bind fun t => (compE n S e).bind fun c => (match t with
          | .tp _ => some (.asg t c)
          | _ => none)
    | .Assign [.Subscript (.Name x _) a _] e _ => if locK S x && !dbg x && notSlice a && !isComp e then (idx S.N x).bind fun i => (compE n S a).bind fun ca => (compE n S e).map fun c => .seti i ca c else none
    | .AugAssign (.Name x _) op e _ => if S.sc.names.lookup x == some .local then (ofAug op).bind fun o => (idx S.N x).bind fun i => (compE n S e).map fun c => .augn i o c else none
    | .AugAssign (.Subscript (.Name x _) a _) op e _ => if locK S x && !dbg x && notSlice a then (ofAug op).bind fun o => (idx S.N x).bind fun i => (compE n S a).bind fun ca => (compE n S e).map fun c => .augi i o ca c else none
    | _ => none
def compSs : Nat → Sta → List Stmt → Option CS
  | 0, _, _ => none
  | n + 1, S, sts => match sts with
    | [] => some .pass
    | st :: r => (compS n S st).bind fun a => (compSs n S r).map fun b => .seq a b
end
section
variable {X : Cx} {S : Sta} {cl : Calls} {F : Nat}
theorem call_toD {f : Nat} {c : CE} {ρ ρ' : PEnv} {r : Sl} (hok : ∀ as r o, cl f as = some (r, o) → okR r = true) (h : ev cl (.call f c) ρ = some (r, ρ')) : ∃ d, toD r = some d := by
  simp only [ev, bind, Option.bind_eq_some_iff, Option.some.injEq, Prod.exists, Prod.mk.injEq] at h
  obtain ⟨ds, ρ1, e1, r', o, e2, rfl, rfl⟩ := h
  have := hok _ _ _ e2
  cases r' <;> first
    | exact ⟨_, rfl⟩
    | cases this
theorem callm_toD {f i : Nat} {c : CE} {ρ ρ' : PEnv} {r : Sl} (hok : ∀ as r o, cl f as = some (r, o) → okR r = true) (h : ev cl (.callm f i c) ρ = some (r, ρ')) : ∃ d, toD r = some d := by
  simp only [ev, bind, Option.bind_eq_some_iff, Option.some.injEq, Prod.exists, Prod.mk.injEq] at h
  obtain ⟨d0, e0, ds, ρ1, e1, e2⟩ := h
  have fin : ∀ r' : Sl, okR r' = true → ∃ d, toD r' = some d := fun r' z => by
    cases r' <;> first
      | exact ⟨_, rfl⟩
      | cases z
  split at e2
  · simp only [Option.bind_eq_some_iff, Option.some.injEq, Prod.exists, Prod.mk.injEq] at e2
    obtain ⟨r', o, e3, l', e4, rfl, rfl⟩ := e2
    exact fin _ (hok _ _ _ e3)
  · simp only [Option.bind_eq_some_iff, Option.some.injEq, Prod.exists, Prod.mk.injEq] at e2
    obtain ⟨r', o, e3, l', e4, rfl, rfl⟩ := e2
    exact fin _ (hok _ _ _ e3)
  · cases e2
theorem callsc_toD {f i : Nat} {ρ ρ' : PEnv} {r : Sl} (hok : ∀ as r o, cl f as = some (r, o) → okR r = true) (h : ev cl (.callsc f i) ρ = some (r, ρ')) : ∃ d, toD r = some d := by
  simp only [ev] at h
  split at h
  · simp only [bind, Option.bind_eq_some_iff, Option.some.injEq, Prod.exists, Prod.mk.injEq] at h
    obtain ⟨r', o, e3, rfl, rfl⟩ := h
    have := hok _ _ _ e3
    cases r' <;> first
      | exact ⟨_, rfl⟩
      | cases this
  · cases h
theorem compK_toD {n : Nat} {f : Str} {args : List Expr} {c : CE} (D : Dyn X S cl) (hf : (S.fns.lookup f).isSome = true) (h : compK n S f args = some c) {ρ ρ' : PEnv} {r : Sl} (he : ev cl c ρ = some (r, ρ')) : ∃ d, toD r = some d := by
  cases n with
  | zero => simp [compK] at h
  | succ n =>
    unfold compK at h
    split at h
    · rename_i i hi
      have hok : ∀ as r o, cl i.ix as = some (r, o) → okR r = true := fun as r o z => ((D.fns f i hi).2 as r o z).1
      split at h
      · split at h
        · simp only [Option.ite_none_right_eq_some, Option.map_eq_some_iff] at h
          obtain ⟨_, j, _, rfl⟩ := h
          exact callsc_toD hok he
        · cases h
      · split at h
        · split at h
          · simp only [Option.ite_none_right_eq_some, Option.map_eq_some_iff, Option.bind_eq_some_iff] at h
            obtain ⟨_, j, _, ca, _, d, _, rfl⟩ := h
            exact callm_toD hok he
          · cases h
        · split at h
          · cases h
          · simp only [Option.bind_eq_some_iff, Option.map_eq_some_iff] at h
            obtain ⟨ca, h1, d, h2, rfl⟩ := h
            exact call_toD hok he
    · rename_i hi
      rw [hi] at hf
      cases hf
theorem compS_ok (D : Dyn X S cl) (hraw : S.raw = none) (hp : PassesOwn (model X.prog X.w) X.A X.env X.xe) : ∀ n, (∀ st c, compS n S st = some c → SS X cl F st c) ∧ (∀ sts c, compSs n S sts = some c → SSs X cl F sts c) := by
  intro n
  induction n with
  | zero => exact ⟨fun st c h => by simp [compS] at h, fun st c h => by simp [compSs] at h⟩
  | succ n ih =>
    have nm : ∀ {x : Str} {i : Nat}, idx S.N x = some i → X.N[i]? = some x := fun h => by
      rw [D.hN]
      exact idx_get h
    have nd : X.N.Nodup := by
      rw [D.hN]
      exact D.nd
    have C := comp_ok cl n
    have TG := (compTg_ok D n).1
    have hk : X.env.scope.kind = .function := by
      rw [D.hsc]
      exact D.kind
    refine ⟨fun st c h => ?_, fun sts c h => ?_⟩
    · unfold compS at h
      split at h
      · cases h
        exact ss_pass
      · cases h
        exact ss_never
      · split at h
        · split at h
          · rename_i hl
            simp only [Bool.and_eq_true, Bool.not_eq_true'] at hl
            simp only [Option.map_eq_some_iff] at h
            obtain ⟨i, h1, rfl⟩ := h
            have hd := dbg_no hl.2
            exact ss_ret (se_mv (nm h1) (D.vis hl.1) hd.1 hd.2)
          · simp only [Option.map_eq_some_iff] at h
            obtain ⟨c, h1, rfl⟩ := h
            exact ss_ret (C.E _ _ _ _ D h1)
        · simp only [Option.map_eq_some_iff] at h
          obtain ⟨c, h1, rfl⟩ := h
          exact ss_ret (C.E _ _ _ _ D h1)
      · simp only [Option.bind_eq_some_iff, Option.map_eq_some_iff] at h
        obtain ⟨c, h1, s1, h2, s2, h3, rfl⟩ := h
        exact ss_if (C.T _ _ _ _ D h1) (ih.2 _ _ h2) (ih.2 _ _ h3)
      · simp only [Option.ite_none_right_eq_some, Option.bind_eq_some_iff, Option.map_eq_some_iff] at h
        obtain ⟨h0, c, h1, t, h2, s1, h3, rfl⟩ := h
        exact ss_for hp D.calm (folded h0) (compJ_ok D (fun e c => C.E _ _ _ _ D) (fun e c tg => C.I _ _ _ _ tg D) h1) (TG _ _ h2) (ih.2 _ _ h3)
      · simp only [Option.bind_eq_some_iff, Option.map_eq_some_iff] at h
        obtain ⟨c, h1, s1, h2, rfl⟩ := h
        exact ss_while hp (C.T _ _ _ _ D h1) (ih.2 _ _ h2)
      · split at h
        · simp only [Option.ite_none_right_eq_some, Bool.and_eq_true, Bool.not_eq_true'] at h
          obtain ⟨⟨⟨⟨h1, h2⟩, h3⟩, h4⟩, h5⟩ := h
          have hd := dbg_no h2
          split at h5
          · rename_i hm
            subst hm
            simp only [Option.bind_eq_some_iff, Option.map_eq_some_iff] at h5
            obtain ⟨i, h6, c, h7, rfl⟩ := h5
            exact ss_app (nm h6) (D.vis h1) hd.1 hd.2 h3 h4 (C.E _ _ _ _ D h7).sd
          · split at h5
            · rename_i hm
              subst hm
              simp only [Option.bind_eq_some_iff, Option.map_eq_some_iff] at h5
              obtain ⟨i, h6, c, h7, rfl⟩ := h5
              exact ss_ext (nm h6) (D.vis h1) hd.1 hd.2 h3 h4 (C.E _ _ _ _ D h7).sd
            · cases h5
        · split at h
          · cases h
          · rename_i hd
            simp only [Option.ite_none_right_eq_some, Bool.and_eq_true, Option.map_eq_some_iff] at h
            obtain ⟨⟨h1, h2⟩, c, h3, rfl⟩ := h
            exact ss_drop rfl (C.Kk _ _ _ _ _ _ _ D (by simpa using hd) h1 h3).sd fun ρ ρ' r he => compK_toD D h2 h3 he
        · cases h
      · simp only [Option.ite_none_right_eq_some, Bool.and_eq_true, Bool.not_eq_true', Option.bind_eq_some_iff] at h
        obtain ⟨⟨h1, h2⟩, i, h3, h4⟩ := h
        obtain ⟨hL, hF⟩ := D.st h1
        split at h4
        · split at h4
          · rename_i hl
            simp only [Option.map_eq_some_iff] at h4
            obtain ⟨j, h5, rfl⟩ := h4
            have hd := dbg_no hl.2
            exact ss_set nd (nm h3) hL hF rfl (se_mv (nm h5) (D.vis hl.1) hd.1 hd.2)
          · simp only [Option.map_eq_some_iff] at h4
            obtain ⟨c, h5, rfl⟩ := h4
            exact ss_set nd (nm h3) hL hF rfl (C.E _ _ _ _ D h5)
        · rename_i x p2 pos e elt tg it ifs k scope p
          simp only [Option.ite_none_right_eq_some, beq_iff_eq] at h4
          obtain ⟨h0, h4⟩ := h4
          subst h0
          have hb : X.env.blockKind = .function := by unfold Env.blockKind; rw [hk]; rfl
          have e0 : swapsWith (.ListComp elt [⟨tg, it, ifs, 0⟩] scope p) (some (.Name x p2)) pos.line X.env = pure (swC S x p2 p scope) := by
            rw [sw_gen, hb]
            unfold swC Env.kindOf
            rw [D.hsc]
            rfl
          split at h4
          · rename_i hs
            simp only [Option.map_eq_some_iff, Prod.exists] at h4
            obtain ⟨ci, t, cc, ce, h5, rfl⟩ := h4
            obtain ⟨a1, a2, a3, a4, a5, a6, a7, a8⟩ := C.C _ _ _ _ _ _ _ _ _ _ _ D h5
            have hx : X.env.scope.names.lookup x = some .local := by
              rw [D.hsc]
              unfold swC at hs
              simp only [Bool.and_eq_true, beq_iff_eq] at hs
              exact hs.1.1
            exact ss_setLc nd (nm h3) hx (by rw [e0, hs]) D.calm a1 a2 a3 a4 a5 a6 a7 a8
          · rename_i hs
            simp only [Option.map_eq_some_iff] at h4
            obtain ⟨c, h5, rfl⟩ := h4
            exact ss_set nd (nm h3) hL hF (by rw [e0]; simp only [Bool.not_eq_true] at hs; rw [hs]) (C.E _ _ _ _ D h5)
        · split at h4
          · cases h4
          · rename_i hc
            simp only [Option.map_eq_some_iff] at h4
            obtain ⟨c, h5, rfl⟩ := h4
            exact ss_set nd (nm h3) hL hF (swaps_plain (by simpa using hc)) (C.E _ _ _ _ D h5)
      · split at h
        · split at h
          · rename_i hn
            simp only [Option.bind_eq_some_iff] at h
            obtain ⟨t, h1, c, h2, h3⟩ := h
            split at h3
            · cases h3
              exact ss_asgT sws_tup (nsw_ok hk (by rw [D.hsc]; exact hn)) (TG _ _ h1) (C.E _ _ _ _ D h2).sd
            · cases h3
          · split at h
            · rename_i x px y py a b _
              simp only [Option.ite_none_right_eq_some, Option.bind_eq_some_iff, Option.map_eq_some_iff] at h
              obtain ⟨h0, i, h1, j, h2, ca, h3, cb, h4, rfl⟩ := h
              unfold par2 at h0
              simp only [Bool.and_eq_true, decide_eq_true_eq, Bool.not_eq_true', beq_iff_eq] at h0
              obtain ⟨⟨⟨⟨⟨⟨⟨b1, b2⟩, b3⟩, b4⟩, b5⟩, b6⟩, b7⟩, b8⟩ := h0
              have hne : ¬ x = y := by simpa using b8
              have hij : i ≠ j := fun z => by
                subst z
                have e1 := nm h1
                rw [nm h2] at e1
                exact hne (Option.some.inj e1).symm
              refine ss_par2 D.calm nd (nm h1) (nm h2) hij (by rw [D.hsc]; exact b6) (by rw [D.hsc]; exact b7) b4 b5 (C.E _ _ _ _ D h3) (C.E _ _ _ _ D h4) ?_
              refine swapped hk rfl (by rw [D.hsc]; exact b1) rfl ?_ b2 b3 (by simp [isStarE_no b4, isStarE_no b5])
              simp [List.eraseDups_cons, hne, Ne.symm hne]
            · rename_i x px y py z pz a b c _
              simp only [Option.ite_none_right_eq_some, Option.bind_eq_some_iff, Option.map_eq_some_iff] at h
              obtain ⟨h0, i, h1, j, h2, l, h2', ca, h3, cb, h4, cc, h5, rfl⟩ := h
              unfold par3 at h0
              simp only [Bool.and_eq_true, decide_eq_true_eq, Bool.not_eq_true', beq_iff_eq] at h0
              obtain ⟨⟨⟨⟨⟨⟨⟨⟨⟨⟨⟨b1, b2⟩, b3⟩, b4⟩, b5⟩, b6⟩, b7⟩, b8⟩, b9⟩, b10⟩, b11⟩, b12⟩ := h0
              have n1 : ¬ x = y := by simpa using b10
              have n2 : ¬ x = z := by simpa using b11
              have n3 : ¬ y = z := by simpa using b12
              have ap : ∀ {u v : Str} {i j : Nat}, idx S.N u = some i → idx S.N v = some j → ¬ u = v → i ≠ j := fun h1 h2 hne z => by
                subst z
                have e1 := nm h1
                rw [nm h2] at e1
                exact hne (Option.some.inj e1).symm
              refine ss_par3 D.calm nd (nm h1) (nm h2) (nm h2') (ap h1 h2 n1) (ap h1 h2' n2) (ap h2 h2' n3) (by rw [D.hsc]; exact b7) (by rw [D.hsc]; exact b8) (by rw [D.hsc]; exact b9) b4 b5 b6 (C.E _ _ _ _ D h3) (C.E _ _ _ _ D h4) (C.E _ _ _ _ D h5) ?_
              refine swapped hk rfl (by rw [D.hsc]; exact b1) rfl ?_ b2 b3 (by simp [isStarE_no b4, isStarE_no b5, isStarE_no b6])
              have q1 := Ne.symm n1
              have q2 := Ne.symm n2
              have q3 := Ne.symm n3
              simp [List.eraseDups_cons, List.filter_cons, n1, n2, n3, q1, q2, q3]
            · cases h
        · rename_i hno
          simp only [Option.bind_eq_some_iff] at h
          obtain ⟨t, h1, c, h2, h3⟩ := h
          split at h3
          · cases h3
            exact ss_asgT sws_tup (sw_no fun vs k2 p2 z => hno _ _ _ z) (TG _ _ h1) (C.E _ _ _ _ D h2).sd
          · cases h3
      · simp only [Option.ite_none_right_eq_some, Bool.and_eq_true, Bool.not_eq_true', Option.bind_eq_some_iff, Option.map_eq_some_iff] at h
        obtain ⟨⟨⟨⟨h1, h2⟩, h3⟩, h4⟩, i, h5, ca, h6, c, h7, rfl⟩ := h
        have hd := dbg_no h2
        exact ss_seti h3 (nm h5) (D.vis h1) hd.1 hd.2 (sws_sub h4) (C.E _ _ _ _ D h6).sd (C.E _ _ _ _ D h7).sd
      · simp only [Option.ite_none_right_eq_some, beq_iff_eq, Option.bind_eq_some_iff, Option.map_eq_some_iff] at h
        obtain ⟨h1, o, h2, i, h3, c, h4, rfl⟩ := h
        exact ss_augn (ofAug_ok h2) nd (nm h3) (by rw [D.hsc]; exact h1) (C.E _ _ _ _ D h4).sd
      · simp only [Option.ite_none_right_eq_some, Bool.and_eq_true, Bool.not_eq_true', Option.bind_eq_some_iff, Option.map_eq_some_iff] at h
        obtain ⟨⟨⟨h1, h2⟩, h3⟩, o, h4, i, h5, ca, h6, c, h7, rfl⟩ := h
        have hd := dbg_no h2
        exact ss_augi (ofAug_ok h4) h3 (nm h5) (D.vis h1) hd.1 hd.2 (C.E _ _ _ _ D h6).sd (C.E _ _ _ _ D h7).sd
      · cases h
    · unfold compSs at h
      split at h
      · cases h
        exact ss_nil
      · simp only [Option.bind_eq_some_iff, Option.map_eq_some_iff] at h
        obtain ⟨a, h1, b, h2, rfl⟩ := h
        exact ss_cons (ih.1 _ _ h1) (ih.2 _ _ h2)
end
end PP
namespace PP
open PySem L2 PySem.Spec PyProof.Rows
section
variable {K : PySem.W.Frag} {B : Fr} {G H : Hp} {L : List Ent}
theorem ok_pad {v : Option V} : ∀ (m : Nat), Ok K B G L H → Ok K B G (L ++ List.replicate m (none, .un)) H
  | m, ok => by
    have lt : ∀ {n : Nat} {p : Ent}, (L ++ List.replicate m ((none : Option V), Sl.un))[n]? = some p → L[n]? = some p ∨ p = (none, .un) := fun {n p} e => by
      by_cases h : n < L.length
      · rw [List.getElem?_append_left h] at e
        exact .inl e
      · rw [List.getElem?_append_right (by omega), List.getElem?_replicate] at e
        split at e
        · cases e
          exact .inr rfl
        · cases e
    refine ⟨ok.fr, ok.sub, ok.gn, ok.g0, ok.ios, fun n p e => ?_, fun i j p q a e1 e2 o1 o2 => ?_⟩
    · rcases lt e with z | z
      · exact ok.ent n p z
      · subst z
        trivial
    · rcases lt e1 with z | z
      · rcases lt e2 with w | w
        · exact ok.dis i j p q a z w o1 o2
        · subst w
          simp [ownA] at o2
      · subst z
        simp [ownA] at o1
theorem ok_head2 {p q : Ent} {r : List Ent} (h : Ok K B G (p :: q :: r) H) : Ok K B G [p, q] H := by
  refine h.sub' (fun n => n) (fun m n _ _ e => e) fun n hn => ?_
  match n with
  | 0 => rfl
  | 1 => rfl
  | n + 2 => simp at hn; omega
theorem ok_head1 {p : Ent} {r : List Ent} (h : Ok K B G (p :: r) H) : Ok K B G [p] H := by
  refine h.sub' (fun n => n) (fun m n _ _ e => e) fun n hn => ?_
  match n with
  | 0 => rfl
  | n + 1 => simp at hn
end
def start' (vs : List V) (n : Nat) : L2.St := vs.map some ++ List.replicate (n - vs.length) none
theorem zip_pad {vs : List V} {as : List Sl} (n : Nat) (h : vs.length = as.length) : (start' vs n).zip (as ++ List.replicate (n - as.length) .un) = argE vs as ++ List.replicate (n - as.length) ((none : Option V), Sl.un) := by
  unfold start' argE
  rw [List.zip_append (by simp [h]), h]
  congr 1
  generalize n - as.length = m
  induction m with
  | zero => rfl
  | succ m ih =>
    rw [List.replicate_succ, List.replicate_succ, List.replicate_succ, List.zip_cons_cons, ih]
/-- a def of the text, ready to be called: its address, its data, its defaults -/
structure DefA (K : PySem.W.Frag) (mg : Str → Option Value) (x : Str) (st : Stmt) (N ps : List Str) (dfl : List PyData) : Prop where
  ex : ∃ (f : Addr) (fd : FuncData) (dvs : List V), FunD K x x (defArgs st) (defBody st) (defScope st) dvs [] f fd ∧ mg x = some (.ref f) ∧ FnScope N ps (defScope st) ∧
    ∀ j, j ≤ dfl.length → ∃ (vs : List V) (ds : List Value), Vals vs ds ∧ Binds K fd ps ds ∧ ∀ G, Reps K G vs (dfl.drop j)
/-- all that is told of one def -/
structure FD where
  x : Str
  st : Stmt
  N : List Str
  ps : List Str
  fi : FI
  body : CS
def FD.sta (d : FD) (fns : List (Str × FI)) (cons : List (Str × PyData)) : Sta := ⟨d.N, defScope d.st, none, fns, cons, if d.fi.sc then some 0 else none⟩
def fnsOf (ds : List FD) : List (Str × FI) := ds.map fun d => (d.x, d.fi)
def tabOf (ds : List FD) : List Fn := ds.map fun d => ⟨d.ps.length, d.N.length, d.fi.io, d.body⟩
/-- the static look at one def -/
def FD.ok (d : FD) (i : Nat) (fns : List (Str × FI)) (cons : List (Str × PyData)) : Prop :=
  d.fi.ix = i ∧ d.fi.n = d.ps.length ∧ compSs 60 (d.sta fns cons) (defBody d.st) = some d.body ∧ d.N.Nodup ∧ (defScope d.st).kind = .function
theorem okR_run {F : Nat} {Γ : List Fn} {k f : Nat} {as : List Sl} {r : Sl} {o : Option (List PyData)} (h : run F Γ k f as = some (r, o)) : okR r = true ∧ ∃ fn, Γ[f]? = some fn ∧ as.length = fn.ps := by
  cases k with
  | zero => simp [run] at h
  | succ k =>
    simp only [run, bind, Option.bind_eq_some_iff] at h
    obtain ⟨fn, h1, h2⟩ := h
    simp only [Option.ite_none_right_eq_some, beq_iff_eq, Option.bind_eq_some_iff] at h2
    obtain ⟨h3, o', h4, h5⟩ := h2
    refine ⟨?_, fn, h1, h3⟩
    cases o' <;> simp only [endRun, Option.ite_none_right_eq_some] at h5
    · obtain ⟨h6, h7⟩ := h5
      split at h7
      · split at h7
        · cases h7
          exact h6
        · cases h7
      · cases h7
        exact h6
    · obtain ⟨h6, h7⟩ := h5
      split at h7
      · split at h7
        · cases h7
          exact h6
        · cases h7
      · cases h7
        exact h6
section
variable {P : Program} {w : World} {K : PySem.W.Frag} {mg : Str → Option Value} {base : Heap} {F : Nat} {ds : List FD} {cons : List (Str × PyData)}
/-- how a body's end answers the promise -/
theorem end_ok {B : Fr} {G H : Hp} {vs : List V} {as : List Sl} {v : V} {r r' : Sl} {io : Bool} {ρ' : PEnv} {σ' : L2.St} {o : Option (List PyData)} (hl : σ'.length = ρ'.length) (hio : ∀ a, B.IO a ↔ ∃ l, as.head? = some (.io l) ∧ vs.head? = some (.ref a)) (he : endRun io r ρ' = some (r', o)) (k : Ok K B G ((some v, r) :: σ'.zip ρ') H) : r' = r ∧ Ok K B G ((some v, r) :: backL vs o) H := by
  unfold endRun at he
  simp only [Option.ite_none_right_eq_some] at he
  obtain ⟨h1, h2⟩ := he
  split at h2
  · split at h2
    · rename_i l ρ2
      cases h2
      cases σ' with
      | nil => simp at hl
      | cons v0 σ2 =>
        refine ⟨rfl, ?_⟩
        have k2 : Ok K B G ((some v, r) :: (v0, .io l) :: σ2.zip ρ2) H := k
        have k3 := ok_head2 k2
        obtain ⟨a, xs, e, hI, _⟩ := k3.ent 1 _ rfl
        obtain ⟨m, h3, h4⟩ := (hio a).mp hI
        have e2 : v0 = some (.ref a) := e
        subst e2
        show Ok K B G ((some v, r) :: [(vs.head?, .io l)]) H
        rw [h4]
        exact k3
    · cases h2
  · cases h2
    exact ⟨rfl, ok_head1 k⟩
theorem fn_ok {k : Nat} {d : FD} {i : Nat} (hd : ds[i]? = some d) (hok : d.ok i (fnsOf ds) cons) (hblt : ∀ x ∈ bltNames, mg x = none)
    (hcon : ∀ x v, cons.lookup x = some v → ∃ u z, mg x = some z ∧ RelV u z ∧ ∀ G, Rep K G u v)
    (hA : ∀ (j : Nat) (e : FD), ds[j]? = some e → DefA K mg e.x e.st e.N e.ps e.fi.dfl) (hfd : ∀ (j : Nat) (e : FD), ds[j]? = some e → e.fi.ix = j ∧ e.fi.n = e.ps.length)
    (ih : ∀ (j : Nat) (e : FD) (f : Addr) (fd : FuncData) (dvs : List V), ds[j]? = some e → FunD K e.x e.x (defArgs e.st) (defBody e.st) (defScope e.st) dvs [] f fd → FnScope e.N e.ps (defScope e.st) → FnOk P w K mg base CX0 k f fd e.ps (spF K (run F (tabOf ds) k) j e.ps.length))
    {f : Addr} {fd : FuncData} {dvs : List V} (FDf : FunD K d.x d.x (defArgs d.st) (defBody d.st) (defScope d.st) dvs [] f fd) (Sc : FnScope d.N d.ps (defScope d.st)) :
    FnOk P w K mg base CX0 (k + 1) f fd d.ps (spF K (run F (tabOf ds) (k + 1)) i d.ps.length) := by
  obtain ⟨h1, h2, hcomp, hnd, hkind⟩ := hok
  refine FDf.ok Sc (fun vs H Q E h => h.1) (fun cdv A outer s H vs Q E hr h => ?_)
  obtain ⟨hvl, B, as, r, o, hal, hH, hio, ok, hrun, post⟩ := h
  -- the pure run
  have hΓ : (tabOf ds)[i]? = some ⟨d.ps.length, d.N.length, d.fi.io, d.body⟩ := by
    unfold tabOf
    rw [List.getElem?_map, hd]
    rfl
  simp only [run, bind, hΓ, Option.bind_some] at hrun
  simp only [Option.ite_none_right_eq_some, beq_iff_eq, Option.bind_eq_some_iff] at hrun
  obtain ⟨hps, out, hex, hend⟩ := hrun
  -- the context
  let X : Cx := (cxOf CX0 P w K mg base d.N d.x (defScope d.st) f cdv A outer s H E).nox
  have hrX : Room k X.A := hr
  have D : Dyn X (d.sta (fnsOf ds) cons) (run F (tabOf ds) k) := {
    hN := rfl
    hsc := rfl
    calm := rfl
    nd := hnd
    hu := by
      have := hrX.un
      omega
    kind := hkind
    fnC := fun x => rfl
    blt := hblt
    con := fun x v hx => by
      obtain ⟨u, z, a1, a2, a3⟩ := hcon x v hx
      exact ⟨u, z, a1, a2, a3⟩
    fns := fun x fi hx => by
      have hx' : (fnsOf ds).lookup x = some fi := hx
      obtain ⟨j, e, hj, hex', hfi⟩ : ∃ (j : Nat) (e : FD), ds[j]? = some e ∧ e.x = x ∧ e.fi = fi := by
        have key : ∀ (ds : List FD), (fnsOf ds).lookup x = some fi → ∃ (j : Nat) (e : FD), ds[j]? = some e ∧ e.x = x ∧ e.fi = fi := by
          intro ds
          induction ds with
          | nil => intro h; simp [fnsOf] at h
          | cons e ds ih =>
            intro h
            unfold fnsOf at h
            rw [List.map_cons, List.lookup_cons] at h
            split at h
            · rename_i hb
              cases h
              exact ⟨0, e, rfl, (eq_of_beq hb).symm, rfl⟩
            · obtain ⟨j, e', a, b, c⟩ := ih h
              exact ⟨j + 1, e', by simpa using a, b, c⟩
        exact key ds hx'
      subst hex' hfi
      obtain ⟨hix, hn⟩ := hfd j e hj
      obtain ⟨f', fd', dvs', F', m', Sc', hb'⟩ := (hA j e hj).ex
      have G' := ih j e f' fd' dvs' hj F' Sc'
      refine ⟨fun m hm => ?_, fun as' r' o' hr' => ?_⟩
      · obtain ⟨vs', ds', b1, b2, b3⟩ := hb' m hm
        rw [hix, hn]
        exact ⟨k, f', fd', e.ps, vs', ds', G', hrX, m', F'.kp, b2, b1, b3⟩
      · obtain ⟨c1, fn, c2, c3⟩ := okR_run hr'
        refine ⟨c1, ?_⟩
        rw [hix] at c2
        unfold tabOf at c2
        rw [List.getElem?_map, hj] at c2
        cases c2
        rw [hn]
        exact c3 }
  have S := (compS_ok (F := F) D rfl PassesOwn.never 60).2 _ _ hcomp
  refine ⟨WSs X (defBody d.st), (pss_W X _).nox, ?_⟩
  -- the slots at the entry
  have hst : L2.start d.N vs = start' vs d.N.length := rfl
  have hlen : d.ps.length ≤ d.N.length := by
    have := Sc.pre
    have h3 : (d.N.take d.ps.length).length = d.ps.length := by rw [this]
    rw [List.length_take] at h3
    omega
  have hz : (L2.start d.N vs).zip (as ++ List.replicate (d.N.length - d.ps.length) .un) = argE vs as ++ List.replicate (d.N.length - d.ps.length) ((none : Option V), Sl.un) := by
    rw [hst, ← hps]
    exact zip_pad _ hal
  have ok0 : Ok K B B.G0 ([] ++ (L2.start d.N vs).zip (as ++ List.replicate (d.N.length - d.ps.length) .un)) H := by
    rw [List.nil_append, hz]
    exact ok_pad (v := none) _ ok
  have hl0 : (L2.start d.N vs).length = (as ++ List.replicate (d.N.length - d.ps.length) Sl.un).length := by
    unfold L2.start
    simp only [List.length_append, List.length_map, List.length_replicate]
    omega
  refine S B B.G0 H [] _ _ out _ hl0 hex ok0 ?_
  cases out with
  | nx ρ' =>
    intro hn σ' G' H' l' x' k'
    have k2 : Ok K B G' (σ'.zip ρ') H' := k'
    obtain ⟨e1, k3⟩ := end_ok l' hio hend (k2.consR .non)
    subst e1
    exact post _ G' H' k3
  | rt r' ρ' =>
    intro hn v σ' G' H' l' x' k'
    have k2 : Ok K B G' ((some v, r') :: σ'.zip ρ') H' := k'
    obtain ⟨e1, k3⟩ := end_ok l' hio hend k2
    subst e1
    exact post _ G' H' k3
/-- all defs, to any depth -/
theorem fns_ok (hok : ∀ (i : Nat) (d : FD), ds[i]? = some d → d.ok i (fnsOf ds) cons) (hblt : ∀ x ∈ bltNames, mg x = none)
    (hcon : ∀ x v, cons.lookup x = some v → ∃ u z, mg x = some z ∧ RelV u z ∧ ∀ G, Rep K G u v)
    (hA : ∀ (j : Nat) (e : FD), ds[j]? = some e → DefA K mg e.x e.st e.N e.ps e.fi.dfl) :
    ∀ (k : Nat) (i : Nat) (d : FD) (f : Addr) (fd : FuncData) (dvs : List V), ds[i]? = some d → FunD K d.x d.x (defArgs d.st) (defBody d.st) (defScope d.st) dvs [] f fd → FnScope d.N d.ps (defScope d.st) → FnOk P w K mg base CX0 k f fd d.ps (spF K (run F (tabOf ds) k) i d.ps.length) := by
  intro k
  induction k with
  | zero =>
    intro i d f fd dvs hd Ff Sc
    exact ⟨fun vs H Q E h => h.1, fun A outer s H args us vs Q E hr he hb hv h => by
      obtain ⟨_, B, as, r, o, _, _, _, _, hrun, _⟩ := h
      simp [run] at hrun⟩
  | succ k ih =>
    intro i d f fd dvs hd Ff Sc
    exact fn_ok hd (hok i d hd) hblt hcon hA (fun j e hj => ⟨(hok j e hj).1, (hok j e hj).2.1⟩) ih Ff Sc
end
/-- the law's own promise, from the pure run -/
def spLaw (F : Nat) (Γ : List Fn) (k i : Nat) (K : PySem.W.Frag) : Sp := spF K (run F Γ k) i 1
theorem law_sp {F : Nat} {Γ : List Fn} {k i : Nat} {K : PySem.W.Frag} {H : Hp} {a : Addr} {ns : List Int} (hS : SqL K H a (ns.map V.int)) (h : run F Γ k i [.sc ns] = some (.sh (.bool true), none)) : spLaw F Γ k i K [.ref a] H (fun v _ => v = .bl true) (fun _ _ _ => False) := by
  refine ⟨rfl, ⟨H, H, fun _ => False⟩, [.sc ns], _, _, rfl, rfl, fun b => ⟨fun z => z.elim, fun ⟨l, z, _⟩ => by simp at z⟩, ?_, h, fun v G' H' k => ?_⟩
  · refine ⟨fun a o e _ => e, Evl.Ex.refl H, fun a o e => .inl e, Evl.Ex.refl H, fun a i => i.elim, fun n p e => ?_, fun m n p q b e1 e2 o1 o2 => ?_⟩
    · cases n with
      | zero =>
        simp [argE] at e
        subst e
        exact ⟨a, rfl, hS⟩
      | succ n => simp [argE] at e
    · cases m with
      | zero =>
        simp [argE] at e1
        subst e1
        simp [ownA] at o1
      | succ m => simp [argE] at e1
  · have r := k.rep
    cases r
    rfl
end PP
namespace PP
open PySem L2 PySem.Spec PyProof.Rows
/-! ### what the top leaves, told by names -/
def dvOf : PyData → He.Dv
  | .bool b => .bl b
  | .int i => .int i
  | .str s => .str s
  | _ => .non
def litD : PyData → Bool
  | .none => true
  | .bool _ => true
  | .int _ => true
  | .str _ => true
  | _ => false
theorem dvOf_rep {K : PySem.W.Frag} {G : Hp} : ∀ {d : PyData}, litD d = true → Rep K G ((dvOf d).v K) d
  | .none, _ => .non
  | .bool b, _ => .bl b
  | .int i, _ => .int i
  | .str s, _ => .str s
  | .list _, h => by cases h
  | .tuple _, h => by cases h
  | .dict _, h => by cases h
theorem dvOf_reps {K : PySem.W.Frag} {G : Hp} : ∀ {ds : List PyData}, ds.all litD = true → Reps K G ((ds.map dvOf).map (He.Dv.v K)) ds
  | [], _ => .nil
  | d :: ds, h => by
    rw [List.all_cons, Bool.and_eq_true] at h
    exact .cons (dvOf_rep h.1) (dvOf_reps h.2)
def FD.dd (d : FD) : He.DefD := ⟨(d.x, none), d.x, d.x, defArgs d.st, defBody d.st, defScope d.st, d.fi.dfl.map dvOf, []⟩
/-- how a def's arguments bind, whatever stands behind -/
def FD.bnd (d : FD) : Prop := ∀ (K : PySem.W.Frag) (f : Addr) (fd : FuncData) (dvs : List V), dvs.length = d.fi.dfl.length → FunD K d.x d.x (defArgs d.st) (defBody d.st) (defScope d.st) dvs [] f fd → ∀ j, j ≤ d.fi.dfl.length → ∃ ds, Vals (dvs.drop j) ds ∧ Binds K fd d.ps ds
structure FD.good (d : FD) (i : Nat) (fns : List (Str × FI)) (cons : List (Str × PyData)) : Prop where
  ok : d.ok i fns cons
  sc : FnScope d.N d.ps (defScope d.st)
  bnd : d.bnd
  lit : d.fi.dfl.all litD = true
def conFa : Str × PyData → He.Fa
  | (x, .int i) => .int x i
  | (x, .str s) => .str x s
  | (x, _) => .keep x
def isCon : PyData → Bool
  | .int _ => true
  | .str _ => true
  | _ => false
def allFa (ds : List FD) (cons : List (Str × PyData)) : List He.Fa := ds.map (fun d => .glo d.x) ++ bltNames.map .free ++ cons.map conFa
theorem lookup_mem {α : Type} {x : Str} {v : α} : ∀ {l : List (Str × α)}, l.lookup x = some v → (x, v) ∈ l
  | [], h => by cases h
  | (y, w) :: l, h => by
    rw [List.lookup_cons] at h
    split at h
    · rename_i e
      cases h
      rw [eq_of_beq e]
      exact List.mem_cons_self ..
    · exact List.mem_cons_of_mem _ (lookup_mem h)
section
variable {P : Program} {w : World} {K : PySem.W.Frag} {h : Heap} {mg : Str → Option Value} {ds : List FD} {cons : List (Str × PyData)}
theorem says_mem {fa : List He.Fa} {fn : List He.DefD} (c : He.SaysD fa fn K) {f : He.Fa} (m : f ∈ fa) : f.ok K = true := by
  obtain ⟨i, hi⟩ := List.getElem?_of_mem m
  exact c.fact i hi
theorem law_facts (X : K.In h) (G : h.Ns mainGlobals mg) (c : He.SaysD (allFa ds cons) (ds.map FD.dd) K) (hg : ∀ (i : Nat) (d : FD), ds[i]? = some d → d.good i (fnsOf ds) cons) (hcons : cons.all (fun p => isCon p.2) = true)
    {fu k li : Nat} {dl : FD} (hl : ds[li]? = some dl) (hx : dl.x = "law") (hps : dl.ps = [("script" : Str)]) (hbA : ∀ (K : PySem.W.Frag) (f : Addr) (fd : FuncData), FunD K "law" "law" (defArgs dl.st) (defBody dl.st) (defScope dl.st) [] [] f fd → ∀ (s : Shared) (us : List Value), us.length = 1 → BindsTo s fd ⟨us, []⟩ ([("script" : Str)].zip us)) (hdf : dl.fi.dfl = []) {fa : Addr} (hfa : mg "law" = some (.ref fa)) (Γ : List Fn) (hΓ : Γ = tabOf ds) :
    ∃ fd : FuncData, (∀ (s : Shared) (v : Value), BindsTo s fd ⟨[v], []⟩ [("script", v)]) ∧ ∀ base : Heap, K.In base → base.Ns mainGlobals mg → FnOk P w K mg base CX0 k fa fd ["script"] (spLaw fu Γ k li K) := by
  subst hΓ
  have inFa : ∀ f, f ∈ allFa ds cons → f.ok K = true := fun f m => says_mem c m
  have hblt : ∀ x ∈ bltNames, mg x = none := fun x m => He.free_ok X G (inFa _ (by
    unfold allFa
    rw [List.mem_append, List.mem_append]
    exact .inl (.inr (List.mem_map_of_mem m))))
  have hcon : ∀ x v, cons.lookup x = some v → ∃ u z, mg x = some z ∧ RelV u z ∧ ∀ G, Rep K G u v := fun x v e => by
    have m := lookup_mem e
    have m2 : conFa (x, v) ∈ allFa ds cons := by
      unfold allFa
      rw [List.mem_append]
      exact .inr (List.mem_map_of_mem m)
    have hc := List.all_eq_true.mp hcons _ m
    cases v <;> simp only [isCon, Bool.false_eq_true] at hc
    · rename_i i
      obtain ⟨t, e2⟩ := He.int_ok X G (inFa _ m2)
      exact ⟨.int i, _, e2, ⟨t, rfl⟩, fun G => .int i⟩
    · rename_i s
      obtain ⟨t, e2⟩ := He.str_ok X G (inFa _ m2)
      exact ⟨.str s, _, e2, ⟨t, rfl⟩, fun G => .str s⟩
  have hfun : ∀ (j : Nat) (e : FD), ds[j]? = some e → ∃ fd, FunD K e.x e.x (defArgs e.st) (defBody e.st) (defScope e.st) ((e.fi.dfl.map dvOf).map (He.Dv.v K)) [] (He.ga K e.x) fd ∧ mg e.x = some (.ref (He.ga K e.x)) := fun j e hj => by
    have h2 : (ds.map FD.dd)[j]? = some e.dd := by
      rw [List.getElem?_map, hj]
      rfl
    obtain ⟨fd, F⟩ := c.def_ j h2
    have m2 : He.Fa.glo e.x ∈ allFa ds cons := by
      unfold allFa
      rw [List.mem_append, List.mem_append]
      exact .inl (.inl (List.mem_map.mpr ⟨e, List.mem_of_getElem? hj, rfl⟩))
    exact ⟨fd, F, He.glo_ok X G (inFa _ m2)⟩
  have hA : ∀ (j : Nat) (e : FD), ds[j]? = some e → DefA K mg e.x e.st e.N e.ps e.fi.dfl := fun j e hj => by
    obtain ⟨fd, F, hm⟩ := hfun j e hj
    obtain ⟨_, sc, bn, lt⟩ := hg j e hj
    refine ⟨_, fd, _, F, hm, sc, fun n hn => ?_⟩
    obtain ⟨vs, h1, h2⟩ := bn K _ fd _ (by simp) F n hn
    refine ⟨_, vs, h1, h2, fun G => ?_⟩
    rw [← List.map_drop, ← List.map_drop]
    refine dvOf_reps ?_
    rw [List.all_eq_true] at lt ⊢
    exact fun z hz => lt z (List.mem_of_mem_drop hz)
  obtain ⟨fd, F, hm⟩ := hfun li dl hl
  rw [hx] at hm
  have e := hfa.symm.trans hm
  have e2 : fa = He.ga K "law" := by
    injection e with e
    injection e with e
  obtain ⟨_, sc, bn, lt⟩ := hg li dl hl
  refine ⟨fd, fun s v => ?_, fun base _ _ => ?_⟩
  · rw [hdf, hx] at F
    exact hbA K _ fd F s [v] rfl
  · have r := fns_ok (P := P) (w := w) (base := base) (F := fu) (fun i d hd => (hg i d hd).ok) hblt hcon hA k li dl _ fd _ hl F sc
    rw [hps, hx] at r
    rw [e2]
    exact r
end
end PP
namespace PP
open PySem
/-! ### reading a core by what holds behind it -/
section
variable {cl : Calls} {F : Nat}
def Ze (cl : Calls) (e : CE) (ρ : PEnv) (Q : Sl → PEnv → Prop) : Prop := ∃ r ρ', ev cl e ρ = some (r, ρ') ∧ Q r ρ'
def Za (cl : Calls) (e : CE) (ρ : PEnv) (Q : List PyData → PEnv → Prop) : Prop := ∃ r ρ', evA cl e ρ = some (r, ρ') ∧ Q r ρ'
def Zp (cl : Calls) (e : CE) (ρ : PEnv) (Q : List Sl → PEnv → Prop) : Prop := ∃ r ρ', evP cl e ρ = some (r, ρ') ∧ Q r ρ'
def Zt (cl : Calls) (e : CE) (ρ : PEnv) (Q : Bool → PEnv → Prop) : Prop := ∃ r ρ', tst cl e ρ = some (r, ρ') ∧ Q r ρ'
def Zo (o : Option Out) (N : PEnv → Prop) (R : Sl → PEnv → Prop) : Prop := ∃ x, o = some x ∧ match x with
  | .nx ρ => N ρ
  | .rt r ρ => R r ρ
def Zx (cl : Calls) (F : Nat) (s : CS) (ρ : PEnv) (N : PEnv → Prop) (R : Sl → PEnv → Prop) : Prop := Zo (ex cl F s ρ) N R
/-- what is known of a value -/
def Is {α : Type} (o : Option α) (Q : α → Prop) : Prop := ∃ x, o = some x ∧ Q x
@[simp] theorem is_some {α : Type} {x : α} {Q : α → Prop} : Is (some x) Q ↔ Q x := by simp [Is]
@[simp] theorem is_none {α : Type} {Q : α → Prop} : Is none Q ↔ False := by simp [Is]
theorem is_map {α β : Type} {o : Option α} {f : α → β} {Q : β → Prop} : Is (o.map f) Q ↔ Is o fun x => Q (f x) := by cases o <;> simp
theorem is_bind {α β : Type} {o : Option α} {f : α → Option β} {Q : β → Prop} : Is (o.bind f) Q ↔ Is o fun x => Is (f x) Q := by cases o <;> simp
theorem is_if {α : Type} {c : Prop} [Decidable c] {o : Option α} {Q : α → Prop} : Is (if c then o else none) Q ↔ c ∧ Is o Q := by split <;> simp [*]
variable {ρ : PEnv} {Q : Sl → PEnv → Prop}
@[simp] theorem z_k {d : PyData} : Ze cl (.k d) ρ Q ↔ Q (.sh d) ρ := by
  simp only [Ze, ev, Option.some.injEq, Prod.mk.injEq]
  exact ⟨fun ⟨_, _, ⟨rfl, rfl⟩, q⟩ => q, fun q => ⟨_, _, ⟨rfl, rfl⟩, q⟩⟩
@[simp] theorem z_v {i : Nat} : Ze cl (.v i) ρ Q ↔ Is (rdv ρ i) fun p => Q p.1 p.2 := by simp [Ze, ev, Is]
@[simp] theorem z_mv {i : Nat} : Ze cl (.mv i) ρ Q ↔ Is (rmv ρ i) fun p => Q p.1 p.2 := by simp [Ze, ev, Is]
@[simp] theorem z_op1 {o : O1} {a : CE} : Ze cl (.op1 o a) ρ Q ↔ Ze cl a ρ fun r ρ1 => Is (toD r) fun d => Is (op1 o d) fun z => Q z ρ1 := by
  simp only [Ze, ev, bind, Option.bind_eq_some_iff, Is, Prod.exists, Option.some.injEq, Prod.mk.injEq]
  constructor
  · rintro ⟨_, _, ⟨r, ρ1, h1, d, h2, z, h3, rfl, rfl⟩, q⟩
    exact ⟨r, _, h1, d, h2, z, h3, q⟩
  · rintro ⟨r, ρ1, h1, d, h2, z, h3, q⟩
    exact ⟨z, ρ1, ⟨r, ρ1, h1, d, h2, z, h3, rfl, rfl⟩, q⟩
@[simp] theorem z_op1v {o : O1} {i : Nat} : Ze cl (.op1v o i) ρ Q ↔ Is (peek ρ i) fun d => Is (op1 o d) fun z => Q z ρ := by
  simp only [Ze, ev, bind, Option.bind_eq_some_iff, Is, Prod.exists, Option.some.injEq, Prod.mk.injEq]
  constructor
  · rintro ⟨_, _, ⟨d, h2, z, h3, rfl, rfl⟩, q⟩
    exact ⟨d, h2, z, h3, q⟩
  · rintro ⟨d, h2, z, h3, q⟩
    exact ⟨z, ρ, ⟨d, h2, z, h3, rfl, rfl⟩, q⟩
@[simp] theorem z_op2 {o : O2} {a b : CE} : Ze cl (.op2 o a b) ρ Q ↔ Ze cl a ρ fun r ρ1 => Is (toD r) fun x => Ze cl b ρ1 fun r2 ρ2 => Is (toD r2) fun y => Is (op2 o x y) fun z => Q z ρ2 := by
  simp only [Ze, ev, bind, Option.bind_eq_some_iff, Is, Prod.exists, Option.some.injEq, Prod.mk.injEq]
  constructor
  · rintro ⟨_, _, ⟨r, ρ1, h1, d, h2, r2, ρ2, h3, y, h4, z, h5, rfl, rfl⟩, q⟩
    exact ⟨r, _, h1, d, h2, r2, _, h3, y, h4, z, h5, q⟩
  · rintro ⟨r, ρ1, h1, d, h2, r2, ρ2, h3, y, h4, z, h5, q⟩
    exact ⟨z, _, ⟨r, ρ1, h1, d, h2, r2, ρ2, h3, y, h4, z, h5, rfl, rfl⟩, q⟩
@[simp] theorem z_op2v {o : O2} {i : Nat} {b : CE} : Ze cl (.op2v o i b) ρ Q ↔ Is (peek ρ i) fun _ => Ze cl b ρ fun r2 ρ2 => Is (toD r2) fun y => Is (peek ρ2 i) fun x => Is (op2 o x y) fun z => Q z ρ2 := by
  simp only [Ze, ev, bind, Option.bind_eq_some_iff, Is, Prod.exists, Option.some.injEq, Prod.mk.injEq]
  constructor
  · rintro ⟨_, _, ⟨d, h2, r2, ρ2, h3, y, h4, x, h6, z, h5, rfl, rfl⟩, q⟩
    exact ⟨d, h2, r2, _, h3, y, h4, x, h6, z, h5, q⟩
  · rintro ⟨d, h2, r2, ρ2, h3, y, h4, x, h6, z, h5, q⟩
    exact ⟨z, _, ⟨d, h2, r2, ρ2, h3, y, h4, x, h6, z, h5, rfl, rfl⟩, q⟩
@[simp] theorem z_op2w {o : O2} {a : CE} {i : Nat} : Ze cl (.op2w o a i) ρ Q ↔ Ze cl a ρ fun r ρ1 => Is (toD r) fun x => Is (peek ρ1 i) fun y => Is (op2 o x y) fun z => Q z ρ1 := by
  simp only [Ze, ev, bind, Option.bind_eq_some_iff, Is, Prod.exists, Option.some.injEq, Prod.mk.injEq]
  constructor
  · rintro ⟨_, _, ⟨r, ρ1, h1, d, h2, y, h4, z, h5, rfl, rfl⟩, q⟩
    exact ⟨r, _, h1, d, h2, y, h4, z, h5, q⟩
  · rintro ⟨r, ρ1, h1, d, h2, y, h4, z, h5, q⟩
    exact ⟨z, _, ⟨r, ρ1, h1, d, h2, y, h4, z, h5, rfl, rfl⟩, q⟩
@[simp] theorem z_op2x {o : O2} {i j : Nat} : Ze cl (.op2x o i j) ρ Q ↔ Is (peek ρ i) fun x => Is (peek ρ j) fun y => Is (op2 o x y) fun z => Q z ρ := by
  simp only [Ze, ev, bind, Option.bind_eq_some_iff, Is, Prod.exists, Option.some.injEq, Prod.mk.injEq]
  constructor
  · rintro ⟨_, _, ⟨x, h1, y, h4, z, h5, rfl, rfl⟩, q⟩
    exact ⟨x, h1, y, h4, z, h5, q⟩
  · rintro ⟨x, h1, y, h4, z, h5, q⟩
    exact ⟨z, _, ⟨x, h1, y, h4, z, h5, rfl, rfl⟩, q⟩
def bi2D : B2 → PyData → PyData → Option Sl
  | .min, .int i, .int j => some (.sh (.int (if j < i then j else i)))
  | .max, .int i, .int j => some (.sh (.int (if j > i then j else i)))
  | _, _, _ => none
@[simp] theorem z_bi2 {o : B2} {a b : CE} : Ze cl (.bi2 o a b) ρ Q ↔ Ze cl a ρ fun r ρ1 => Is (toD r) fun x => Ze cl b ρ1 fun r2 ρ2 => Is (toD r2) fun y => Is (bi2D o x y) fun z => Q z ρ2 := by
  simp only [Ze, ev, bind, Option.bind_eq_some_iff, Is, Prod.exists, Option.some.injEq, Prod.mk.injEq]
  constructor
  · rintro ⟨r0, ρ0, ⟨r, ρ1, h1, d, h2, r2, ρ2, h3, y, h4, h5⟩, q⟩
    refine ⟨r, _, h1, d, h2, r2, _, h3, y, h4, ?_⟩
    split at h5
    · cases h5
      exact ⟨_, rfl, q⟩
    · cases h5
      exact ⟨_, rfl, q⟩
    · cases h5
  · rintro ⟨r, ρ1, h1, d, h2, r2, ρ2, h3, y, h4, z, h5, q⟩
    refine ⟨z, ρ2, ⟨r, ρ1, h1, d, h2, r2, ρ2, h3, y, h4, ?_⟩, q⟩
    unfold bi2D at h5
    split at h5
    · cases h5
      rfl
    · cases h5
      rfl
    · cases h5
def bOf : Sl → Option Bool
  | .sh (.bool b) => some b
  | _ => none
@[simp] theorem z_chain {o o' : O2} {a b c : CE} : Ze cl (.chain o o' a b c) ρ Q ↔ Ze cl a ρ fun r ρ1 => Is (toD r) fun x => Ze cl b ρ1 fun r2 ρ2 => Is (toD r2) fun y => Is (op2 o x y) fun z => Is (bOf z) fun t => if t = true then Ze cl c ρ2 fun r3 ρ3 => Is (toD r3) fun w => Is (op2 o' y w) fun z' => Q z' ρ3 else Q (.sh (.bool false)) ρ2 := by
  simp only [Ze, ev, bind, Option.bind_eq_some_iff, Is, Prod.exists, Option.some.injEq, Prod.mk.injEq]
  constructor
  · rintro ⟨r0, ρ0, ⟨r, ρ1, h1, d, h2, r2, ρ2, h3, y, h4, z, h5, h6⟩, q⟩
    refine ⟨r, _, h1, d, h2, r2, _, h3, y, h4, z, h5, ?_⟩
    split at h6
    · obtain ⟨r3, ρ3, h7, w, h8, z', h9, rfl, rfl⟩ := (by simpa [Option.bind_eq_some_iff] using h6 : ∃ r3 ρ3, ev cl c ρ2 = some (r3, ρ3) ∧ ∃ w, toD r3 = some w ∧ ∃ z', op2 o' y w = some z' ∧ z' = r0 ∧ ρ3 = ρ0)
      exact ⟨true, rfl, by simpa using ⟨r3, _, h7, w, h8, _, h9, q⟩⟩
    · cases h6
      exact ⟨false, rfl, by simpa using q⟩
    · cases h6
  · rintro ⟨r, ρ1, h1, d, h2, r2, ρ2, h3, y, h4, z, h5, t, h6, q⟩
    have hz : z = .sh (.bool t) := by
      unfold bOf at h6
      split at h6
      · cases h6
        rfl
      · cases h6
    subst hz
    cases t
    · exact ⟨_, _, ⟨r, _, h1, d, h2, r2, _, h3, y, h4, _, h5, rfl⟩, by simpa using q⟩
    · obtain ⟨r3, ρ3, h7, w, h8, z', h9, q⟩ := (by simpa using q : ∃ r3 ρ3, ev cl c ρ2 = some (r3, ρ3) ∧ ∃ w, toD r3 = some w ∧ ∃ z', op2 o' y w = some z' ∧ Q z' ρ3)
      exact ⟨z', ρ3, ⟨r, _, h1, d, h2, r2, _, h3, y, h4, _, h5, by simp [h7, h8, h9]⟩, q⟩
@[simp] theorem z_and {a b : CE} : Ze cl (.and a b) ρ Q ↔ Ze cl a ρ fun r ρ1 => Is (toD r) fun d => Is (truthD d) fun t => if t = true then Ze cl b ρ1 Q else Q (.sh d) ρ1 := by
  simp only [Ze, ev, bind, Option.bind_eq_some_iff, Is, Prod.exists]
  constructor
  · rintro ⟨r0, ρ0, ⟨r, ρ1, h1, d, h2, t, h3, h4⟩, q⟩
    refine ⟨r, _, h1, d, h2, t, h3, ?_⟩
    cases t
    · obtain ⟨rfl, rfl⟩ := (by simpa using h4 : Sl.sh d = r0 ∧ ρ1 = ρ0)
      simpa using q
    · exact (by simpa using ⟨r0, ρ0, by simpa using h4, q⟩)
  · rintro ⟨r, ρ1, h1, d, h2, t, h3, q⟩
    cases t
    · exact ⟨_, _, ⟨r, _, h1, d, h2, _, h3, by simp; exact ⟨rfl, rfl⟩⟩, by simpa using q⟩
    · obtain ⟨r0, ρ0, h4, q⟩ := (by simpa using q : ∃ r ρ', ev cl b ρ1 = some (r, ρ') ∧ Q r ρ')
      exact ⟨r0, ρ0, ⟨r, _, h1, d, h2, _, h3, by simpa using h4⟩, q⟩
@[simp] theorem z_or {a b : CE} : Ze cl (.or a b) ρ Q ↔ Ze cl a ρ fun r ρ1 => Is (toD r) fun d => Is (truthD d) fun t => if t = true then Q (.sh d) ρ1 else Ze cl b ρ1 Q := by
  simp only [Ze, ev, bind, Option.bind_eq_some_iff, Is, Prod.exists]
  constructor
  · rintro ⟨r0, ρ0, ⟨r, ρ1, h1, d, h2, t, h3, h4⟩, q⟩
    refine ⟨r, _, h1, d, h2, t, h3, ?_⟩
    cases t
    · exact (by simpa using ⟨r0, ρ0, by simpa using h4, q⟩)
    · obtain ⟨rfl, rfl⟩ := (by simpa using h4 : Sl.sh d = r0 ∧ ρ1 = ρ0)
      simpa using q
  · rintro ⟨r, ρ1, h1, d, h2, t, h3, q⟩
    cases t
    · obtain ⟨r0, ρ0, h4, q⟩ := (by simpa using q : ∃ r ρ', ev cl b ρ1 = some (r, ρ') ∧ Q r ρ')
      exact ⟨r0, ρ0, ⟨r, _, h1, d, h2, _, h3, by simpa using h4⟩, q⟩
    · exact ⟨_, _, ⟨r, _, h1, d, h2, _, h3, by simp; exact ⟨rfl, rfl⟩⟩, by simpa using q⟩
@[simp] theorem z_ite {c a b : CE} : Ze cl (.ite c a b) ρ Q ↔ Ze cl c ρ fun r ρ1 => Is (toD r) fun d => Is (truthD d) fun t => if t = true then Ze cl a ρ1 Q else Ze cl b ρ1 Q := by
  simp only [Ze, ev, bind, Option.bind_eq_some_iff, Is, Prod.exists]
  constructor
  · rintro ⟨r0, ρ0, ⟨r, ρ1, h1, t, ⟨d, h2, h3⟩, h4⟩, q⟩
    refine ⟨r, _, h1, d, h2, t, h3, ?_⟩
    cases t
    · exact (by simpa using ⟨r0, ρ0, by simpa using h4, q⟩)
    · exact (by simpa using ⟨r0, ρ0, by simpa using h4, q⟩)
  · rintro ⟨r, ρ1, h1, d, h2, t, h3, q⟩
    cases t
    · obtain ⟨r0, ρ0, h4, q⟩ := (by simpa using q : ∃ r ρ', ev cl b ρ1 = some (r, ρ') ∧ Q r ρ')
      exact ⟨r0, ρ0, ⟨r, _, h1, _, ⟨d, h2, h3⟩, by simpa using h4⟩, q⟩
    · obtain ⟨r0, ρ0, h4, q⟩ := (by simpa using q : ∃ r ρ', ev cl a ρ1 = some (r, ρ') ∧ Q r ρ')
      exact ⟨r0, ρ0, ⟨r, _, h1, _, ⟨d, h2, h3⟩, by simpa using h4⟩, q⟩
@[simp] theorem z_tup {a : CE} : Ze cl (.tup a) ρ Q ↔ Za cl a ρ fun ds ρ1 => ds.length ≤ lim ∧ Q (.sh (.tuple ds)) ρ1 := by
  simp only [Ze, Za, ev, bind, Option.bind_eq_some_iff, Prod.exists, Option.ite_none_right_eq_some, Option.some.injEq, Prod.mk.injEq]
  constructor
  · rintro ⟨_, _, ⟨r, ρ1, h1, h2, rfl, rfl⟩, q⟩
    exact ⟨r, _, h1, h2, q⟩
  · rintro ⟨r, ρ1, h1, h2, q⟩
    exact ⟨_, _, ⟨r, ρ1, h1, h2, rfl, rfl⟩, q⟩
@[simp] theorem z_lst {a : CE} : Ze cl (.lst a) ρ Q ↔ Za cl a ρ fun ds ρ1 => ds.length ≤ lim ∧ Q (.ow ds) ρ1 := by
  simp only [Ze, Za, ev, bind, Option.bind_eq_some_iff, Prod.exists, Option.ite_none_right_eq_some, Option.some.injEq, Prod.mk.injEq]
  constructor
  · rintro ⟨_, _, ⟨r, ρ1, h1, h2, rfl, rfl⟩, q⟩
    exact ⟨r, _, h1, h2, q⟩
  · rintro ⟨r, ρ1, h1, h2, q⟩
    exact ⟨_, _, ⟨r, ρ1, h1, h2, rfl, rfl⟩, q⟩
@[simp] theorem z_sl {a lo hi : CE} : Ze cl (.sl a lo hi) ρ Q ↔ Ze cl a ρ fun r ρ1 => Is (toD r) fun x => Ze cl lo ρ1 fun r2 ρ2 => Is (toD r2) fun l0 => Is (bnd lo l0) fun l => Ze cl hi ρ2 fun r3 ρ3 => Is (toD r3) fun h0 => Is (bnd hi h0) fun h => Is (slice x l h) fun z => Q z ρ3 := by
  simp only [Ze, ev, bind, Option.bind_eq_some_iff, Is, Prod.exists, Option.some.injEq, Prod.mk.injEq]
  constructor
  · rintro ⟨_, _, ⟨r, ρ1, h1, d, h2, r2, ρ2, h3, y, ⟨l0, h4, h40⟩, r3, ρ3, h5, h, ⟨h0, h6, h60⟩, z, h7, rfl, rfl⟩, q⟩
    exact ⟨r, _, h1, d, h2, r2, _, h3, l0, h4, y, h40, r3, _, h5, h0, h6, h, h60, z, h7, q⟩
  · rintro ⟨r, ρ1, h1, d, h2, r2, ρ2, h3, l0, h4, y, h40, r3, ρ3, h5, h0, h6, h, h60, z, h7, q⟩
    exact ⟨_, _, ⟨r, ρ1, h1, d, h2, r2, ρ2, h3, y, ⟨l0, h4, h40⟩, r3, ρ3, h5, h, ⟨h0, h6, h60⟩, z, h7, rfl, rfl⟩, q⟩
@[simp] theorem z_slv {i : Nat} {lo hi : CE} : Ze cl (.slv i lo hi) ρ Q ↔ Is (peek ρ i) fun _ => Ze cl lo ρ fun r2 ρ2 => Is (toD r2) fun l0 => Is (bnd lo l0) fun l => Ze cl hi ρ2 fun r3 ρ3 => Is (toD r3) fun h0 => Is (bnd hi h0) fun h => Is (peek ρ3 i) fun x => Is (slice x l h) fun z => Q z ρ3 := by
  simp only [Ze, ev, bind, Option.bind_eq_some_iff, Is, Prod.exists, Option.some.injEq, Prod.mk.injEq]
  constructor
  · rintro ⟨_, _, ⟨d, h2, r2, ρ2, h3, y, ⟨l0, h4, h40⟩, r3, ρ3, h5, h, ⟨h0, h6, h60⟩, x, h8, z, h7, rfl, rfl⟩, q⟩
    exact ⟨d, h2, r2, _, h3, l0, h4, y, h40, r3, _, h5, h0, h6, h, h60, x, h8, z, h7, q⟩
  · rintro ⟨d, h2, r2, ρ2, h3, l0, h4, y, h40, r3, ρ3, h5, h0, h6, h, h60, x, h8, z, h7, q⟩
    exact ⟨_, _, ⟨d, h2, r2, ρ2, h3, y, ⟨l0, h4, h40⟩, r3, ρ3, h5, h, ⟨h0, h6, h60⟩, x, h8, z, h7, rfl, rfl⟩, q⟩
def Zr (cl : Calls) (f : Nat) (as : List Sl) (Q : Sl → Option (List PyData) → Prop) : Prop := ∃ r o, cl f as = some (r, o) ∧ Q r o
@[simp] theorem z_call {f : Nat} {as : CE} : Ze cl (.call f as) ρ Q ↔ Za cl as ρ fun ds ρ1 => Zr cl f (ds.map Sl.sh) fun r _ => Q r ρ1 := by
  simp only [Ze, Za, Zr, ev, bind, Option.bind_eq_some_iff, Prod.exists, Option.some.injEq, Prod.mk.injEq]
  constructor
  · rintro ⟨_, _, ⟨ds, ρ1, h1, r, o, h2, rfl, rfl⟩, q⟩
    exact ⟨ds, _, h1, r, o, h2, q⟩
  · rintro ⟨ds, ρ1, h1, r, o, h2, q⟩
    exact ⟨_, _, ⟨ds, ρ1, h1, r, o, h2, rfl, rfl⟩, q⟩
def lstOf : Sl → Option (Bool × List PyData)
  | .ow l => some (true, l)
  | .io l => some (false, l)
  | _ => none
def lstTo : Bool → List PyData → Sl
  | true, l => .ow l
  | false, l => .io l
@[simp] theorem z_callm {f i : Nat} {as : CE} : Ze cl (.callm f i as) ρ Q ↔ Is (peek ρ i) fun _ => Za cl as ρ fun ds ρ1 => Is (ρ1[i]?) fun s => Is (lstOf s) fun p => Zr cl f (.io p.2 :: ds.map Sl.sh) fun r o => Is o fun l' => Q r (ρ1.set i (lstTo p.1 l')) := by
  simp only [Ze, Za, Zr, ev, bind, Option.bind_eq_some_iff, Prod.exists, Is]
  constructor
  · rintro ⟨r0, ρ0, ⟨x, h0, ds, ρ1, h1, h2⟩, q⟩
    refine ⟨x, h0, ds, ρ1, h1, ?_⟩
    split at h2
    · rename_i l h3
      obtain ⟨r, o, h4, l', h5, h6⟩ := (by simpa [Option.bind_eq_some_iff] using h2 : ∃ r o, cl f (.io l :: ds.map Sl.sh) = some (r, o) ∧ ∃ l', o = some l' ∧ r = r0 ∧ ρ1.set i (.ow l') = ρ0)
      obtain ⟨rfl, rfl⟩ := h6
      exact ⟨_, h3, true, l, rfl, r, o, h4, l', h5, q⟩
    · rename_i l h3
      obtain ⟨r, o, h4, l', h5, h6⟩ := (by simpa [Option.bind_eq_some_iff] using h2 : ∃ r o, cl f (.io l :: ds.map Sl.sh) = some (r, o) ∧ ∃ l', o = some l' ∧ r = r0 ∧ ρ1.set i (.io l') = ρ0)
      obtain ⟨rfl, rfl⟩ := h6
      exact ⟨_, h3, false, l, rfl, r, o, h4, l', h5, q⟩
    · cases h2
  · rintro ⟨x, h0, ds, ρ1, h1, s, h3, b, l, h4, r, o, h5, l', h6, q⟩
    subst h6
    have hs : s = lstTo b l := by
      unfold lstOf at h4
      split at h4 <;> cases h4 <;> rfl
    subst hs
    refine ⟨_, _, ⟨x, h0, ds, ρ1, h1, ?_⟩, q⟩
    cases b <;> simp [h3, lstTo, h5]
@[simp] theorem z_callsc {f i : Nat} : Ze cl (.callsc f i) ρ Q ↔ ∃ ns, ρ[i]? = some (.sc ns) ∧ Zr cl f [.sc ns] fun r _ => Q r ρ := by
  simp only [Ze, Zr, ev, bind]
  constructor
  · rintro ⟨r0, ρ0, h, q⟩
    split at h
    · rename_i ns h3
      obtain ⟨r, o, h4, rfl, rfl⟩ := (by simpa [Option.bind_eq_some_iff] using h : ∃ r, (∃ o, cl f [.sc ns] = some (r, o)) ∧ r = r0 ∧ ρ = ρ0) |> fun ⟨r, ⟨o, h⟩, a, b⟩ => (⟨r, o, h, a, b⟩ : ∃ r o, cl f [.sc ns] = some (r, o) ∧ r = r0 ∧ ρ = ρ0)
      exact ⟨ns, h3, _, o, h4, q⟩
    · cases h
  · rintro ⟨ns, h3, r, o, h4, q⟩
    exact ⟨r, ρ, by simp [h3, h4], q⟩
@[simp] theorem z_slsc {i : Nat} {lo hi : CE} : Ze cl (.slsc i lo hi) ρ Q ↔ ∃ ns, ρ[i]? = some (.sc ns) ∧ Ze cl lo ρ fun r2 ρ2 => Is (toD r2) fun l0 => Is (bnd lo l0) fun l => Ze cl hi ρ2 fun r3 ρ3 => Is (toD r3) fun h0 => Is (bnd hi h0) fun h => ∃ ms, ρ3[i]? = some (.sc ms) ∧ Is (slice (.list (ms.map .int)) l h) fun z => Q z ρ3 := by
  simp only [Ze, ev, bind, Is]
  constructor
  · rintro ⟨r0, ρ0, h, q⟩
    split at h
    · rename_i ns hn
      refine ⟨ns, hn, ?_⟩
      simp only [Option.bind_eq_some_iff, Prod.exists] at h
      obtain ⟨r2, ρ2, h1, l, ⟨l0, h2, h3⟩, r3, ρ3, h4, h0, ⟨d, h5, h6⟩, h7⟩ := h
      refine ⟨r2, ρ2, h1, l0, h2, l, h3, r3, ρ3, h4, d, h5, h0, h6, ?_⟩
      split at h7
      · rename_i ms hm
        simp only [Option.map_eq_some_iff, Prod.mk.injEq] at h7
        obtain ⟨z, h8, rfl, rfl⟩ := h7
        exact ⟨ms, hm, z, h8, q⟩
      · cases h7
    · cases h
  · rintro ⟨ns, hn, r2, ρ2, h1, l0, h2, l, h3, r3, ρ3, h4, d, h5, h0, h6, ms, hm, z, h8, q⟩
    exact ⟨z, ρ3, by simp [hn, h1, h2, h3, h4, h5, h6, hm, h8], q⟩
def intOf : Sl → Option Int
  | .sh (.int i) => some i
  | _ => none
@[simp] theorem z_rng {a b : CE} : Ze cl (.rng a b) ρ Q ↔ Ze cl a ρ fun r ρ1 => Ze cl b ρ1 fun r2 ρ2 => Is (intOf r) fun i => Is (intOf r2) fun j => (rgOk i && rgOk j) = true ∧ Q (.ow (rngD i (j - i).toNat)) ρ2 := by
  simp only [Ze, ev, bind, Option.bind_eq_some_iff, Prod.exists, Is]
  constructor
  · rintro ⟨r0, ρ0, ⟨r, ρ1, h1, r2, ρ2, h2, h3⟩, q⟩
    refine ⟨r, ρ1, h1, r2, ρ2, h2, ?_⟩
    split at h3
    · rename_i i j
      simp only [Option.ite_none_right_eq_some, Option.some.injEq, Prod.mk.injEq] at h3
      obtain ⟨h4, rfl, rfl⟩ := h3
      exact ⟨i, rfl, j, rfl, h4, q⟩
    · cases h3
  · rintro ⟨r, ρ1, h1, r2, ρ2, h2, i, h3, j, h4, h5, q⟩
    have e1 : r = .sh (.int i) := by
      unfold intOf at h3
      split at h3 <;> cases h3 <;> rfl
    have e2 : r2 = .sh (.int j) := by
      unfold intOf at h4
      split at h4 <;> cases h4 <;> rfl
    subst e1 e2
    exact ⟨_, _, ⟨_, _, h1, _, _, h2, by simp only [h5, if_true]⟩, q⟩
def Zc (g : PyData → PEnv → Option PEnv) (c e : PEnv → Option (Sl × PEnv)) (vs : List Nat) (l : List PyData) (ρ : PEnv) (acc : List PyData) (Q : List PyData → PEnv → Prop) : Prop := ∃ a ρ', compLoop g c e vs l ρ acc = some (a, ρ') ∧ Q a ρ'
@[simp] theorem z_comp {t c e : CE} {vs : List Nat} {tg : Tg} : Ze cl (.comp t vs tg c e) ρ Q ↔ Ze cl t ρ fun r ρ1 => Is (items r) fun l => (decide (l.length ≤ lim) && vs.all (plainSl ρ1)) = true ∧ Zc (asgn tg) (ev cl c) (ev cl e) vs l (wipeE ρ1 vs) [] fun acc ρ2 => Q (.ow acc) (backE ρ1 ρ2 vs) := by
  simp only [Ze, Zc, ev, bind, Option.bind_eq_some_iff, Prod.exists, Is, Option.ite_none_right_eq_some, Option.some.injEq, Prod.mk.injEq]
  constructor
  · rintro ⟨_, _, ⟨r, ρ1, h1, l, h2, h3, a, ρ2, h4, rfl, rfl⟩, q⟩
    exact ⟨r, ρ1, h1, l, h2, h3, a, ρ2, h4, q⟩
  · rintro ⟨r, ρ1, h1, l, h2, h3, a, ρ2, h4, q⟩
    exact ⟨_, _, ⟨r, ρ1, h1, l, h2, h3, a, ρ2, h4, rfl, rfl⟩, q⟩
variable {QA : List PyData → PEnv → Prop} {QP : List Sl → PEnv → Prop} {QB : Bool → PEnv → Prop} {N : PEnv → Prop} {R : Sl → PEnv → Prop}
@[simp] theorem za_nil : Za cl .nil ρ QA ↔ QA [] ρ := by
  simp only [Za, evA, Option.some.injEq, Prod.mk.injEq]
  exact ⟨fun ⟨_, _, ⟨rfl, rfl⟩, q⟩ => q, fun q => ⟨_, _, ⟨rfl, rfl⟩, q⟩⟩
@[simp] theorem za_cons {a b : CE} : Za cl (.cons a b) ρ QA ↔ Ze cl a ρ fun r ρ1 => Is (toD r) fun d => Za cl b ρ1 fun ds ρ2 => QA (d :: ds) ρ2 := by
  simp only [Ze, Za, evA, bind, Option.bind_eq_some_iff, Is, Prod.exists, Option.some.injEq, Prod.mk.injEq]
  constructor
  · rintro ⟨_, _, ⟨r, ρ1, h1, d, h2, ds, ρ2, h3, rfl, rfl⟩, q⟩
    exact ⟨r, _, h1, d, h2, ds, _, h3, q⟩
  · rintro ⟨r, ρ1, h1, d, h2, ds, ρ2, h3, q⟩
    exact ⟨_, _, ⟨r, ρ1, h1, d, h2, ds, ρ2, h3, rfl, rfl⟩, q⟩
@[simp] theorem zp_nil : Zp cl .nil ρ QP ↔ QP [] ρ := by
  simp only [Zp, evP, Option.some.injEq, Prod.mk.injEq]
  exact ⟨fun ⟨_, _, ⟨rfl, rfl⟩, q⟩ => q, fun q => ⟨_, _, ⟨rfl, rfl⟩, q⟩⟩
@[simp] theorem zp_cons {a b : CE} : Zp cl (.cons a b) ρ QP ↔ Ze cl a ρ fun r ρ1 => Zp cl b ρ1 fun ds ρ2 => QP (r :: ds) ρ2 := by
  simp only [Ze, Zp, evP, bind, Option.bind_eq_some_iff, Is, Prod.exists, Option.some.injEq, Prod.mk.injEq]
  constructor
  · rintro ⟨_, _, ⟨r, ρ1, h1, ds, ρ2, h3, rfl, rfl⟩, q⟩
    exact ⟨r, _, h1, ds, _, h3, q⟩
  · rintro ⟨r, ρ1, h1, ds, ρ2, h3, q⟩
    exact ⟨_, _, ⟨r, ρ1, h1, ds, ρ2, h3, rfl, rfl⟩, q⟩
@[simp] theorem z_tst {c : CE} : Zt cl c ρ QB ↔ Ze cl c ρ fun r ρ1 => Is (toD r) fun d => Is (truthD d) fun t => QB t ρ1 := by
  simp only [Ze, Zt, tst, bind, Option.bind_eq_some_iff, Is, Prod.exists, Option.some.injEq, Prod.mk.injEq]
  constructor
  · rintro ⟨_, _, ⟨r, ρ1, h1, t, ⟨d, h2, h3⟩, rfl, rfl⟩, q⟩
    exact ⟨r, _, h1, d, h2, t, h3, q⟩
  · rintro ⟨r, ρ1, h1, d, h2, t, h3, q⟩
    exact ⟨_, _, ⟨r, ρ1, h1, t, ⟨d, h2, h3⟩, rfl, rfl⟩, q⟩
/-! statements -/
@[simp] theorem zo_nx : Zo (some (.nx ρ)) N R ↔ N ρ := by simp [Zo]
@[simp] theorem zo_rt {r : Sl} : Zo (some (.rt r ρ)) N R ↔ R r ρ := by simp [Zo]
@[simp] theorem zo_no : Zo none N R ↔ False := by simp [Zo]
theorem zo_bind {α : Type} {o : Option α} {f : α → Option Out} : Zo (o.bind f) N R ↔ Is o fun x => Zo (f x) N R := by cases o <;> simp
theorem zo_if {c : Prop} [Decidable c] {a b : Option Out} : Zo (if c then a else b) N R ↔ if c then Zo a N R else Zo b N R := by split <;> simp
@[simp] theorem zo_map {o : Option PEnv} : Zo (o.map Out.nx) N R ↔ Is o N := by cases o <;> simp
theorem is_ev {e : CE} {P : Sl × PEnv → Prop} : Is (ev cl e ρ) P ↔ Ze cl e ρ fun r ρ' => P (r, ρ') := by simp [Is, Ze]
theorem is_evA {e : CE} {P : List PyData × PEnv → Prop} : Is (evA cl e ρ) P ↔ Za cl e ρ fun r ρ' => P (r, ρ') := by simp [Is, Za]
theorem is_evP {e : CE} {P : List Sl × PEnv → Prop} : Is (evP cl e ρ) P ↔ Zp cl e ρ fun r ρ' => P (r, ρ') := by simp [Is, Zp]
theorem is_tst {e : CE} {P : Bool × PEnv → Prop} : Is (tst cl e ρ) P ↔ Zt cl e ρ fun r ρ' => P (r, ρ') := by simp [Is, Zt]
@[simp] theorem x_pass : Zx cl F .pass ρ N R ↔ N ρ := by simp [Zx, ex]
@[simp] theorem x_fail : Zx cl F .fail ρ N R ↔ False := by simp [Zx, ex]
@[simp] theorem x_seq {a b : CS} : Zx cl F (.seq a b) ρ N R ↔ Zx cl F a ρ (fun ρ1 => Zx cl F b ρ1 N R) R := by
  unfold Zx
  simp only [ex, bind, zo_bind]
  constructor
  · rintro ⟨x, h, q⟩
    exact ⟨x, h, by cases x <;> simpa using q⟩
  · rintro ⟨x, h, q⟩
    exact ⟨x, h, by cases x <;> simpa using q⟩
@[simp] theorem x_asg {i : Nat} {e : CE} : Zx cl F (.asg (.nm i) e) ρ N R ↔ Ze cl e ρ fun r ρ1 => Is (put ρ1 i r) N := by
  unfold Zx
  simp only [ex, bind, zo_bind, is_ev, zo_map]
@[simp] theorem x_asgt {t : Tg} {e : CE} : Zx cl F (.asg (.tp t) e) ρ N R ↔ Ze cl e ρ fun r ρ1 => Is (toD r) fun d => Is (asgn (.tp t) d ρ1) N := by
  unfold Zx
  simp only [ex, bind, zo_bind, is_ev, zo_map]
@[simp] theorem x_par {ts : Tg} {es : CE} : Zx cl F (.par ts es) ρ N R ↔ Zp cl es ρ fun rs ρ1 => Is (putP ts rs ρ1) N := by
  unfold Zx
  simp only [ex, bind, zo_bind, is_evP, zo_map]
def intD : PyData → Option Int
  | .int i => some i
  | _ => none
@[simp] theorem x_seti {i : Nat} {x e : CE} : Zx cl F (.seti i x e) ρ N R ↔ Ze cl e ρ fun r ρ1 => Is (toD r) fun d => Is (peek ρ1 i) fun _ => Ze cl x ρ1 fun r2 ρ2 => Is (toD r2) fun y => Is (intD y) fun z => Is (setAt ρ2 i z d) N := by
  unfold Zx
  simp only [ex, bind, zo_bind, is_ev]
  constructor
  · rintro ⟨r, ρ1, h1, d, h2, x1, h3, r2, ρ2, h4, y, h5, q⟩
    refine ⟨r, ρ1, h1, d, h2, x1, h3, r2, ρ2, h4, y, h5, ?_⟩
    cases y <;> simp only [zo_no, zo_map] at q
    exact ⟨_, rfl, q⟩
  · rintro ⟨r, ρ1, h1, d, h2, x1, h3, r2, ρ2, h4, y, h5, z, h6, q⟩
    refine ⟨r, ρ1, h1, d, h2, x1, h3, r2, ρ2, h4, y, h5, ?_⟩
    cases y <;> simp only [intD, Option.some.injEq, reduceCtorEq] at h6
    subst h6
    simpa using q
@[simp] theorem x_app {i : Nat} {e : CE} : Zx cl F (.app i e) ρ N R ↔ Is (listAt ρ i) fun _ => Ze cl e ρ fun r ρ1 => Is (toD r) fun d => Is (upd ρ1 i fun l => if l.length < lim then some (l ++ [d]) else none) N := by
  unfold Zx
  simp only [ex, bind, zo_bind, is_ev, zo_map]
@[simp] theorem x_drop {e : CE} : Zx cl F (.drop e) ρ N R ↔ Ze cl e ρ fun _ ρ1 => N ρ1 := by
  unfold Zx
  simp only [ex, bind, zo_bind, is_ev, zo_nx]
@[simp] theorem x_ret {e : CE} : Zx cl F (.ret e) ρ N R ↔ Ze cl e ρ R := by
  unfold Zx
  simp only [ex, bind, zo_bind, is_ev, zo_rt]
@[simp] theorem x_ite {c : CE} {a b : CS} : Zx cl F (.ite c a b) ρ N R ↔ Ze cl c ρ fun r ρ1 => Is (toD r) fun d => Is (truthD d) fun t => if t = true then Zx cl F a ρ1 N R else Zx cl F b ρ1 N R := by
  unfold Zx
  simp only [ex, bind, zo_bind, is_tst, z_tst, zo_if]
def Zf (g : PyData → PEnv → Option PEnv) (b : PEnv → Option Out) (l : List PyData) (ρ : PEnv) (N : PEnv → Prop) (R : Sl → PEnv → Prop) : Prop := Zo (forLoop g b l ρ) N R
@[simp] theorem x_for {t : Tg} {i : CE} {b : CS} : Zx cl F (.for t i b) ρ N R ↔ Ze cl i ρ fun r ρ1 => Is (items r) fun l => Zf (asgn t) (ex cl F b) l ρ1 N R := by
  unfold Zx Zf
  simp only [ex, bind, zo_bind, is_ev]
theorem zf_ind {g : PyData → PEnv → Option PEnv} {b : PEnv → Option Out} {l : List PyData} {ρ : PEnv} (I : Nat → PEnv → Prop) (h0 : I 0 ρ) (step : ∀ n d ρ, l[n]? = some d → I n ρ → Is (g d ρ) fun ρ1 => Zo (b ρ1) (I (n + 1)) R) (fin : ∀ ρ, I l.length ρ → N ρ) : Zf g b l ρ N R := by
  have key : ∀ (m : List PyData) (n : Nat) (ρ : PEnv), l = l.take n ++ m → n + m.length = l.length → I n ρ → Zo (forLoop g b m ρ) N R := by
    intro m
    induction m with
    | nil =>
      intro n ρ e el h
      simp only [forLoop, zo_nx]
      exact fin ρ (by simpa [← el] using h)
    | cons d m ih =>
      intro n ρ e el h
      have hn : n < l.length := by simp at el; omega
      have hd : l[n]? = some d := by
        rw [e, List.getElem?_append_right (by simp; omega)]
        simp [Nat.min_eq_left (Nat.le_of_lt hn)]
      obtain ⟨ρ1, e1, x, e2, q⟩ := step n d ρ hd h
      simp only [forLoop, bind, e1, e2, Option.bind_some]
      cases x with
      | nx ρ2 =>
        refine ih (n + 1) ρ2 ?_ (by simp at el; omega) q
        rw [List.take_add_one, hd]
        simpa using e
      | rt r ρ2 => simpa using q
  exact key l 0 ρ (by simp) (by simp) h0
theorem zc_ind {g : PyData → PEnv → Option PEnv} {c e : PEnv → Option (Sl × PEnv)} {vs : List Nat} {l : List PyData} {ρ : PEnv} {acc : List PyData} {Q : List PyData → PEnv → Prop} (I : Nat → PEnv → List PyData → Prop) (h0 : I 0 ρ acc)
    (step : ∀ n d ρ acc, l[n]? = some d → I n ρ acc → Is (g d ρ) fun ρ1 => Is (c ρ1) fun p => Is (toD p.1) fun y => Is (truthD y) fun t => if t = true then Is (e p.2) fun q => Is (toD q.1) fun z => I (n + 1) (wipeE q.2 vs) (acc ++ [z]) else I (n + 1) (wipeE p.2 vs) acc)
    (fin : ∀ ρ acc, I l.length ρ acc → Q acc ρ) : Zc g c e vs l ρ acc Q := by
  have key : ∀ (m : List PyData) (n : Nat) (ρ : PEnv) (acc : List PyData), l = l.take n ++ m → n + m.length = l.length → I n ρ acc → Zc g c e vs m ρ acc Q := by
    intro m
    induction m with
    | nil =>
      intro n ρ acc el1 el h
      exact ⟨acc, ρ, by simp [compLoop], fin ρ acc (by simpa [← el] using h)⟩
    | cons d m ih =>
      intro n ρ acc el1 el h
      have hn : n < l.length := by simp at el; omega
      have hd : l[n]? = some d := by
        rw [el1, List.getElem?_append_right (by simp; omega)]
        simp [Nat.min_eq_left (Nat.le_of_lt hn)]
      have hl : l = l.take (n + 1) ++ m := by
        rw [List.take_add_one, hd]
        simpa using el1
      have hl2 : n + 1 + m.length = l.length := by simp at el; omega
      obtain ⟨ρ1, e1, ⟨p, ρ2⟩, e2, y, e3, t, e4, q⟩ := step n d ρ acc hd h
      unfold Zc
      simp only [compLoop, bind, e1, e2, e3, e4, Option.bind_some]
      cases t with
      | false =>
        have q' : I (n + 1) (wipeE ρ2 vs) acc := by simpa using q
        have z := ih (n + 1) _ _ hl hl2 q'
        unfold Zc at z
        simpa using z
      | true =>
        obtain ⟨⟨r, ρ3⟩, e5, z, e6, q'⟩ := (by simpa using q : Is (e ρ2) fun q => Is (toD q.1) fun z => I (n + 1) (wipeE q.2 vs) (acc ++ [z]))
        have e6' : toD r = some z := e6
        have z := ih (n + 1) _ _ hl hl2 q'
        unfold Zc at z
        simpa [e5, e6'] using z
  exact key l 0 ρ acc (by simp) (by simp) h0
/-- a comprehension that leaves its surroundings alone: what it keeps of each item -/
theorem zc_pure {g : PyData → PEnv → Option PEnv} {c e : PEnv → Option (Sl × PEnv)} {vs : List Nat} {l : List PyData} {ρ : PEnv} {Q : List PyData → PEnv → Prop} (f : PyData → Option PyData)
    (step : ∀ d, d ∈ l → Is (g d ρ) fun ρ1 => Is (c ρ1) fun p => Is (toD p.1) fun y => Is (truthD y) fun t => if t = true then Is (e p.2) fun q => Is (toD q.1) fun z => wipeE q.2 vs = ρ ∧ f d = some z else wipeE p.2 vs = ρ ∧ f d = none)
    (fin : Q (l.filterMap f) ρ) : Zc g c e vs l ρ [] Q := by
  refine zc_ind (fun n ρ' acc => ρ' = ρ ∧ acc = (l.take n).filterMap f) ⟨rfl, by simp⟩ (fun n d ρ' acc hd h => ?_) (fun ρ' acc h => ?_)
  · obtain ⟨rfl, rfl⟩ := h
    obtain ⟨ρ1, e1, p, e2, y, e3, t, e4, q⟩ := step d (List.mem_of_getElem? hd)
    refine ⟨ρ1, e1, p, e2, y, e3, t, e4, ?_⟩
    cases t with
    | false =>
      obtain ⟨q1, q2⟩ := (by simpa using q : wipeE p.2 vs = _ ∧ f d = none)
      simp only [Bool.false_eq_true, if_false]
      refine ⟨q1, ?_⟩
      rw [List.take_add_one, hd, List.filterMap_append]
      simp [q2]
    | true =>
      obtain ⟨q', e5, z, e6, q1, q2⟩ := (by simpa using q : Is (e p.2) fun q => Is (toD q.1) fun z => wipeE q.2 vs = _ ∧ f d = some z)
      simp only [if_true]
      refine ⟨q', e5, z, e6, q1, ?_⟩
      rw [List.take_add_one, hd, List.filterMap_append]
      simp [q2]
  · obtain ⟨rfl, rfl⟩ := h
    simpa using fin
end
/-! ### runs -/
section
variable {F : Nat} {Γ : List Fn} {k i j : Nat}
@[simp] theorem zr_some {cl : Calls} {f : Nat} {as : List Sl} {r : Sl} {o : Option (List PyData)} {Q : Sl → Option (List PyData) → Prop} (h : cl f as = some (r, o)) : Zr cl f as Q ↔ Q r o := by
  simp only [Zr, h, Option.some.injEq, Prod.mk.injEq]
  exact ⟨fun ⟨_, _, ⟨rfl, rfl⟩, q⟩ => q, fun q => ⟨_, _, ⟨rfl, rfl⟩, q⟩⟩
theorem zr_of {fn : Fn} {as : List Sl} {Q : Sl → Option (List PyData) → Prop} (h : Γ[i]? = some fn) (hl : as.length = fn.ps)
    (hx : Zx (run F Γ k) F fn.body (as ++ List.replicate (fn.n - fn.ps) .un) (fun ρ => Is (endRun fn.io (.sh .none) ρ) fun p => Q p.1 p.2) (fun r ρ => Is (endRun fn.io r ρ) fun p => Q p.1 p.2)) : Zr (run F Γ (k + 1)) i as Q := by
  obtain ⟨x, e, q⟩ := hx
  unfold Zr
  simp only [run, bind, h, Option.bind_some, hl, beq_self_eq_true, if_true, e]
  cases x with
  | nx ρ =>
    obtain ⟨⟨r, o⟩, e2, q⟩ := q
    exact ⟨r, o, e2, q⟩
  | rt r ρ =>
    obtain ⟨⟨r, o⟩, e2, q⟩ := q
    exact ⟨r, o, e2, q⟩
theorem run_of {fn : Fn} {as : List Sl} {r : Sl} {o : Option (List PyData)} (h : Γ[i]? = some fn) (hl : as.length = fn.ps)
    (hx : Zx (run F Γ k) F fn.body (as ++ List.replicate (fn.n - fn.ps) .un) (fun ρ => endRun fn.io (.sh .none) ρ = some (r, o)) (fun r' ρ => endRun fn.io r' ρ = some (r, o))) : run F Γ (k + 1) i as = some (r, o) := by
  have := zr_of (Q := fun r' o' => r' = r ∧ o' = o) h hl (by
    obtain ⟨x, e, q⟩ := hx
    refine ⟨x, e, ?_⟩
    cases x with
    | nx ρ => exact ⟨_, q, rfl, rfl⟩
    | rt r ρ => exact ⟨_, q, rfl, rfl⟩)
  obtain ⟨r', o', e, rfl, rfl⟩ := this
  exact e
end
/-! ### slots and values -/
@[simp] theorem toD_sh (d : PyData) : toD (.sh d) = some d := rfl
@[simp] theorem toD_ow (l : List PyData) : toD (.ow l) = some (.list l) := rfl
@[simp] theorem bOf_sh (b : Bool) : bOf (.sh (.bool b)) = some b := rfl
@[simp] theorem intOf_sh (i : Int) : intOf (.sh (.int i)) = some i := rfl
@[simp] theorem intD_int (i : Int) : intD (.int i) = some i := rfl
@[simp] theorem truthD_bool (b : Bool) : truthD (.bool b) = some b := rfl
@[simp] theorem truthD_int (i : Int) : truthD (.int i) = some (i != 0) := rfl
@[simp] theorem truthD_none : truthD .none = some false := rfl
@[simp] theorem truthD_list (l : List PyData) : truthD (.list l) = some (!l.isEmpty) := rfl
@[simp] theorem truthD_tuple (l : List PyData) : truthD (.tuple l) = some (!l.isEmpty) := rfl
@[simp] theorem bnd_none (e : CE) : bnd (.k .none) .none = some none := rfl
@[simp] theorem bnd_int (e : CE) (i : Int) : bnd e (.int i) = some (some i) := by
  unfold bnd
  split <;> first
    | rfl
    | simp_all
@[simp] theorem lstOf_ow (l : List PyData) : lstOf (.ow l) = some (true, l) := rfl
@[simp] theorem lstOf_io (l : List PyData) : lstOf (.io l) = some (false, l) := rfl
@[simp] theorem lstTo_t (l : List PyData) : lstTo true l = .ow l := rfl
@[simp] theorem lstTo_f (l : List PyData) : lstTo false l = .io l := rfl
@[simp] theorem items_ow (l : List PyData) : items (.ow l) = some l := rfl
@[simp] theorem items_l (l : List PyData) : items (.sh (.list l)) = some l := rfl
@[simp] theorem items_t (l : List PyData) : items (.sh (.tuple l)) = some l := rfl
end PP
namespace PP
open PySem
/-! ### sides -/
theorem log2_small {n : Nat} (h : n < 2 ^ 200) : n.log2 < 200 := by
  by_cases h0 : n = 0
  · subst h0
    decide
  · exact (Nat.log2_lt h0).mpr h
theorem mulOk_small {i j : Int} (h1 : i.natAbs < 2 ^ 200) (h2 : j.natAbs < 2 ^ 200) : mulOk i j = true := by
  have a := log2_small h1
  have b := log2_small h2
  unfold mulOk
  exact decide_eq_true (by omega)
theorem divOk_small {j : Int} (h0 : 0 < j) (h1 : j.natAbs < 2 ^ 200) : divOk j = true := by
  have a := log2_small h1
  unfold divOk
  simp only [h0, decide_true, Bool.true_and]
  exact decide_eq_true (by omega)
theorem atI_of {α : Type} {xs : List α} {i : Int} {v : α} (h0 : 0 ≤ i) (h : xs[i.toNat]? = some v) : L2.atI xs i = some v := by
  have := L2.atI_nat h
  rwa [Int.toNat_of_nonneg h0] at this
abbrev nums (ns : List Int) : List PyData := ns.map PyData.int
@[simp] theorem intsD_nums : ∀ ns : List Int, intsD (ns.map PyData.int) = some ns
  | [] => rfl
  | n :: ns => by simp [intsD, intsD_nums ns]
theorem lev_refl : ∀ (n : Nat) (d : PyData), lev n d = true → PyData.eqv d d = true := by
  intro n
  induction n with
  | zero =>
    intro d h
    cases d <;> simp [lev] at h <;> simp [PyData.eqv]
  | succ n ih =>
    have all : ∀ l : List PyData, l.all (lev n) = true → PyData.eqvAll l l = true := by
      intro l
      induction l with
      | nil => intro _; simp [PyData.eqvAll]
      | cons x l il =>
        intro h
        rw [List.all_cons, Bool.and_eq_true] at h
        rw [PyData.eqvAll, ih x h.1, il h.2]
        rfl
    intro d h
    cases d with
    | list l => simpa [PyData.eqv] using all l (by simpa [lev] using h)
    | tuple l => simpa [PyData.eqv] using all l (by simpa [lev] using h)
    | none => simp [PyData.eqv]
    | bool b => simp [PyData.eqv]
    | int b => simp [PyData.eqv]
    | str b => simp [PyData.eqv]
    | dict b => simp [lev] at h
/-! ### stepping: what stands ahead only -/
theorem is_congr {α : Type} {o o' : Option α} {Q : α → Prop} (h : o = o') : Is o Q = Is o' Q := by rw [h]
theorem ze_congr {cl : Calls} {e : CE} {ρ : PEnv} {Q : Sl → PEnv → Prop} : Ze cl e ρ Q = Ze cl e ρ Q := rfl
theorem za_congr {cl : Calls} {e : CE} {ρ : PEnv} {Q : List PyData → PEnv → Prop} : Za cl e ρ Q = Za cl e ρ Q := rfl
theorem zp_congr {cl : Calls} {e : CE} {ρ : PEnv} {Q : List Sl → PEnv → Prop} : Zp cl e ρ Q = Zp cl e ρ Q := rfl
theorem zx_congr {cl : Calls} {F : Nat} {s : CS} {ρ : PEnv} {N : PEnv → Prop} {R : Sl → PEnv → Prop} : Zx cl F s ρ N R = Zx cl F s ρ N R := rfl
theorem zr_congr {cl : Calls} {f : Nat} {as as' : List Sl} {Q : Sl → Option (List PyData) → Prop} (h : as = as') : Zr cl f as Q = Zr cl f as' Q := by rw [h]
theorem zc_congr {g : PyData → PEnv → Option PEnv} {c e : PEnv → Option (Sl × PEnv)} {vs : List Nat} {l l' : List PyData} {ρ : PEnv} {acc : List PyData} {Q : List PyData → PEnv → Prop} (h : l = l') : Zc g c e vs l ρ acc Q = Zc g c e vs l' ρ acc Q := by rw [h]
theorem zf_congr {g : PyData → PEnv → Option PEnv} {b : PEnv → Option Out} {l l' : List PyData} {ρ : PEnv} {N : PEnv → Prop} {R : Sl → PEnv → Prop} (h : l = l') : Zf g b l ρ N R = Zf g b l' ρ N R := by rw [h]
theorem ite_stop {c c' : Prop} [Decidable c] [Decidable c'] {a b : Prop} (h : c = c') : (if c then a else b) = (if c' then a else b) := by
  subst h
  congr
theorem is_ite {α : Type} {c : Prop} [Decidable c] {o : Option α} {Q : α → Prop} : Is (if c then o else none) Q ↔ c ∧ Is o Q := by split <;> simp [*]
section
variable {i j : Int} {Q : Sl → Prop} {l m : List PyData} {a b : PyData} {s : Str}
@[simp] theorem o_add : Is (op2 .add (.int i) (.int j)) Q ↔ Q (.sh (.int (i + j))) := is_some
@[simp] theorem o_sub : Is (op2 .sub (.int i) (.int j)) Q ↔ Q (.sh (.int (i - j))) := is_some
@[simp] theorem o_mul : Is (op2 .mul (.int i) (.int j)) Q ↔ mulOk i j = true ∧ Q (.sh (.int (i * j))) := by
  simp only [op2, is_ite]
  exact and_congr_right fun _ => is_some
@[simp] theorem o_fdiv : Is (op2 .fdiv (.int i) (.int j)) Q ↔ divOk j = true ∧ Q (.sh (.int (i / j))) := by
  simp only [op2, is_ite]
  exact and_congr_right fun _ => is_some
@[simp] theorem o_mod : Is (op2 .mod (.int i) (.int j)) Q ↔ 0 < j ∧ Q (.sh (.int (i % j))) := by
  simp only [op2, is_ite]
  exact and_congr_right fun _ => is_some
@[simp] theorem o_lt : Is (op2 .lt (.int i) (.int j)) Q ↔ Q (.sh (.bool (decide (i < j)))) := is_some
@[simp] theorem o_le : Is (op2 .le (.int i) (.int j)) Q ↔ Q (.sh (.bool (decide (i ≤ j)))) := is_some
@[simp] theorem o_gt : Is (op2 .gt (.int i) (.int j)) Q ↔ Q (.sh (.bool (decide (j < i)))) := is_some
@[simp] theorem o_ge : Is (op2 .ge (.int i) (.int j)) Q ↔ Q (.sh (.bool (decide (j ≤ i)))) := is_some
@[simp] theorem o_eqi : Is (op2 .eq (.int i) (.int j)) Q ↔ Q (.sh (.bool (decide (i = j)))) := by
  have : (i == j) = decide (i = j) := rfl
  simp only [op2, lev, Bool.and_self, if_true, bl, is_some, PyData.eqv, this]
@[simp] theorem o_nei : Is (op2 .ne (.int i) (.int j)) Q ↔ Q (.sh (.bool (!decide (i = j)))) := by
  have : (i == j) = decide (i = j) := rfl
  simp only [op2, lev, Bool.and_self, if_true, bl, is_some, PyData.eqv, this]
theorem o_eq : Is (op2 .eq a b) Q ↔ (lev 8 a && lev 8 b) = true ∧ Q (.sh (.bool (PyData.eqv a b))) := by
  simp only [op2, is_ite]
  exact and_congr_right fun _ => is_some
theorem o_ne : Is (op2 .ne a b) Q ↔ (lev 8 a && lev 8 b) = true ∧ Q (.sh (.bool !(PyData.eqv a b))) := by
  simp only [op2, is_ite]
  exact and_congr_right fun _ => is_some
@[simp] theorem o_ixl : Is (op2 .ix (.list l) (.int i)) Q ↔ Is (L2.atI l i) fun d => Q (.sh d) := is_map
@[simp] theorem o_ixt : Is (op2 .ix (.tuple l) (.int i)) Q ↔ Is (L2.atI l i) fun d => Q (.sh d) := is_map
@[simp] theorem o_addt : Is (op2 .add (.tuple l) (.tuple m)) Q ↔ l.length + m.length ≤ lim ∧ Q (.sh (.tuple (l ++ m))) := by
  simp only [op2, is_ite, is_some]
@[simp] theorem o_addl : Is (op2 .add (.list l) (.list m)) Q ↔ l.length + m.length ≤ lim ∧ Q (.ow (l ++ m)) := by
  simp only [op2, is_ite, is_some]
@[simp] theorem o_isn : Is (op2 .is a .none) Q ↔ Q (.sh (.bool (match a with | .none => true | _ => false))) := is_some
@[simp] theorem o_isntn : Is (op2 .isnt a .none) Q ↔ Q (.sh (.bool (match a with | .none => false | _ => true))) := is_some
@[simp] theorem u_neg : op1 .neg (.int i) = some (.sh (.int (-i))) := rfl
@[simp] theorem u_not : Is (op1 .not a) Q ↔ Is (truthD a) fun b => Q (.sh (.bool !b)) := is_map
@[simp] theorem u_truth : Is (op1 .truth a) Q ↔ Is (truthD a) fun b => Q (.sh (.bool b)) := is_map
@[simp] theorem u_lenl : op1 .len (.list l) = some (.sh (.int l.length)) := rfl
@[simp] theorem u_lent : op1 .len (.tuple l) = some (.sh (.int l.length)) := rfl
@[simp] theorem u_suml : Is (op1 .sum (.list l)) Q ↔ Is (intsD l) fun ns => Q (.sh (.int ns.sum)) := is_map
@[simp] theorem u_sumt : Is (op1 .sum (.tuple l)) Q ↔ Is (intsD l) fun ns => Q (.sh (.int ns.sum)) := is_map
@[simp] theorem u_abs : op1 .abs (.int i) = some (.sh (.int (if i < 0 then -i else i))) := rfl
@[simp] theorem u_tl : op1 .tuple (.list l) = some (.sh (.tuple l)) := rfl
@[simp] theorem u_tt : op1 .tuple (.tuple l) = some (.sh (.tuple l)) := rfl
@[simp] theorem u_ll : op1 .list (.list l) = some (.ow l) := rfl
@[simp] theorem u_lt : op1 .list (.tuple l) = some (.ow l) := rfl
@[simp] theorem u_min : Is (op1 .min (.list l)) Q ↔ Is (intsD l) fun ns => Is (minI ns) fun m => Q (.sh (.int m)) := by simp only [op1, is_bind, is_map]
@[simp] theorem u_max : Is (op1 .max (.list l)) Q ↔ Is (intsD l) fun ns => Is (maxI ns) fun m => Q (.sh (.int m)) := by simp only [op1, is_bind, is_map]
@[simp] theorem u_int : op1 .int (.int i) = some (.sh (.int i)) := rfl
@[simp] theorem u_all : Is (op1 .all (.list l)) Q ↔ Is (boolsD l) fun bs => Q (.sh (.bool (bs.all id))) := is_map
@[simp] theorem u_any : Is (op1 .any (.list l)) Q ↔ Is (boolsD l) fun bs => Q (.sh (.bool (bs.any id))) := is_map
@[simp] theorem u_ii : op1 .isint (.int i) = some (.sh (.bool true)) := rfl
@[simp] theorem u_bi : op1 .isbool (.int i) = some (.sh (.bool false)) := rfl
@[simp] theorem u_ti : op1 .istuple (.tuple l) = some (.sh (.bool true)) := rfl
@[simp] theorem u_si : op1 .isstr (.str s) = some (.sh (.bool true)) := rfl
@[simp] theorem b_min : bi2D .min (.int i) (.int j) = some (.sh (.int (if j < i then j else i))) := rfl
@[simp] theorem b_max : bi2D .max (.int i) (.int j) = some (.sh (.int (if j > i then j else i))) := rfl
@[simp] theorem s_l (x y : Option Int) : slice (.list l) x y = some (.ow (cutD l x y)) := rfl
@[simp] theorem s_t (x y : Option Int) : slice (.tuple l) x y = some (.sh (.tuple (cutD l x y))) := rfl
@[simp] theorem at0 : L2.atI (a :: l) 0 = some a := atI_of (by decide) rfl
@[simp] theorem at1 {a0 : PyData} : L2.atI (a0 :: a :: l) 1 = some a := atI_of (by decide) rfl
@[simp] theorem at2 {a0 a1 : PyData} : L2.atI (a0 :: a1 :: a :: l) 2 = some a := atI_of (by decide) rfl
@[simp] theorem at3 {a0 a1 a2 : PyData} : L2.atI (a0 :: a1 :: a2 :: a :: l) 3 = some a := atI_of (by decide) rfl
@[simp] theorem at4 {a0 a1 a2 a3 : PyData} : L2.atI (a0 :: a1 :: a2 :: a3 :: a :: l) 4 = some a := atI_of (by decide) rfl
@[simp] theorem at5 {a0 a1 a2 a3 a4 : PyData} : L2.atI (a0 :: a1 :: a2 :: a3 :: a4 :: a :: l) 5 = some a := atI_of (by decide) rfl
end
@[simp] theorem zo_ex {cl : Calls} {F : Nat} {s : CS} {ρ : PEnv} {N : PEnv → Prop} {R : Sl → PEnv → Prop} : Zo (ex cl F s ρ) N R ↔ Zx cl F s ρ N R := Iff.rfl
@[simp] theorem is_ev' {cl : Calls} {e : CE} {ρ : PEnv} {P : Sl × PEnv → Prop} : Is (ev cl e ρ) P ↔ Ze cl e ρ fun r ρ' => P (r, ρ') := is_ev
section
variable {ρ : PEnv} {s r : Sl} {i : Nat} {d : PyData} {l : List PyData} {z : Int}
@[simp] theorem peek_cons : peek (s :: ρ) i = (match (s :: ρ)[i]? with
  | some (.sh d) => some d
  | some (.ow l) => some (.list l)
  | some (.io l) => some (.list l)
  | some (.od m) => some (.dict m)
  | _ => none) := rfl
@[simp] theorem rdv_cons : rdv (s :: ρ) i = (match (s :: ρ)[i]? with
  | some (.sh d) => some (.sh d, s :: ρ)
  | some (.ow l) => some (.sh (.list l), (s :: ρ).set i (.sh (.list l)))
  | some (.od m) => some (.sh (.dict m), (s :: ρ).set i (.sh (.dict m)))
  | _ => none) := rfl
@[simp] theorem rmv_cons : rmv (s :: ρ) i = (match (s :: ρ)[i]? with
  | some (.sh d) => some (.sh d, s :: ρ)
  | some (.ow l) => some (.ow l, (s :: ρ).set i .un)
  | some (.od m) => some (.od m, (s :: ρ).set i .un)
  | _ => none) := rfl
@[simp] theorem free_cons : free (s :: ρ) i = (match (s :: ρ)[i]? with
  | some (.io _) => false
  | some _ => true
  | none => false) := rfl
@[simp] theorem put_cons : put (s :: ρ) i r = if free (s :: ρ) i = true then some ((s :: ρ).set i r) else none := rfl
@[simp] theorem listAt_cons : listAt (s :: ρ) i = (match (s :: ρ)[i]? with
  | some (.ow l) => some l
  | some (.io l) => some l
  | _ => none) := rfl
@[simp] theorem upd_cons {f : List PyData → Option (List PyData)} : upd (s :: ρ) i f = (match (s :: ρ)[i]? with
  | some (.ow l) => (f l).map fun l' => (s :: ρ).set i (.ow l')
  | some (.io l) => (f l).map fun l' => (s :: ρ).set i (.io l')
  | _ => none) := rfl
@[simp] theorem setAt_cons : setAt (s :: ρ) i z d = upd (s :: ρ) i fun l => (L2.ixN l.length z).map fun j => l.set j d := rfl
@[simp] theorem asgn_nm : asgn (.nm i) d ρ = put ρ i (.sh d) := by simp only [asgn]
@[simp] theorem asgn_tp {t : Tg} : asgn (.tp t) (.tuple l) ρ = asgn.asgnL t l ρ := by simp only [asgn]
@[simp] theorem asgn_ix : asgn (.ix i z) d ρ = setAt ρ i z d := by simp only [asgn]
@[simp] theorem asgnL_nil : asgn.asgnL .nil [] ρ = some ρ := by simp only [asgn.asgnL]
@[simp] theorem asgnL_cons {a b : Tg} {ds : List PyData} {Q : PEnv → Prop} : Is (asgn.asgnL (.cons a b) (d :: ds) ρ) Q ↔ Is (asgn a d ρ) fun ρ1 => Is (asgn.asgnL b ds ρ1) Q := by simp only [asgn.asgnL, is_bind]
@[simp] theorem putP_nil : putP .nil [] ρ = some ρ := rfl
@[simp] theorem putP_cons {b : Tg} {ss : List Sl} {Q : PEnv → Prop} : Is (putP (.cons (.nm i) b) (s :: ss) ρ) Q ↔ Is (put ρ i s) fun ρ1 => Is (putP b ss ρ1) Q := by simp only [putP, is_bind]
@[simp] theorem wipe_nil : wipeE ρ [] = ρ := rfl
@[simp] theorem wipe_cons {v : Nat} {vs : List Nat} : wipeE ρ (v :: vs) = (wipeE ρ vs).set v .un := rfl
@[simp] theorem back_nil {ρ' : PEnv} : backE ρ ρ' [] = ρ' := rfl
@[simp] theorem back_cons {ρ' : PEnv} {v : Nat} {vs : List Nat} : backE ρ ρ' (v :: vs) = backE ρ (ρ'.set v (ρ.getD v .un)) vs := rfl
@[simp] theorem plain_cons : plainSl (s :: ρ) i = (match (s :: ρ)[i]? with
  | some .un => true
  | some (.sh _) => true
  | _ => false) := rfl
@[simp] theorem ix0 {n : Nat} : L2.ixN (n + 1) 0 = some 0 := by simp [L2.ixN]
theorem ixN_of {n : Nat} {i : Int} (h0 : 0 ≤ i) (h1 : i < n) : L2.ixN n i = some i.toNat := by simp [L2.ixN, h0, h1]
@[simp] theorem end_t : endRun true r (.io l :: ρ) = if okR r = true then some (r, some l) else none := rfl
@[simp] theorem end_f : endRun false r ρ = if okR r = true then some (r, none) else none := rfl
@[simp] theorem ok_sh : okR (.sh d) = true := rfl
@[simp] theorem ok_ow : okR (.ow l) = true := rfl
end
/-! ### the helpers that every law has -/
def bIsInt : CS := .seq (.ret (.and (.op1v .isint 0) (.op1 .not (.op1v .isbool 0)))) .pass
def bBetw (i : Nat) : CS := .seq (.ret (.and (.call i (.cons (.v 0) .nil)) (.chain .le .le (.v 1) (.v 0) (.v 2)))) .pass
def bDraw : CS := (.seq (.ite (.and (.op2 .eq (.op2v .ix 0 (.k (.int 3))) (.k (.int 0))) (.op2 .lt (.op2v .ix 0 (.k (.int 1))) (.op1 .len (.op2v .ix 0 (.k (.int 0)))))) (.seq (.asg (.tp (.cons (.ix 0 2) (.cons (.ix 0 3) (.cons (.ix 0 1) .nil)))) (.tup (.cons (.op2 .ix (.op2v .ix 0 (.k (.int 0))) (.op2v .ix 0 (.k (.int 1)))) (.cons (.k (.int 60)) (.cons (.op2 .add (.op2v .ix 0 (.k (.int 1))) (.k (.int 1))) .nil))))) .pass) .pass)
  (.seq (.ite (.op2 .gt (.op2v .ix 0 (.k (.int 3))) (.k (.int 0))) (.seq (.asg (.nm 2) (.op2w .mod (.op1 .int (.op2v .ix 0 (.k (.int 2)))) 1))
  (.seq (.seti 0 (.k (.int 2)) (.op2w .fdiv (.op2v .ix 0 (.k (.int 2))) 1))
  (.seq (.seti 0 (.k (.int 3)) (.ite (.op2 .gt (.op2v .ix 0 (.k (.int 2))) (.k (.int 0))) (.op2 .sub (.op2v .ix 0 (.k (.int 3))) (.k (.int 1))) (.k (.int 0))))
  (.seq (.ret (.mv 2))
  .pass)))) .pass)
  (.seq (.seti 0 (.k (.int 5)) (.op2 .add (.op2v .ix 0 (.k (.int 5))) (.k (.int 1))))
  (.seq (.seti 0 (.k (.int 4)) (.op2 .mod (.op1 .int (.op2 .add (.op2 .add (.op2 .mul (.op2v .ix 0 (.k (.int 4))) (.k (.int 48271))) (.op2 .mul (.op2 .mul (.op2v .ix 0 (.k (.int 5))) (.op2v .ix 0 (.k (.int 5)))) (.k (.int 69621)))) (.k (.int 11)))) (.k (.int 2147483647))))
  (.seq (.ret (.op2w .mod (.op1 .int (.op2 .fdiv (.op2v .ix 0 (.k (.int 4))) (.k (.int 13)))) 1))
  .pass)))))
def bStart : CS := (.seq (.asg (.nm 1) (.k (.int 7)))
  (.seq (.for (.nm 2) (.slsc 0 (.k .none) (.k (.int 63))) (.seq (.asg (.nm 1) (.op2 .add (.op2 .mod (.op1 .int (.op2w .add (.op2v .mul 1 (.k (.int 48271))) 2)) (.k (.int 2147483629))) (.k (.int 1))))
  .pass))
  (.seq (.ret (.lst (.cons (.comp (.slsc 0 (.k .none) (.k (.int 63))) [2] (.nm 2) (.k (.bool true)) (.op1 .abs (.op1v .int 2))) (.cons (.k (.int 0)) (.cons (.k (.int 0)) (.cons (.k (.int 0)) (.cons (.v 1) (.cons (.k (.int 0)) .nil))))))))
  .pass)))
/-- the law's state: how many draws were made at most -/
def Good (c : Nat) (l : List PyData) : Prop := ∃ (cs : List Int) (p a b s q : Int), l = [.list (nums cs), .int p, .int a, .int b, .int s, .int q] ∧ 0 ≤ p ∧ 0 ≤ s ∧ s < 2147483648 ∧ 0 ≤ q ∧ q ≤ c ∧ cs.length ≤ 63
theorem Good.mono {c d : Nat} {l : List PyData} (h : Good c l) (le : c ≤ d) : Good d l := by
  obtain ⟨cs, p, a, b, s, q, e, h1, h2, h3, h4, h5, h6⟩ := h
  exact ⟨cs, p, a, b, s, q, e, h1, h2, h3, h4, by omega, h6⟩
section
variable {F : Nat} {Γ : List Fn} {k i j : Nat}
theorem r_isint (h : Γ[i]? = some ⟨1, 1, false, bIsInt⟩) (v : Int) : run F Γ (k + 1) i [.sh (.int v)] = some (.sh (.bool true), none) := by
  refine run_of h rfl ?_
  simp [bIsInt]
theorem r_betw (h : Γ[i]? = some ⟨1, 1, false, bIsInt⟩) (hj : Γ[j]? = some ⟨3, 3, false, bBetw i⟩) (v lo hi : Int) : run F Γ (k + 2) j [.sh (.int v), .sh (.int lo), .sh (.int hi)] = some (.sh (.bool (decide (lo ≤ v ∧ v ≤ hi))), none) := by
  refine run_of hj rfl ?_
  by_cases h1 : lo ≤ v <;> simp [bBetw, zr_some (r_isint h _), h1]
theorem draw_ok (h : Γ[i]? = some ⟨2, 3, true, bDraw⟩) {c : Nat} {l : List PyData} {m : Int} (hg : Good c l) (hc : c < 1000000) (h0 : 0 < m) (hm : m < 1000000000) : Zr (run F Γ (k + 1)) i [.io l, .sh (.int m)] fun r o => ∃ x l', r = .sh (.int x) ∧ o = some l' ∧ 0 ≤ x ∧ x < m ∧ Good (c + 1) l' := by
  obtain ⟨cs, p, a, b, s, q, rfl, h1, h2, h3, h4, h5, h6⟩ := hg
  refine zr_of h rfl ?_
  have hM : m.natAbs < 2 ^ 200 := by omega
  have hD : divOk m = true := divOk_small h0 hM
  have ge : ∀ z : Int, 0 ≤ z % m := fun z => Int.emod_nonneg _ (by omega)
  have lt : ∀ z : Int, z % m < m := fun z => Int.emod_lt_of_pos _ h0
  have fin : ∀ (p a b s q : Int), 0 ≤ p → 0 ≤ s → s < 2147483648 → 0 ≤ q → q ≤ c + 1 → Good (c + 1) [.list (nums cs), .int p, .int a, .int b, .int s, .int q] := fun p a b s q e1 e2 e3 e4 e5 => ⟨cs, p, a, b, s, q, rfl, e1, e2, e3, e4, by omega, h6⟩
  have n1 : mulOk s 48271 = true := mulOk_small (by omega) (by decide)
  have n2 : mulOk (q + 1) (q + 1) = true := mulOk_small (by omega) (by omega)
  have n3 : mulOk ((q + 1) * (q + 1)) 69621 = true := by
    have : (q + 1) * (q + 1) ≤ 1000001 * 1000001 := Int.mul_le_mul (by omega) (by omega) (by omega) (by omega)
    have : 0 ≤ (q + 1) * (q + 1) := Int.mul_nonneg (by omega) (by omega)
    exact mulOk_small (by omega) (by decide)
  have s1 : ∀ z : Int, 0 ≤ z % 2147483647 := fun z => Int.emod_nonneg _ (by omega)
  have s2 : ∀ z : Int, z % 2147483647 < 2147483648 := fun z => by
    have := Int.emod_lt_of_pos z (show (0 : Int) < 2147483647 by omega)
    omega
  have d13 : divOk 13 = true := divOk_small (by decide) (by decide)
  by_cases hb : b = 0
  · subst hb
    by_cases hp : p < cs.length
    · have hd : L2.atI (nums cs) p = some (.int cs[p.toNat]) := atI_of h1 (by
        rw [List.getElem?_map, List.getElem?_eq_getElem (by omega)]
        rfl)
      by_cases hq : 0 < cs[p.toNat] / m
      · simp [bDraw, L2.ixN, lim, is_map, hp, hd, hD, h0, ge, lt, hq]
        exact fin _ _ _ _ _ (by omega) h2 h3 h4 (by omega)
      · simp [bDraw, L2.ixN, lim, is_map, hp, hd, hD, h0, ge, lt, hq]
        exact fin _ _ _ _ _ (by omega) h2 h3 h4 (by omega)
    · simp [bDraw, L2.ixN, lim, is_map, hp, hD, h0, ge, lt, n1, n2, n3, d13]
      exact fin _ _ _ _ _ h1 (s1 _) (s2 _) (by omega) (by omega)
  · by_cases hb2 : 0 < b
    · by_cases hq : 0 < a / m
      · simp [bDraw, L2.ixN, lim, is_map, hb, hb2, hD, h0, ge, lt, hq]
        exact fin _ _ _ _ _ h1 h2 h3 h4 (by omega)
      · simp [bDraw, L2.ixN, lim, is_map, hb, hb2, hD, h0, ge, lt, hq]
        exact fin _ _ _ _ _ h1 h2 h3 h4 (by omega)
    · simp [bDraw, L2.ixN, lim, is_map, hb, hb2, hD, h0, ge, lt, n1, n2, n3, d13]
      exact fin _ _ _ _ _ h1 (s1 _) (s2 _) (by omega) (by omega)
theorem cut_ints (ns : List Int) (lo hi : Option Int) : ∃ ms, cutD (nums ns) lo hi = nums ms ∧ ms.length ≤ ns.length := by
  refine ⟨(ns.drop (HT.sIx ns.length 0 lo)).take (HT.sIx ns.length ns.length hi - HT.sIx ns.length 0 lo), ?_, ?_⟩
  · unfold cutD nums
    rw [List.length_map, ← List.map_drop, ← List.map_take]
  · simp
    omega
theorem start_ok (h : Γ[i]? = some ⟨1, 3, false, bStart⟩) (ns : List Int) (hn : ns.length ≤ 63) : Zr (run F Γ (k + 1)) i [.sc ns] fun r _ => ∃ l, r = .ow l ∧ Good 0 l := by
  refine zr_of h rfl ?_
  obtain ⟨ms, e1, e2⟩ := cut_ints ns none (some 63)
  simp [bStart, nums] at e1 ⊢
  simp [e1]
  refine zf_ind (fun n ρ => ∃ (s : Int) (x : Sl), ρ = [.sc ns, .sh (.int s), x] ∧ 0 ≤ s ∧ s < 2147483648 ∧ plainSl ρ 2 = true) ⟨7, .un, rfl, by decide, by decide, rfl⟩ (fun n d ρ hd hI => ?_) (fun ρ hI => ?_)
  · obtain ⟨s, x, rfl, h1, h2, h3⟩ := hI
    rw [List.getElem?_map] at hd
    obtain ⟨y, hy, rfl⟩ := Option.map_eq_some_iff.mp hd
    have n1 : mulOk s 48271 = true := mulOk_small (by omega) (by decide)
    have hx : free [Sl.sc ns, .sh (.int s), x] 2 = true := by
      cases x <;> simp at h3 ⊢
    have hs := Int.emod_nonneg (s * 48271 + y) (show (2147483629 : Int) ≠ 0 by decide)
    have hs2 := Int.emod_lt_of_pos (s * 48271 + y) (show (0 : Int) < 2147483629 by decide)
    simp at hx
    simp [hx, n1]
    exact ⟨by omega, by omega⟩
  · obtain ⟨s, x, rfl, h1, h2, h3⟩ := hI
    simp at h3
    simp [e1, h3]
    refine ⟨by simp [lim]; omega, zc_ind (fun n ρ acc => ρ = [.sc ns, .sh (.int s), .un] ∧ ∃ cs : List Int, acc = nums cs ∧ cs.length ≤ n) ⟨rfl, [], rfl, by simp⟩ (fun n d ρ acc hd hI => ?_) (fun ρ acc hI => ?_)⟩
    · obtain ⟨rfl, cs, rfl, hc⟩ := hI
      rw [List.getElem?_map] at hd
      obtain ⟨y, hy, rfl⟩ := Option.map_eq_some_iff.mp hd
      simp
      exact ⟨cs ++ [if y < 0 then -y else y], by simp [nums], by simp; omega⟩
    · obtain ⟨rfl, cs, rfl, hc⟩ := hI
      simp [lim]
      exact ⟨cs, 0, 0, 0, s, 0, rfl, by decide, h1, h2, by decide, by decide, by simp at hc; omega⟩
/-- a law of one part, held for T turns -/
def bLaw1 (S Hd : Nat) (T : Int) : CS := (.seq (.asg (.nm 1) (.callsc S 0))
  (.seq (.for (.nm 2) (.rng (.k (.int 0)) (.k (.int T))) (.seq (.ite (.op1 .not (.op1 .truth (.callm Hd 1 .nil))) (.seq (.ret (.k (.bool false))) .pass) .pass) .pass))
  (.seq (.ret (.k (.bool true))) .pass)))
theorem law1 {S Hd : Nat} {T : Nat} (D : Nat) (hS : Γ[S]? = some ⟨1, 3, false, bStart⟩) (hL : Γ[i]? = some ⟨1, 3, false, bLaw1 S Hd T⟩) (hT : T * D < 1000000) (hT2 : T < 1000000)
    (hold : ∀ (c : Nat) (l : List PyData), Good c l → c + D < 1000000 → Zr (run F Γ (k + 1)) Hd [.io l] fun r o => r = .sh (.bool true) ∧ ∃ l', o = some l' ∧ Good (c + D) l') (ns : List Int) (hn : ns.length ≤ 63) :
    run F Γ (k + 2) i [.sc ns] = some (.sh (.bool true), none) := by
  refine run_of hL rfl ?_
  obtain ⟨r, o, e, l, rfl, hg⟩ := start_ok (F := F) (k := k) hS ns hn
  have hrg : rgOk 0 = true ∧ rgOk T = true := by
    constructor
    · decide
    · simp [rgOk]
      omega
  simp [bLaw1, zr_some e, hrg]
  refine zf_ind (fun n ρ => n ≤ T ∧ ∃ (l : List PyData) (x : Sl), ρ = [.sc ns, .ow l, x] ∧ Good (n * D) l ∧ free ρ 2 = true) ⟨Nat.zero_le _, l, .un, rfl, hg.mono (Nat.zero_le _), rfl⟩ (fun n d ρ hd hI => ?_) (fun ρ hI => ?_)
  · obtain ⟨hnT, l, x, rfl, hg, hx⟩ := hI
    have hlt : n < T := by
      have := List.getElem?_eq_some_iff.mp hd
      obtain ⟨h1, _⟩ := this
      simpa [rngD] using h1
    have hD : n * D + D ≤ T * D := by
      have : (n + 1) * D ≤ T * D := Nat.mul_le_mul_right D hlt
      rwa [Nat.add_mul, Nat.one_mul] at this
    obtain ⟨r, o, e2, rfl, l', rfl, hg'⟩ := hold (n * D) l hg (by omega)
    simp at hx
    simp [hx, zr_some e2]
    refine ⟨hlt, ?_⟩
    rw [Nat.add_mul, Nat.one_mul]
    exact hg'
  · obtain ⟨hnT, l, x, rfl, hg, hx⟩ := hI
    simp
end
end PP
namespace PP
open PySem
/-! ### plain facts -/
theorem cut_to {xs : List PyData} {z : Int} (h : 0 ≤ z) : cutD xs none (some z) = xs.take z.toNat := by
  unfold cutD
  obtain ⟨n, rfl⟩ := Int.eq_ofNat_of_zero_le h
  rw [show HT.sIx xs.length 0 none = 0 from HT.sIx_none _ _, show HT.sIx xs.length xs.length (some (n : Int)) = min n xs.length from HT.sIx_nat _ _ _]
  simp
theorem cut_from {xs : List PyData} {z : Int} (h : 0 ≤ z) : cutD xs (some z) none = xs.drop z.toNat := by
  unfold cutD
  obtain ⟨n, rfl⟩ := Int.eq_ofNat_of_zero_le h
  rw [show HT.sIx xs.length xs.length none = xs.length from HT.sIx_none _ _, show HT.sIx xs.length 0 (some (n : Int)) = min n xs.length from HT.sIx_nat _ _ _]
  simp only [Int.toNat_natCast]
  by_cases hn : n ≤ xs.length
  · rw [Nat.min_eq_left hn, List.take_of_length_le (by simp)]
  · rw [Nat.min_eq_right (by omega), List.drop_of_length_le (Nat.le_refl _), List.drop_of_length_le (by omega)]
    simp
theorem atI_last' {α : Type} {xs : List α} {v : α} (h : xs.getLast? = some v) : L2.atI xs (-1) = some v := by
  have := List.dropLast_concat_getLast (l := xs) (by rintro rfl; simp at h)
  rw [← this]
  rw [List.getLast?_eq_getLast (by rintro rfl; simp at h)] at h
  rw [Option.some.inj h]
  exact L2.atI_last _ _
@[simp] theorem bools_true {α : Type} : ∀ l : List α, boolsD (l.map fun _ => .bool true) = some (List.replicate l.length true)
  | [] => rfl
  | x :: l => by simp [boolsD, bools_true l, List.replicate_succ]
@[simp] theorem bools_rep : ∀ n : Nat, boolsD (List.replicate n (.bool true)) = some (List.replicate n true)
  | 0 => rfl
  | n + 1 => by simp [boolsD, bools_rep n, List.replicate_succ]
theorem mem_rng {i : Int} {n k : Nat} {d : PyData} (h : (rngD i n)[k]? = some d) : k < n ∧ d = .int (i + k) := by
  unfold rngD at h
  rw [List.getElem?_map] at h
  obtain ⟨j, h1, h2⟩ := Option.map_eq_some_iff.mp h
  obtain ⟨h3, h4⟩ := List.getElem?_eq_some_iff.mp h1
  simp at h3 h4
  exact ⟨h3, by rw [← h2, ← h4]⟩
@[simp] theorem rng_len {i : Int} {n : Nat} : (rngD i n).length = n := by simp [rngD]
@[simp] theorem intsD_take (n : Nat) (xs : List Int) : intsD (List.take n (List.map PyData.int xs)) = some (xs.take n) := by
  rw [← List.map_take]
  exact intsD_nums _
@[simp] theorem intsD_drop (n : Nat) (xs : List Int) : intsD (List.drop n (List.map PyData.int xs)) = some (xs.drop n) := by
  rw [← List.map_drop]
  exact intsD_nums _
/-- a comprehension that takes one value of each item -/
theorem zc_map {g : PyData → PEnv → Option PEnv} {c e : PEnv → Option (Sl × PEnv)} {vs : List Nat} {l : List PyData} {ρ : PEnv} {Q : List PyData → PEnv → Prop} (f : PyData → PyData)
    (step : ∀ d, d ∈ l → Is (g d ρ) fun ρ1 => Is (c ρ1) fun p => Is (toD p.1) fun y => Is (truthD y) fun t => t = true ∧ Is (e p.2) fun q => Is (toD q.1) fun z => wipeE q.2 vs = ρ ∧ f d = z)
    (fin : Q (l.map f) ρ) : Zc g c e vs l ρ [] Q := by
  refine zc_pure (fun d => some (f d)) (fun d hd => ?_) (by simpa [List.filterMap_eq_map] using fin)
  obtain ⟨ρ1, e1, p, e2, y, e3, t, e4, rfl, q, e5, z, e6, e7, e8⟩ := step d hd
  exact ⟨ρ1, e1, p, e2, y, e3, true, e4, by simpa using ⟨q, e5, z, e6, e7, by rw [e8]⟩⟩
theorem maxI_of : ∀ {l : List Int} {m : Int}, m ∈ l → (∀ x ∈ l, x ≤ m) → maxI l = some m
  | [x], m, h1, h2 => by
    have : m = x := by simpa using h1
    simp [maxI, this]
  | x :: y :: r, m, h1, h2 => by
    by_cases hm : m ∈ y :: r
    · have := maxI_of hm fun z hz => h2 z (List.mem_cons_of_mem _ hz)
      simp only [maxI, this, Option.map_some]
      have hx := h2 x (List.mem_cons_self ..)
      by_cases e : x < m
      · simp [e]
      · simp [e]; omega
    · have hx : m = x := by
        rcases List.mem_cons.mp h1 with e | e
        · exact e
        · exact absurd e hm
      subst hx
      have : ∃ z, maxI (y :: r) = some z ∧ z ∈ y :: r := by
        clear h1 h2 hm
        induction r generalizing y with
        | nil => exact ⟨y, rfl, by simp⟩
        | cons w r ih =>
          obtain ⟨z, h1, h2⟩ := ih w
          simp only [maxI, h1, Option.map_some]
          split
          · exact ⟨z, rfl, List.mem_cons_of_mem _ h2⟩
          · exact ⟨y, rfl, by simp⟩
      obtain ⟨z, h3, h4⟩ := this
      have := h2 z (List.mem_cons_of_mem _ h4)
      simp only [maxI, h3, Option.map_some]
      rw [if_neg (by omega)]
theorem minI_of : ∀ {l : List Int} {m : Int}, m ∈ l → (∀ x ∈ l, m ≤ x) → minI l = some m
  | [x], m, h1, h2 => by
    have : m = x := by simpa using h1
    simp [minI, this]
  | x :: y :: r, m, h1, h2 => by
    by_cases hm : m ∈ y :: r
    · have := minI_of hm fun z hz => h2 z (List.mem_cons_of_mem _ hz)
      simp only [minI, this, Option.map_some]
      have hx := h2 x (List.mem_cons_self ..)
      by_cases e : m < x
      · simp [e]
      · simp [e]; omega
    · have hx : m = x := by
        rcases List.mem_cons.mp h1 with e | e
        · exact e
        · exact absurd e hm
      subst hx
      have : ∃ z, minI (y :: r) = some z ∧ z ∈ y :: r := by
        clear h1 h2 hm
        induction r generalizing y with
        | nil => exact ⟨y, rfl, by simp⟩
        | cons w r ih =>
          obtain ⟨z, h1, h2⟩ := ih w
          simp only [minI, h1, Option.map_some]
          split
          · exact ⟨z, rfl, List.mem_cons_of_mem _ h2⟩
          · exact ⟨y, rfl, by simp⟩
      obtain ⟨z, h3, h4⟩ := this
      have := h2 z (List.mem_cons_of_mem _ h4)
      simp only [minI, h3, Option.map_some]
      rw [if_neg (by omega)]
theorem sort2 (x y : Int) : op1 .sorted (.list [.int x, .int y]) = some (.ow (if x ≤ y then [.int x, .int y] else [.int y, .int x])) := by
  have h : sortOk [.int x, .int y] = true := by
    simp [sortOk, allike, PySem.W.alike, notTup, lev, lim]
  have e : sortD [.int x, .int y] = if x ≤ y then [.int x, .int y] else [.int y, .int x] := by
    unfold sortD
    rw [PySem.W.dataLe_eq]
    simp [List.mergeSort, List.merge, PySem.W.dataLt_int, List.MergeSort.Internal.splitInTwo]
  simp only [op1, h, if_true, e]
theorem filt_range (a b n : Nat) : (List.range n).filter (fun x => decide (a ≤ x) && decide (x < b)) = List.range' a (min b n - a) := by
  induction n with
  | zero => simp
  | succ n ih =>
    rw [List.range_succ, List.filter_append, ih]
    by_cases h1 : a ≤ n <;> by_cases h2 : n < b
    · have e1 : min b n - a = n - a := by omega
      have e2 : min b (n + 1) - a = n - a + 1 := by omega
      have e3 : a + (n - a) = n := by omega
      simp [h1, h2, e1, e2, List.range'_concat, e3]
    · have e1 : min b n - a = min b (n + 1) - a := by omega
      simp [h1, h2, e1]
    · have e1 : min b n - a = 0 := by omega
      have e2 : min b (n + 1) - a = 0 := by omega
      simp [h1, h2, e1, e2]
    · have e1 : min b n - a = 0 := by omega
      have e2 : min b (n + 1) - a = 0 := by omega
      simp [h1, h2, e1, e2]
theorem zr_mono {cl : Calls} {f : Nat} {as : List Sl} {Q Q' : Sl → Option (List PyData) → Prop} (h : Zr cl f as Q) (m : ∀ r o, Q r o → Q' r o) : Zr cl f as Q' := by
  obtain ⟨r, o, e, q⟩ := h
  exact ⟨r, o, e, m r o q⟩
theorem x_cut {cl : Calls} {F : Nat} {a b : CS} {ρ : PEnv} {N : PEnv → Prop} {R : Sl → PEnv → Prop} (M : PEnv → Prop) (h1 : Zx cl F a ρ M R) (h2 : ∀ ρ1, M ρ1 → Zx cl F b ρ1 N R) : Zx cl F (.seq a b) ρ N R := by
  rw [x_seq]
  obtain ⟨x, e, q⟩ := h1
  refine ⟨x, e, ?_⟩
  cases x with
  | nx ρ => exact h2 ρ q
  | rt r ρ => exact q
theorem filterMap_if {α β : Type} (p : α → Bool) (v : α → β) : ∀ l : List α, l.filterMap (fun j => if p j = true then some (v j) else none) = (l.filter p).map v
  | [] => rfl
  | x :: l => by
    by_cases h : p x = true <;> simp [List.filterMap_cons, h, filterMap_if p v l]
theorem div_eq_iff {x b A : Int} (hb : 0 < b) : x / b = A ↔ A * b ≤ x ∧ x < A * b + b := by
  have h1 := Int.le_ediv_iff_mul_le (a := A) (b := x) hb
  have h2 := Int.ediv_lt_iff_lt_mul (a := x) (b := A + 1) hb
  rw [Int.add_mul, Int.one_mul] at h2
  omega
end PP
namespace PP
open PySem
section
variable {cl : Calls} {F : Nat} {ρ : PEnv} {Q : Sl → PEnv → Prop} {N : PEnv → Prop} {R : Sl → PEnv → Prop}
@[simp] theorem z_enum {a : CE} : Ze cl (.enum a) ρ Q ↔ Ze cl a ρ fun r ρ1 => Is (toD r) fun d => Is (seqD d) fun l => Q (.ow (enumD l)) ρ1 := by
  simp only [Ze, ev, bind, Option.bind_eq_some_iff, Is, Prod.exists, Option.some.injEq, Prod.mk.injEq]
  constructor
  · rintro ⟨_, _, ⟨r, ρ1, h1, d, h2, l, h3, rfl, rfl⟩, q⟩
    exact ⟨r, _, h1, d, h2, l, h3, q⟩
  · rintro ⟨r, ρ1, h1, d, h2, l, h3, q⟩
    exact ⟨_, ρ1, ⟨r, ρ1, h1, d, h2, l, h3, rfl, rfl⟩, q⟩
@[simp] theorem z_zip {a b : CE} : Ze cl (.zip a b) ρ Q ↔ Ze cl a ρ fun r ρ1 => Is (toD r) fun d => Ze cl b ρ1 fun r2 ρ2 => Is (toD r2) fun d2 => Is (zip2 d d2) fun l => Q (.ow l) ρ2 := by
  simp only [Ze, ev, bind, Option.bind_eq_some_iff, Is, Prod.exists, Option.some.injEq, Prod.mk.injEq]
  constructor
  · rintro ⟨_, _, ⟨r, ρ1, h1, d, h2, r2, ρ2, h4, d2, h5, l, h3, rfl, rfl⟩, q⟩
    exact ⟨r, _, h1, d, h2, r2, _, h4, d2, h5, l, h3, q⟩
  · rintro ⟨r, ρ1, h1, d, h2, r2, ρ2, h4, d2, h5, l, h3, q⟩
    exact ⟨_, _, ⟨r, ρ1, h1, d, h2, r2, ρ2, h4, d2, h5, l, h3, rfl, rfl⟩, q⟩
@[simp] theorem seqD_l (l : List PyData) : seqD (.list l) = some l := rfl
@[simp] theorem seqD_t (l : List PyData) : seqD (.tuple l) = some l := rfl
@[simp] theorem zip2_l (l m : List PyData) : zip2 (.list l) (.list m) = some (zipD l m) := rfl
@[simp] theorem zip2_t (l m : List PyData) : zip2 (.tuple l) (.tuple m) = some (zipD l m) := rfl
def oldD : PyData → PyData → Option PyData
  | .list l, .int z => L2.atI l z
  | _, _ => none
def augD (o : O2) : PyData → PyData → PyData → Option (Int × PyData)
  | .int z, .int p, .int q => ((op2 o (.int p) (.int q)).bind toD).map fun n => (z, n)
  | _, _, _ => none
@[simp] theorem x_augi {i : Nat} {o : O2} {x e : CE} : Zx cl F (.augi i o x e) ρ N R ↔ Is (peek ρ i) fun _ => Ze cl x ρ fun r2 ρ1 => Is (toD r2) fun y => Is (peek ρ1 i) fun l0 => Is (oldD l0 y) fun old => Ze cl e ρ1 fun r ρ2 => Is (toD r) fun d => Is (augD o y old d) fun zn => Is (setAt ρ2 i zn.1 zn.2) N := by
  unfold Zx
  simp only [ex, bind, zo_bind, is_ev]
  constructor
  · rintro ⟨d0, h0, r2, ρ1, h1, y, h2, l0, h3, old, h4, r, ρ2, h5, d, h6, q⟩
    refine ⟨d0, h0, r2, ρ1, h1, y, h2, l0, h3, old, ?_, r, ρ2, h5, d, h6, ?_⟩
    · rw [← h4]
      cases l0 <;> cases y <;> rfl
    · cases y <;> cases old <;> cases d <;> simp only [zo_no, zo_bind, zo_map] at q
      obtain ⟨n, e1, q⟩ := q
      exact ⟨(_, n), by simp only [augD, e1]; rfl, q⟩
  · rintro ⟨d0, h0, r2, ρ1, h1, y, h2, l0, h3, old, h4, r, ρ2, h5, d, h6, zn, h7, q⟩
    refine ⟨d0, h0, r2, ρ1, h1, y, h2, l0, h3, old, ?_, r, ρ2, h5, d, h6, ?_⟩
    · rw [← h4]
      cases l0 <;> cases y <;> rfl
    · cases y <;> cases old <;> cases d <;> simp only [augD, reduceCtorEq, Option.map_eq_some_iff] at h7
      obtain ⟨n, e1, rfl⟩ := h7
      simp only [zo_bind, zo_map]
      exact ⟨n, e1, q⟩
@[simp] theorem oldD_l (l : List PyData) (z : Int) : oldD (.list l) (.int z) = L2.atI l z := rfl
@[simp] theorem augD_add (z p q : Int) : augD .add (.int z) (.int p) (.int q) = some (z, .int (p + q)) := rfl
@[simp] theorem augD_sub (z p q : Int) : augD .sub (.int z) (.int p) (.int q) = some (z, .int (p - q)) := rfl
end
/-! ### enumerate, zip as lists -/
theorem enum_get {l : List PyData} {i : Nat} {d : PyData} (h : (enumD l)[i]? = some d) : i < l.length ∧ ∃ e, l[i]? = some e ∧ d = .tuple [.int (i : Int), e] := by
  unfold enumD at h
  rw [List.getElem?_zipWith] at h
  cases h1 : (List.range l.length)[i]? with
  | none => simp [h1] at h
  | some j =>
    cases h2 : l[i]? with
    | none => simp [h1, h2] at h
    | some z =>
      simp only [h1, h2, Option.some.injEq] at h
      obtain ⟨h3, h4⟩ := List.getElem?_eq_some_iff.mp h1
      simp at h3 h4
      subst h4
      exact ⟨h3, z, rfl, h.symm⟩
@[simp] theorem enumD_len (l : List PyData) : (enumD l).length = l.length := by simp [enumD]
@[simp] theorem zipD_len (l m : List PyData) : (zipD l m).length = min l.length m.length := by simp [zipD]
theorem zip_get {l m : List PyData} {i : Nat} {d : PyData} (h : (zipD l m)[i]? = some d) : ∃ a b, l[i]? = some a ∧ m[i]? = some b ∧ d = .tuple [a, b] := by
  unfold zipD at h
  rw [List.getElem?_zipWith] at h
  cases h1 : l[i]? with
  | none => simp [h1] at h
  | some y =>
    cases h2 : m[i]? with
    | none => simp [h1, h2] at h
    | some z =>
      simp only [h1, h2, Option.some.injEq] at h
      exact ⟨y, z, rfl, rfl, h.symm⟩
theorem atI_nums {xs : List Int} {i : Nat} {x : Int} (h : xs[i]? = some x) : L2.atI (nums xs) (i : Int) = some (.int x) := L2.atI_nat (by rw [List.getElem?_map, h]; rfl)
@[simp] theorem ixN_nat {n i : Nat} (h : i < n) : L2.ixN n (i : Int) = some i := by
  simp [L2.ixN]
  omega
theorem pick_ok {F : Nat} {Γ : List Fn} {k i j : Nat} (h : Γ[i]? = some ⟨2, 3, true, bDraw⟩) (hp : Γ[j]? = some ⟨2, 2, true, .seq (.ret (.op2v .ix 1 (.callm i 0 (.cons (.op1v .len 1) .nil)))) .pass⟩) {c : Nat} {l : List PyData} {m : List PyData} (hg : Good c l) (hc : c < 1000000) (h0 : 0 < m.length) (hm : m.length < 1000000) :
    Zr (run F Γ (k + 2)) j [.io l, .sh (.list m)] fun r o => ∃ x l', x ∈ m ∧ r = .sh x ∧ o = some l' ∧ Good (c + 1) l' := by
  refine zr_of hp rfl ?_
  simp
  refine zr_mono (draw_ok (F := F) (k := k) h hg hc (m := (m.length : Int)) (by omega) (by omega)) ?_
  rintro _ _ ⟨x, l', rfl, rfl, a1, a2, hg'⟩
  have hx : L2.atI m x = some m[x.toNat] := atI_of a1 (List.getElem?_eq_getElem (by omega))
  simp [hx]
  exact ⟨_, List.getElem_mem _, rfl, hg'⟩
theorem zc_mono {g : PyData → PEnv → Option PEnv} {c e : PEnv → Option (Sl × PEnv)} {vs : List Nat} {l : List PyData} {ρ : PEnv} {acc : List PyData} {Q Q' : List PyData → PEnv → Prop} (h : Zc g c e vs l ρ acc Q) (m : ∀ a ρ, Q a ρ → Q' a ρ) : Zc g c e vs l ρ acc Q' := by
  obtain ⟨a, ρ', e, q⟩ := h
  exact ⟨a, ρ', e, m _ _ q⟩
end PP
namespace Gk39
open PySem L2 PP PySem.Spec PyProof.Rows
def topS (i : Nat) : Stmt := PySem.Challenge.pw_raingauged_k39_levels_seen_hour_by_hour.main.body.getD i (.Pass ⟨0, 0, 0, 0⟩)
def cons : List (Str × PyData) := [("MAX_SIZE", (.int 1000000000000)), ("MAX_HOURS", (.int 40)), ("MAX_PART", (.int 1000)), ("MAX_PONDS", (.int 10))]
def i_is_integer : FI := ⟨0, 1, [], false, false⟩
def i_is_between : FI := ⟨1, 3, [], false, false⟩
def i_check_ponds : FI := ⟨2, 1, [], false, false⟩
def i_are_levels : FI := ⟨3, 2, [], false, false⟩
def i_check_begin : FI := ⟨4, 2, [], false, false⟩
def i_check_rains : FI := ⟨5, 1, [], false, false⟩
def i_check_pond : FI := ⟨6, 2, [], false, false⟩
def i_hour_of : FI := ⟨7, 3, [], false, false⟩
def i_hours_of : FI := ⟨8, 3, [], false, false⟩
def i_levels_of : FI := ⟨9, 3, [], false, false⟩
def i_spilled_from : FI := ⟨10, 3, [], false, false⟩
def i_first_spill : FI := ⟨11, 4, [], false, false⟩
def i_judge_seen : FI := ⟨12, 4, [], false, false⟩
def i__law_start : FI := ⟨13, 1, [], false, true⟩
def i__law_draw : FI := ⟨14, 2, [], true, false⟩
def i__law_pick : FI := ⟨15, 2, [], true, false⟩
def i__law_ponds_hold : FI := ⟨16, 1, [], true, false⟩
def i_law : FI := ⟨17, 1, [], false, true⟩
def fns : List (Str × FI) := [("is_integer", i_is_integer), ("is_between", i_is_between), ("check_ponds", i_check_ponds), ("are_levels", i_are_levels), ("check_begin", i_check_begin), ("check_rains", i_check_rains), ("check_pond", i_check_pond), ("hour_of", i_hour_of), ("hours_of", i_hours_of), ("levels_of", i_levels_of), ("spilled_from", i_spilled_from), ("first_spill", i_first_spill), ("judge_seen", i_judge_seen), ("_law_start", i__law_start), ("_law_draw", i__law_draw), ("_law_pick", i__law_pick), ("_law_ponds_hold", i__law_ponds_hold), ("law", i_law)]
abbrev s_is_integer : Stmt := topS 9
def n_is_integer : List Str := ["value"]
abbrev s_is_between : Stmt := topS 10
def n_is_between : List Str := ["value", "low", "high"]
abbrev s_check_ponds : Stmt := topS 12
def n_check_ponds : List Str := ["ponds", "number", "own"]
abbrev s_are_levels : Stmt := topS 13
def n_are_levels : List Str := ["ponds", "value", "own", "pond"]
abbrev s_check_begin : Stmt := topS 14
def n_check_begin : List Str := ["ponds", "begin"]
abbrev s_check_rains : Stmt := topS 15
def n_check_rains : List Str := ["rains", "own"]
abbrev s_check_pond : Stmt := topS 16
def n_check_pond : List Str := ["ponds", "pond"]
abbrev s_hour_of : Stmt := topS 17
def n_hour_of : List Str := ["ponds", "levels", "rain", "come", "spills", "at", "area", "room", "below", "own"]
abbrev s_hours_of : Stmt := topS 18
def n_hours_of : List Str := ["ponds", "begin", "rains", "rain", "found", "levels", "spills"]
abbrev s_levels_of : Stmt := topS 19
def n_levels_of : List Str := ["ponds", "begin", "rains", "own"]
abbrev s_spilled_from : Stmt := topS 20
def n_spilled_from : List Str := ["ponds", "begin", "rains", "rows", "own", "at", "row"]
abbrev s_first_spill : Stmt := topS 21
def n_first_spill : List Str := ["ponds", "begin", "rains", "pond", "hour", "own"]
abbrev s_judge_seen : Stmt := topS 22
def n_judge_seen : List Str := ["ponds", "begin", "rains", "seen", "row", "hour", "levels", "spills", "pond", "own"]
abbrev s__law_start : Stmt := topS 24
def n__law_start : List Str := ["script", "seed", "cell"]
abbrev s__law_draw : Stmt := topS 25
def n__law_draw : List Str := ["state", "many", "found"]
abbrev s__law_pick : Stmt := topS 26
def n__law_pick : List Str := ["state", "some"]
abbrev s__law_ponds_hold : Stmt := topS 27
def n__law_ponds_hold : List Str := ["state", "k", "begin", "levels", "hour", "many", "rows", "below", "ponds", "rains", "spilled", "over", "seen", "wrong", "row", "more", "told", "own"]
abbrev s_law : Stmt := topS 28
def n_law : List Str := ["script", "state", "turn"]
def b_is_integer : CS := (.seq (.ret (.and (.op1v .isint 0) (.op1 .not (.op1v .isbool 0))))
  .pass)
def b_is_between : CS := (.seq (.ret (.and (.call 0 (.cons (.v 0) .nil)) (.chain .le .le (.v 1) (.v 0) (.v 2))))
  .pass)
def b_check_ponds : CS := (.seq (.ite (.or (.op1 .not (.op1 .truth (.op1v .istuple 0))) (.op1 .not (.chain .le .le (.k (.int 1)) (.op1v .len 0) (.k (.int 10))))) (.seq .fail
  .pass) .pass)
  (.seq (.for (.tp (.cons (.nm 1) (.cons (.nm 2) .nil))) (.enum (.v 0)) (.seq (.ite (.or (.op1 .not (.op1 .truth (.op1v .istuple 2))) (.or (.op2 .ne (.op1v .len 2) (.k (.int 3))) (.op1 .not (.op1 .truth (.call 1 (.cons (.op2v .ix 2 (.k (.int 0))) (.cons (.k (.int 0)) (.cons (.k (.int 1000)) .nil)))))))) (.seq .fail
  .pass) .pass)
  (.seq (.ite (.op1 .not (.op1 .truth (.call 1 (.cons (.op2v .ix 2 (.k (.int 1))) (.cons (.k (.int 1)) (.cons (.k (.int 1000000000000)) .nil)))))) (.seq .fail
  .pass) .pass)
  (.seq (.ite (.and (.op2 .isnt (.op2v .ix 2 (.k (.int 2))) (.k .none)) (.op1 .not (.op1 .truth (.call 1 (.cons (.op2v .ix 2 (.k (.int 2))) (.cons (.op2v .add 1 (.k (.int 1))) (.cons (.op2 .sub (.op1v .len 0) (.k (.int 1))) .nil))))))) (.seq .fail
  .pass) .pass)
  .pass))))
  .pass))
def b_are_levels : CS := (.seq (.ite (.or (.op1 .not (.op1 .truth (.op1v .istuple 1))) (.op2 .ne (.op1v .len 1) (.op1v .len 0))) (.seq (.ret (.k (.bool false)))
  .pass) .pass)
  (.seq (.ret (.op1 .all (.comp (.zip (.v 1) (.v 0)) [2, 3] (.tp (.cons (.nm 2) (.cons (.nm 3) .nil))) (.k (.bool true)) (.call 1 (.cons (.v 2) (.cons (.k (.int 0)) (.cons (.op2v .ix 3 (.k (.int 1))) .nil)))))))
  .pass))
def b_check_begin : CS := (.seq (.ite (.op1 .not (.op1 .truth (.call 3 (.cons (.v 0) (.cons (.v 1) .nil))))) (.seq .fail
  .pass) .pass)
  .pass)
def b_check_rains : CS := (.seq (.ite (.or (.op1 .not (.op1 .truth (.op1v .istuple 0))) (.op2 .gt (.op1v .len 0) (.k (.int 40)))) (.seq .fail
  .pass) .pass)
  (.seq (.ite (.op1 .not (.op1 .truth (.op1 .all (.comp (.v 0) [1] (.nm 1) (.k (.bool true)) (.call 1 (.cons (.v 1) (.cons (.k (.int 0)) (.cons (.k (.int 1000000000000)) .nil)))))))) (.seq .fail
  .pass) .pass)
  .pass))
def b_check_pond : CS := (.seq (.ite (.op1 .not (.op1 .truth (.call 1 (.cons (.v 1) (.cons (.k (.int 0)) (.cons (.op2 .sub (.op1v .len 0) (.k (.int 1))) .nil)))))) (.seq .fail
  .pass) .pass)
  .pass)
def b_hour_of : CS := (.seq (.asg (.nm 3) (.comp (.enum (.v 0)) [5, 9] (.tp (.cons (.nm 5) (.cons (.nm 9) .nil))) (.k (.bool true)) (.op2 .add (.op2x .ix 1 5) (.op2v .mul 2 (.op2v .ix 9 (.k (.int 0)))))))
  (.seq (.asg (.nm 4) (.lst .nil))
  (.seq (.for (.tp (.cons (.nm 5) (.cons (.tp (.cons (.nm 6) (.cons (.nm 7) (.cons (.nm 8) .nil)))) .nil))) (.enum (.v 0)) (.seq (.app 4 (.bi2 .max (.k (.int 0)) (.op2w .sub (.op2x .ix 3 5) 7)))
  (.seq (.augi 3 .sub (.v 5) (.op2x .ix 4 5))
  (.seq (.ite (.op2v .isnt 8 (.k .none)) (.seq (.augi 3 .add (.v 8) (.op2x .ix 4 5))
  .pass) .pass)
  .pass))))
  (.seq (.ret (.tup (.cons (.v 3) (.cons (.v 4) .nil))))
  .pass))))
def b_hours_of : CS := (.seq (.par (.cons (.nm 4) (.cons (.nm 5) .nil)) (.cons (.lst .nil) (.cons (.op1v .list 1) .nil)))
  (.seq (.for (.nm 3) (.v 2) (.seq (.asg (.tp (.cons (.nm 5) (.cons (.nm 6) .nil))) (.call 7 (.cons (.v 0) (.cons (.v 5) (.cons (.v 3) .nil)))))
  (.seq (.app 4 (.tup (.cons (.op1v .tuple 5) (.cons (.op1v .tuple 6) .nil))))
  .pass)))
  (.seq (.ret (.mv 4))
  .pass)))
def b_levels_of : CS := (.seq (.drop (.call 2 (.cons (.v 0) .nil)))
  (.seq (.drop (.call 4 (.cons (.v 0) (.cons (.v 1) .nil))))
  (.seq (.drop (.call 5 (.cons (.v 2) .nil)))
  (.seq (.ret (.op1 .tuple (.comp (.call 8 (.cons (.v 0) (.cons (.v 1) (.cons (.v 2) .nil)))) [3] (.nm 3) (.k (.bool true)) (.op2v .ix 3 (.k (.int 0))))))
  .pass))))
def b_spilled_from : CS := (.seq (.drop (.call 2 (.cons (.v 0) .nil)))
  (.seq (.drop (.call 4 (.cons (.v 0) (.cons (.v 1) .nil))))
  (.seq (.drop (.call 5 (.cons (.v 2) .nil)))
  (.seq (.asg (.nm 3) (.comp (.call 8 (.cons (.v 0) (.cons (.v 1) (.cons (.v 2) .nil)))) [4] (.nm 4) (.k (.bool true)) (.op2v .ix 4 (.k (.int 1)))))
  (.seq (.ret (.op1 .tuple (.comp (.rng (.k (.int 0)) (.op1v .len 0)) [5] (.nm 5) (.k (.bool true)) (.op1 .sum (.comp (.v 3) [6] (.nm 6) (.k (.bool true)) (.op2x .ix 6 5))))))
  .pass)))))
def b_first_spill : CS := (.seq (.drop (.call 2 (.cons (.v 0) .nil)))
  (.seq (.drop (.call 4 (.cons (.v 0) (.cons (.v 1) .nil))))
  (.seq (.drop (.call 5 (.cons (.v 2) .nil)))
  (.seq (.drop (.call 6 (.cons (.v 0) (.cons (.v 3) .nil))))
  (.seq (.for (.tp (.cons (.nm 4) (.cons (.nm 5) .nil))) (.enum (.call 8 (.cons (.v 0) (.cons (.v 1) (.cons (.v 2) .nil))))) (.seq (.ite (.op2 .gt (.op2w .ix (.op2v .ix 5 (.k (.int 1))) 3) (.k (.int 0))) (.seq (.ret (.mv 4))
  .pass) .pass)
  .pass))
  (.seq (.ret (.k .none))
  .pass))))))
def b_judge_seen : CS := (.seq (.drop (.call 2 (.cons (.v 0) .nil)))
  (.seq (.drop (.call 4 (.cons (.v 0) (.cons (.v 1) .nil))))
  (.seq (.drop (.call 5 (.cons (.v 2) .nil)))
  (.seq (.ite (.or (.op1 .not (.op1 .truth (.op1v .istuple 3))) (.op2 .ne (.op1v .len 3) (.op1v .len 2))) (.seq .fail
  .pass) .pass)
  (.seq (.for (.nm 4) (.v 3) (.seq (.ite (.or (.op1 .not (.op1 .truth (.op1v .istuple 4))) (.op2 .ne (.op1v .len 4) (.op1v .len 0))) (.seq .fail
  .pass) .pass)
  (.seq (.ite (.op1 .not (.op1 .truth (.op1 .all (.comp (.v 4) [9] (.nm 9) (.k (.bool true)) (.or (.op2v .is 9 (.k .none)) (.call 1 (.cons (.v 9) (.cons (.k (.int 0)) (.cons (.k (.int 1000000000000)) .nil))))))))) (.seq .fail
  .pass) .pass)
  .pass)))
  (.seq (.for (.tp (.cons (.nm 5) (.cons (.tp (.cons (.nm 6) (.cons (.nm 7) .nil))) .nil))) (.enum (.call 8 (.cons (.v 0) (.cons (.v 1) (.cons (.v 2) .nil))))) (.seq (.for (.tp (.cons (.nm 8) (.cons (.nm 9) .nil))) (.enum (.op2x .ix 3 5)) (.seq (.ite (.and (.op2v .isnt 9 (.k .none)) (.op2v .ne 9 (.op2x .ix 6 8))) (.seq (.ret (.tup (.cons (.k (.str "wrong")) (.cons (.v 5) (.cons (.v 8) (.cons (.op2x .ix 6 8) .nil))))))
  .pass) .pass)
  .pass))
  .pass))
  (.seq (.ret (.tup (.cons (.k (.str "agree")) .nil)))
  .pass)))))))
def b__law_start : CS := (.seq (.asg (.nm 1) (.k (.int 7)))
  (.seq (.for (.nm 2) (.slsc 0 (.k .none) (.k (.int 63))) (.seq (.asg (.nm 1) (.op2 .add (.op2 .mod (.op1 .int (.op2w .add (.op2v .mul 1 (.k (.int 48271))) 2)) (.k (.int 2147483629))) (.k (.int 1))))
  .pass))
  (.seq (.ret (.lst (.cons (.comp (.slsc 0 (.k .none) (.k (.int 63))) [2] (.nm 2) (.k (.bool true)) (.op1 .abs (.op1v .int 2))) (.cons (.k (.int 0)) (.cons (.k (.int 0)) (.cons (.k (.int 0)) (.cons (.v 1) (.cons (.k (.int 0)) .nil))))))))
  .pass)))
def b__law_draw : CS := (.seq (.ite (.and (.op2 .eq (.op2v .ix 0 (.k (.int 3))) (.k (.int 0))) (.op2 .lt (.op2v .ix 0 (.k (.int 1))) (.op1 .len (.op2v .ix 0 (.k (.int 0)))))) (.seq (.asg (.tp (.cons (.ix 0 2) (.cons (.ix 0 3) (.cons (.ix 0 1) .nil)))) (.tup (.cons (.op2 .ix (.op2v .ix 0 (.k (.int 0))) (.op2v .ix 0 (.k (.int 1)))) (.cons (.k (.int 60)) (.cons (.op2 .add (.op2v .ix 0 (.k (.int 1))) (.k (.int 1))) .nil)))))
  .pass) .pass)
  (.seq (.ite (.op2 .gt (.op2v .ix 0 (.k (.int 3))) (.k (.int 0))) (.seq (.asg (.nm 2) (.op2w .mod (.op1 .int (.op2v .ix 0 (.k (.int 2)))) 1))
  (.seq (.seti 0 (.k (.int 2)) (.op2w .fdiv (.op2v .ix 0 (.k (.int 2))) 1))
  (.seq (.seti 0 (.k (.int 3)) (.ite (.op2 .gt (.op2v .ix 0 (.k (.int 2))) (.k (.int 0))) (.op2 .sub (.op2v .ix 0 (.k (.int 3))) (.k (.int 1))) (.k (.int 0))))
  (.seq (.ret (.mv 2))
  .pass)))) .pass)
  (.seq (.seti 0 (.k (.int 5)) (.op2 .add (.op2v .ix 0 (.k (.int 5))) (.k (.int 1))))
  (.seq (.seti 0 (.k (.int 4)) (.op2 .mod (.op1 .int (.op2 .add (.op2 .add (.op2 .mul (.op2v .ix 0 (.k (.int 4))) (.k (.int 48271))) (.op2 .mul (.op2 .mul (.op2v .ix 0 (.k (.int 5))) (.op2v .ix 0 (.k (.int 5)))) (.k (.int 69621)))) (.k (.int 11)))) (.k (.int 2147483647))))
  (.seq (.ret (.op2w .mod (.op1 .int (.op2 .fdiv (.op2v .ix 0 (.k (.int 4))) (.k (.int 13)))) 1))
  .pass)))))
def b__law_pick : CS := (.seq (.ret (.op2v .ix 1 (.callm 14 0 (.cons (.op1v .len 1) .nil))))
  .pass)
def b__law_ponds_hold : CS := (.seq (.par (.cons (.nm 5) (.cons (.nm 6) .nil)) (.cons (.op2 .add (.k (.int 1)) (.callm 14 0 (.cons (.k (.int 4)) .nil))) (.cons (.lst .nil) .nil)))
  (.seq (.for (.nm 1) (.rng (.k (.int 0)) (.v 5)) (.seq (.asg (.nm 7) (.callm 15 0 (.cons (.op2 .add (.lst (.cons (.k .none) .nil)) (.op2 .add (.rng (.op2v .add 1 (.k (.int 1))) (.v 5)) (.lst .nil))) .nil)))
  (.seq (.app 6 (.tup (.cons (.callm 14 0 (.cons (.k (.int 5)) .nil)) (.cons (.op2 .add (.k (.int 1)) (.callm 14 0 (.cons (.k (.int 12)) .nil))) (.cons (.v 7) .nil)))))
  .pass)))
  (.seq (.asg (.tp (.cons (.nm 8) (.cons (.nm 9) .nil))) (.tup (.cons (.op1v .tuple 6) (.cons (.op1 .tuple (.comp (.rng (.k (.int 0)) (.callm 14 0 (.cons (.k (.int 6)) .nil))) [1] (.nm 1) (.k (.bool true)) (.callm 14 0 (.cons (.k (.int 6)) .nil)))) .nil))))
  (.seq (.asg (.nm 2) (.op1 .tuple (.comp (.v 8) [17] (.nm 17) (.k (.bool true)) (.callm 14 0 (.cons (.op2 .add (.op2v .ix 17 (.k (.int 1))) (.k (.int 1))) .nil)))))
  (.seq (.asg (.nm 3) (.call 9 (.cons (.v 8) (.cons (.v 2) (.cons (.v 9) .nil)))))
  (.seq (.for (.nm 1) (.rng (.k (.int 0)) (.v 5)) (.seq (.asg (.nm 10) (.op2 .add (.lst (.cons (.k (.int 0)) .nil)) (.comp (.rng (.k (.int 0)) (.op1v .len 9)) [4] (.nm 4) (.k (.bool true)) (.op2w .ix (.call 10 (.cons (.v 8) (.cons (.v 2) (.cons (.slv 9 (.k .none) (.op2v .add 4 (.k (.int 1)))) .nil)))) 1))))
  (.seq (.asg (.nm 11) (.comp (.rng (.k (.int 0)) (.op1v .len 9)) [4] (.nm 4) (.op2 .gt (.op2v .ix 10 (.op2v .add 4 (.k (.int 1)))) (.op2x .ix 10 4)) (.v 4)))
  (.seq (.ite (.op2 .ne (.call 11 (.cons (.v 8) (.cons (.v 2) (.cons (.v 9) (.cons (.v 1) .nil))))) (.ite (.op1v .truth 11) (.op2v .ix 11 (.k (.int 0))) (.k .none))) (.seq (.ret (.k (.bool false)))
  .pass) .pass)
  .pass))))
  (.seq (.par (.cons (.nm 12) (.cons (.nm 13) .nil)) (.cons (.lst .nil) (.cons (.k .none) .nil)))
  (.seq (.for (.nm 4) (.rng (.k (.int 0)) (.op1v .len 9)) (.seq (.asg (.nm 14) (.lst .nil))
  (.seq (.for (.nm 1) (.rng (.k (.int 0)) (.v 5)) (.seq (.asg (.nm 15) (.callm 15 0 (.cons (.lst (.cons (.k (.int 0)) (.cons (.k (.int 0)) (.cons (.k (.int 0)) (.cons (.k (.int 0)) (.cons (.k (.int 1)) .nil)))))) .nil)))
  (.seq (.asg (.nm 16) (.ite (.op2 .eq (.callm 14 0 (.cons (.k (.int 3)) .nil)) (.k (.int 0))) (.k .none) (.op2w .add (.op2w .ix (.op2x .ix 3 4) 1) 15)))
  (.seq (.app 14 (.v 16))
  (.seq (.asg (.nm 13) (.ite (.and (.op2v .isnt 16 (.k .none)) (.and (.op1v .truth 15) (.op2v .is 13 (.k .none)))) (.tup (.cons (.k (.str "wrong")) (.cons (.v 4) (.cons (.v 1) (.cons (.op2w .ix (.op2x .ix 3 4) 1) .nil))))) (.v 13)))
  .pass)))))
  (.seq (.app 12 (.op1v .tuple 14))
  .pass))))
  (.seq (.ret (.op2 .eq (.call 12 (.cons (.v 8) (.cons (.v 2) (.cons (.v 9) (.cons (.op1v .tuple 12) .nil))))) (.ite (.op2v .is 13 (.k .none)) (.tup (.cons (.k (.str "agree")) .nil)) (.v 13))))
  .pass)))))))))
def b_law : CS := (.seq (.asg (.nm 1) (.callsc 13 0))
  (.seq (.for (.nm 2) (.rng (.k (.int 0)) (.k (.int 3))) (.seq (.ite (.op1 .not (.op1 .truth (.callm 16 1 .nil))) (.seq (.ret (.k (.bool false)))
  .pass) .pass)
  .pass))
  (.seq (.ret (.k (.bool true)))
  .pass)))
def d_is_integer : FD := ⟨"is_integer", s_is_integer, n_is_integer, ["value"], i_is_integer, b_is_integer⟩
def d_is_between : FD := ⟨"is_between", s_is_between, n_is_between, ["value", "low", "high"], i_is_between, b_is_between⟩
def d_check_ponds : FD := ⟨"check_ponds", s_check_ponds, n_check_ponds, ["ponds"], i_check_ponds, b_check_ponds⟩
def d_are_levels : FD := ⟨"are_levels", s_are_levels, n_are_levels, ["ponds", "value"], i_are_levels, b_are_levels⟩
def d_check_begin : FD := ⟨"check_begin", s_check_begin, n_check_begin, ["ponds", "begin"], i_check_begin, b_check_begin⟩
def d_check_rains : FD := ⟨"check_rains", s_check_rains, n_check_rains, ["rains"], i_check_rains, b_check_rains⟩
def d_check_pond : FD := ⟨"check_pond", s_check_pond, n_check_pond, ["ponds", "pond"], i_check_pond, b_check_pond⟩
def d_hour_of : FD := ⟨"hour_of", s_hour_of, n_hour_of, ["ponds", "levels", "rain"], i_hour_of, b_hour_of⟩
def d_hours_of : FD := ⟨"hours_of", s_hours_of, n_hours_of, ["ponds", "begin", "rains"], i_hours_of, b_hours_of⟩
def d_levels_of : FD := ⟨"levels_of", s_levels_of, n_levels_of, ["ponds", "begin", "rains"], i_levels_of, b_levels_of⟩
def d_spilled_from : FD := ⟨"spilled_from", s_spilled_from, n_spilled_from, ["ponds", "begin", "rains"], i_spilled_from, b_spilled_from⟩
def d_first_spill : FD := ⟨"first_spill", s_first_spill, n_first_spill, ["ponds", "begin", "rains", "pond"], i_first_spill, b_first_spill⟩
def d_judge_seen : FD := ⟨"judge_seen", s_judge_seen, n_judge_seen, ["ponds", "begin", "rains", "seen"], i_judge_seen, b_judge_seen⟩
def d__law_start : FD := ⟨"_law_start", s__law_start, n__law_start, ["script"], i__law_start, b__law_start⟩
def d__law_draw : FD := ⟨"_law_draw", s__law_draw, n__law_draw, ["state", "many"], i__law_draw, b__law_draw⟩
def d__law_pick : FD := ⟨"_law_pick", s__law_pick, n__law_pick, ["state", "some"], i__law_pick, b__law_pick⟩
def d__law_ponds_hold : FD := ⟨"_law_ponds_hold", s__law_ponds_hold, n__law_ponds_hold, ["state"], i__law_ponds_hold, b__law_ponds_hold⟩
def d_law : FD := ⟨"law", s_law, n_law, ["script"], i_law, b_law⟩
def ds : List FD := [d_is_integer, d_is_between, d_check_ponds, d_are_levels, d_check_begin, d_check_rains, d_check_pond, d_hour_of, d_hours_of, d_levels_of, d_spilled_from, d_first_spill, d_judge_seen, d__law_start, d__law_draw, d__law_pick, d__law_ponds_hold, d_law]
def tab : List Fn := tabOf ds
theorem fns_eq : fnsOf ds = fns := rfl
theorem c_is_integer : compSs 60 (d_is_integer.sta fns cons) (defBody s_is_integer) = some b_is_integer := by kernel_rfl
theorem g_is_integer : d_is_integer.good 0 (fnsOf ds) cons := by
  refine ⟨⟨rfl, rfl, c_is_integer, by decide +kernel, rfl⟩, ⟨rfl, rfl, rfl, by decide +kernel, rfl, by decide +kernel, by decide +kernel⟩, fun K f fd dvs hl F j hj => ?_, by decide⟩
  have hl2 : dvs.length = 0 := hl
  have e : dvs = [] := List.eq_nil_of_length_eq_zero hl2
  subst e
  have b := FunD.bindsN (ps := ["value"]) F fun _ _ _ _ _ _ us hl => match us, hl with | [_], _ => rfl
  rw [List.drop_nil]
  exact ⟨[], .nil, b⟩
theorem c_is_between : compSs 60 (d_is_between.sta fns cons) (defBody s_is_between) = some b_is_between := by kernel_rfl
theorem g_is_between : d_is_between.good 1 (fnsOf ds) cons := by
  refine ⟨⟨rfl, rfl, c_is_between, by decide +kernel, rfl⟩, ⟨rfl, rfl, rfl, by decide +kernel, rfl, by decide +kernel, by decide +kernel⟩, fun K f fd dvs hl F j hj => ?_, by decide⟩
  have hl2 : dvs.length = 0 := hl
  have e : dvs = [] := List.eq_nil_of_length_eq_zero hl2
  subst e
  have b := FunD.bindsN (ps := ["value", "low", "high"]) F fun _ _ _ _ _ _ us hl => match us, hl with | [_, _, _], _ => rfl
  rw [List.drop_nil]
  exact ⟨[], .nil, b⟩
theorem c_check_ponds : compSs 60 (d_check_ponds.sta fns cons) (defBody s_check_ponds) = some b_check_ponds := by kernel_rfl
theorem g_check_ponds : d_check_ponds.good 2 (fnsOf ds) cons := by
  refine ⟨⟨rfl, rfl, c_check_ponds, by decide +kernel, rfl⟩, ⟨rfl, rfl, rfl, by decide +kernel, rfl, by decide +kernel, by decide +kernel⟩, fun K f fd dvs hl F j hj => ?_, by decide⟩
  have hl2 : dvs.length = 0 := hl
  have e : dvs = [] := List.eq_nil_of_length_eq_zero hl2
  subst e
  have b := FunD.bindsN (ps := ["ponds"]) F fun _ _ _ _ _ _ us hl => match us, hl with | [_], _ => rfl
  rw [List.drop_nil]
  exact ⟨[], .nil, b⟩
theorem c_are_levels : compSs 60 (d_are_levels.sta fns cons) (defBody s_are_levels) = some b_are_levels := by kernel_rfl
theorem g_are_levels : d_are_levels.good 3 (fnsOf ds) cons := by
  refine ⟨⟨rfl, rfl, c_are_levels, by decide +kernel, rfl⟩, ⟨rfl, rfl, rfl, by decide +kernel, rfl, by decide +kernel, by decide +kernel⟩, fun K f fd dvs hl F j hj => ?_, by decide⟩
  have hl2 : dvs.length = 0 := hl
  have e : dvs = [] := List.eq_nil_of_length_eq_zero hl2
  subst e
  have b := FunD.bindsN (ps := ["ponds", "value"]) F fun _ _ _ _ _ _ us hl => match us, hl with | [_, _], _ => rfl
  rw [List.drop_nil]
  exact ⟨[], .nil, b⟩
theorem c_check_begin : compSs 60 (d_check_begin.sta fns cons) (defBody s_check_begin) = some b_check_begin := by kernel_rfl
theorem g_check_begin : d_check_begin.good 4 (fnsOf ds) cons := by
  refine ⟨⟨rfl, rfl, c_check_begin, by decide +kernel, rfl⟩, ⟨rfl, rfl, rfl, by decide +kernel, rfl, by decide +kernel, by decide +kernel⟩, fun K f fd dvs hl F j hj => ?_, by decide⟩
  have hl2 : dvs.length = 0 := hl
  have e : dvs = [] := List.eq_nil_of_length_eq_zero hl2
  subst e
  have b := FunD.bindsN (ps := ["ponds", "begin"]) F fun _ _ _ _ _ _ us hl => match us, hl with | [_, _], _ => rfl
  rw [List.drop_nil]
  exact ⟨[], .nil, b⟩
theorem c_check_rains : compSs 60 (d_check_rains.sta fns cons) (defBody s_check_rains) = some b_check_rains := by kernel_rfl
theorem g_check_rains : d_check_rains.good 5 (fnsOf ds) cons := by
  refine ⟨⟨rfl, rfl, c_check_rains, by decide +kernel, rfl⟩, ⟨rfl, rfl, rfl, by decide +kernel, rfl, by decide +kernel, by decide +kernel⟩, fun K f fd dvs hl F j hj => ?_, by decide⟩
  have hl2 : dvs.length = 0 := hl
  have e : dvs = [] := List.eq_nil_of_length_eq_zero hl2
  subst e
  have b := FunD.bindsN (ps := ["rains"]) F fun _ _ _ _ _ _ us hl => match us, hl with | [_], _ => rfl
  rw [List.drop_nil]
  exact ⟨[], .nil, b⟩
theorem c_check_pond : compSs 60 (d_check_pond.sta fns cons) (defBody s_check_pond) = some b_check_pond := by kernel_rfl
theorem g_check_pond : d_check_pond.good 6 (fnsOf ds) cons := by
  refine ⟨⟨rfl, rfl, c_check_pond, by decide +kernel, rfl⟩, ⟨rfl, rfl, rfl, by decide +kernel, rfl, by decide +kernel, by decide +kernel⟩, fun K f fd dvs hl F j hj => ?_, by decide⟩
  have hl2 : dvs.length = 0 := hl
  have e : dvs = [] := List.eq_nil_of_length_eq_zero hl2
  subst e
  have b := FunD.bindsN (ps := ["ponds", "pond"]) F fun _ _ _ _ _ _ us hl => match us, hl with | [_, _], _ => rfl
  rw [List.drop_nil]
  exact ⟨[], .nil, b⟩
theorem c_hour_of : compSs 60 (d_hour_of.sta fns cons) (defBody s_hour_of) = some b_hour_of := by kernel_rfl
theorem g_hour_of : d_hour_of.good 7 (fnsOf ds) cons := by
  refine ⟨⟨rfl, rfl, c_hour_of, by decide +kernel, rfl⟩, ⟨rfl, rfl, rfl, by decide +kernel, rfl, by decide +kernel, by decide +kernel⟩, fun K f fd dvs hl F j hj => ?_, by decide⟩
  have hl2 : dvs.length = 0 := hl
  have e : dvs = [] := List.eq_nil_of_length_eq_zero hl2
  subst e
  have b := FunD.bindsN (ps := ["ponds", "levels", "rain"]) F fun _ _ _ _ _ _ us hl => match us, hl with | [_, _, _], _ => rfl
  rw [List.drop_nil]
  exact ⟨[], .nil, b⟩
theorem c_hours_of : compSs 60 (d_hours_of.sta fns cons) (defBody s_hours_of) = some b_hours_of := by kernel_rfl
theorem g_hours_of : d_hours_of.good 8 (fnsOf ds) cons := by
  refine ⟨⟨rfl, rfl, c_hours_of, by decide +kernel, rfl⟩, ⟨rfl, rfl, rfl, by decide +kernel, rfl, by decide +kernel, by decide +kernel⟩, fun K f fd dvs hl F j hj => ?_, by decide⟩
  have hl2 : dvs.length = 0 := hl
  have e : dvs = [] := List.eq_nil_of_length_eq_zero hl2
  subst e
  have b := FunD.bindsN (ps := ["ponds", "begin", "rains"]) F fun _ _ _ _ _ _ us hl => match us, hl with | [_, _, _], _ => rfl
  rw [List.drop_nil]
  exact ⟨[], .nil, b⟩
theorem c_levels_of : compSs 60 (d_levels_of.sta fns cons) (defBody s_levels_of) = some b_levels_of := by kernel_rfl
theorem g_levels_of : d_levels_of.good 9 (fnsOf ds) cons := by
  refine ⟨⟨rfl, rfl, c_levels_of, by decide +kernel, rfl⟩, ⟨rfl, rfl, rfl, by decide +kernel, rfl, by decide +kernel, by decide +kernel⟩, fun K f fd dvs hl F j hj => ?_, by decide⟩
  have hl2 : dvs.length = 0 := hl
  have e : dvs = [] := List.eq_nil_of_length_eq_zero hl2
  subst e
  have b := FunD.bindsN (ps := ["ponds", "begin", "rains"]) F fun _ _ _ _ _ _ us hl => match us, hl with | [_, _, _], _ => rfl
  rw [List.drop_nil]
  exact ⟨[], .nil, b⟩
theorem c_spilled_from : compSs 60 (d_spilled_from.sta fns cons) (defBody s_spilled_from) = some b_spilled_from := by kernel_rfl
theorem g_spilled_from : d_spilled_from.good 10 (fnsOf ds) cons := by
  refine ⟨⟨rfl, rfl, c_spilled_from, by decide +kernel, rfl⟩, ⟨rfl, rfl, rfl, by decide +kernel, rfl, by decide +kernel, by decide +kernel⟩, fun K f fd dvs hl F j hj => ?_, by decide⟩
  have hl2 : dvs.length = 0 := hl
  have e : dvs = [] := List.eq_nil_of_length_eq_zero hl2
  subst e
  have b := FunD.bindsN (ps := ["ponds", "begin", "rains"]) F fun _ _ _ _ _ _ us hl => match us, hl with | [_, _, _], _ => rfl
  rw [List.drop_nil]
  exact ⟨[], .nil, b⟩
theorem c_first_spill : compSs 60 (d_first_spill.sta fns cons) (defBody s_first_spill) = some b_first_spill := by kernel_rfl
theorem g_first_spill : d_first_spill.good 11 (fnsOf ds) cons := by
  refine ⟨⟨rfl, rfl, c_first_spill, by decide +kernel, rfl⟩, ⟨rfl, rfl, rfl, by decide +kernel, rfl, by decide +kernel, by decide +kernel⟩, fun K f fd dvs hl F j hj => ?_, by decide⟩
  have hl2 : dvs.length = 0 := hl
  have e : dvs = [] := List.eq_nil_of_length_eq_zero hl2
  subst e
  have b := FunD.bindsN (ps := ["ponds", "begin", "rains", "pond"]) F fun _ _ _ _ _ _ us hl => match us, hl with | [_, _, _, _], _ => rfl
  rw [List.drop_nil]
  exact ⟨[], .nil, b⟩
theorem c_judge_seen : compSs 60 (d_judge_seen.sta fns cons) (defBody s_judge_seen) = some b_judge_seen := by kernel_rfl
theorem g_judge_seen : d_judge_seen.good 12 (fnsOf ds) cons := by
  refine ⟨⟨rfl, rfl, c_judge_seen, by decide +kernel, rfl⟩, ⟨rfl, rfl, rfl, by decide +kernel, rfl, by decide +kernel, by decide +kernel⟩, fun K f fd dvs hl F j hj => ?_, by decide⟩
  have hl2 : dvs.length = 0 := hl
  have e : dvs = [] := List.eq_nil_of_length_eq_zero hl2
  subst e
  have b := FunD.bindsN (ps := ["ponds", "begin", "rains", "seen"]) F fun _ _ _ _ _ _ us hl => match us, hl with | [_, _, _, _], _ => rfl
  rw [List.drop_nil]
  exact ⟨[], .nil, b⟩
theorem c__law_start : compSs 60 (d__law_start.sta fns cons) (defBody s__law_start) = some b__law_start := by kernel_rfl
theorem g__law_start : d__law_start.good 13 (fnsOf ds) cons := by
  refine ⟨⟨rfl, rfl, c__law_start, by decide +kernel, rfl⟩, ⟨rfl, rfl, rfl, by decide +kernel, rfl, by decide +kernel, by decide +kernel⟩, fun K f fd dvs hl F j hj => ?_, by decide⟩
  have hl2 : dvs.length = 0 := hl
  have e : dvs = [] := List.eq_nil_of_length_eq_zero hl2
  subst e
  have b := FunD.bindsN (ps := ["script"]) F fun _ _ _ _ _ _ us hl => match us, hl with | [_], _ => rfl
  rw [List.drop_nil]
  exact ⟨[], .nil, b⟩
theorem c__law_draw : compSs 60 (d__law_draw.sta fns cons) (defBody s__law_draw) = some b__law_draw := by kernel_rfl
theorem g__law_draw : d__law_draw.good 14 (fnsOf ds) cons := by
  refine ⟨⟨rfl, rfl, c__law_draw, by decide +kernel, rfl⟩, ⟨rfl, rfl, rfl, by decide +kernel, rfl, by decide +kernel, by decide +kernel⟩, fun K f fd dvs hl F j hj => ?_, by decide⟩
  have hl2 : dvs.length = 0 := hl
  have e : dvs = [] := List.eq_nil_of_length_eq_zero hl2
  subst e
  have b := FunD.bindsN (ps := ["state", "many"]) F fun _ _ _ _ _ _ us hl => match us, hl with | [_, _], _ => rfl
  rw [List.drop_nil]
  exact ⟨[], .nil, b⟩
theorem c__law_pick : compSs 60 (d__law_pick.sta fns cons) (defBody s__law_pick) = some b__law_pick := by kernel_rfl
theorem g__law_pick : d__law_pick.good 15 (fnsOf ds) cons := by
  refine ⟨⟨rfl, rfl, c__law_pick, by decide +kernel, rfl⟩, ⟨rfl, rfl, rfl, by decide +kernel, rfl, by decide +kernel, by decide +kernel⟩, fun K f fd dvs hl F j hj => ?_, by decide⟩
  have hl2 : dvs.length = 0 := hl
  have e : dvs = [] := List.eq_nil_of_length_eq_zero hl2
  subst e
  have b := FunD.bindsN (ps := ["state", "some"]) F fun _ _ _ _ _ _ us hl => match us, hl with | [_, _], _ => rfl
  rw [List.drop_nil]
  exact ⟨[], .nil, b⟩
theorem c__law_ponds_hold : compSs 60 (d__law_ponds_hold.sta fns cons) (defBody s__law_ponds_hold) = some b__law_ponds_hold := by kernel_rfl
theorem g__law_ponds_hold : d__law_ponds_hold.good 16 (fnsOf ds) cons := by
  refine ⟨⟨rfl, rfl, c__law_ponds_hold, by decide +kernel, rfl⟩, ⟨rfl, rfl, rfl, by decide +kernel, rfl, by decide +kernel, by decide +kernel⟩, fun K f fd dvs hl F j hj => ?_, by decide⟩
  have hl2 : dvs.length = 0 := hl
  have e : dvs = [] := List.eq_nil_of_length_eq_zero hl2
  subst e
  have b := FunD.bindsN (ps := ["state"]) F fun _ _ _ _ _ _ us hl => match us, hl with | [_], _ => rfl
  rw [List.drop_nil]
  exact ⟨[], .nil, b⟩
theorem c_law : compSs 60 (d_law.sta fns cons) (defBody s_law) = some b_law := by kernel_rfl
theorem g_law : d_law.good 17 (fnsOf ds) cons := by
  refine ⟨⟨rfl, rfl, c_law, by decide +kernel, rfl⟩, ⟨rfl, rfl, rfl, by decide +kernel, rfl, by decide +kernel, by decide +kernel⟩, fun K f fd dvs hl F j hj => ?_, by decide⟩
  have hl2 : dvs.length = 0 := hl
  have e : dvs = [] := List.eq_nil_of_length_eq_zero hl2
  subst e
  have b := FunD.bindsN (ps := ["script"]) F fun _ _ _ _ _ _ us hl => match us, hl with | [_], _ => rfl
  rw [List.drop_nil]
  exact ⟨[], .nil, b⟩
theorem good : ∀ (i : Nat) (d : FD), ds[i]? = some d → d.good i (fnsOf ds) cons := fun i d e => by
  match i, e with
  | 0, e => cases e; exact g_is_integer
  | 1, e => cases e; exact g_is_between
  | 2, e => cases e; exact g_check_ponds
  | 3, e => cases e; exact g_are_levels
  | 4, e => cases e; exact g_check_begin
  | 5, e => cases e; exact g_check_rains
  | 6, e => cases e; exact g_check_pond
  | 7, e => cases e; exact g_hour_of
  | 8, e => cases e; exact g_hours_of
  | 9, e => cases e; exact g_levels_of
  | 10, e => cases e; exact g_spilled_from
  | 11, e => cases e; exact g_first_spill
  | 12, e => cases e; exact g_judge_seen
  | 13, e => cases e; exact g__law_start
  | 14, e => cases e; exact g__law_draw
  | 15, e => cases e; exact g__law_pick
  | 16, e => cases e; exact g__law_ponds_hold
  | 17, e => cases e; exact g_law
  | n + 18, e => cases e
end Gk39
namespace Gk39
open PySem L2 PP PySem.Spec PyProof.Rows
abbrev T := tab
abbrev FF : Nat := 1000
/-! ### ponds -/
abbrev Pd : Type := Int × Int × Option Nat
def bD : Option Nat → PyData
  | none => .none
  | some j => .int j
def pD (p : Pd) : PyData := .tuple [.int p.1, .int p.2.1, bD p.2.2]
def POk (ps : List Pd) : Prop := 1 ≤ ps.length ∧ ps.length ≤ 10 ∧ ∀ (i : Nat) (p : Pd), ps[i]? = some p → 0 ≤ p.1 ∧ p.1 ≤ 1000 ∧ 1 ≤ p.2.1 ∧ p.2.1 ≤ 1000 ∧ ∀ j, p.2.2 = some j → i < j ∧ j < ps.length
/-- levels that the ponds can hold -/
def LOk (ps : List Pd) (lv : List Int) : Prop := lv.length = ps.length ∧ ∀ (i : Nat) (p : Pd) (x : Int), ps[i]? = some p → lv[i]? = some x → 0 ≤ x ∧ x ≤ p.2.1
section
variable {k : Nat}
theorem q_betw (v lo hi : Int) : run FF T (k + 2) 1 [.sh (.int v), .sh (.int lo), .sh (.int hi)] = some (.sh (.bool (decide (lo ≤ v ∧ v ≤ hi))), none) := r_betw (i := 0) (by rfl) (by rfl) v lo hi
theorem q_ponds (ps : List Pd) (h : POk ps) : run FF T (k + 3) 2 [.sh (.tuple (ps.map pD))] = some (.sh .none, none) := by
  obtain ⟨h1, h2, h3⟩ := h
  refine run_of (fn := ⟨1, 3, false, b_check_ponds⟩) (by rfl) rfl ?_
  have h4 : (1 : Int) ≤ ps.length := by omega
  have h5 : (ps.length : Int) ≤ 10 := by omega
  have h6 : ¬ ps.length = 0 := by omega
  simp [b_check_ponds, h4, h5, h6]
  refine zf_ind (fun n ρ => ∃ x1 x2, ρ = [.sh (.tuple (ps.map pD)), x1, x2] ∧ free [x1] 0 = true ∧ free [x2] 0 = true) ⟨.un, .un, rfl, rfl, rfl⟩ (fun n d ρ hd hI => ?_) (fun ρ hI => ?_)
  · obtain ⟨x1, x2, rfl, f1, f2⟩ := hI
    obtain ⟨hn, e, he, rfl⟩ := enum_get hd
    rw [List.getElem?_map] at he
    obtain ⟨⟨a, r, b⟩, hp, rfl⟩ := Option.map_eq_some_iff.mp he
    obtain ⟨g1, g2, g3, g4, g5⟩ := h3 n _ hp
    have g1' : 0 ≤ a := g1
    have g2' : a ≤ 1000 := g2
    have g3' : 1 ≤ r := g3
    have g4' : r ≤ 1000000000000 := by have : r ≤ 1000 := g4; omega
    simp at f1 f2
    cases b with
    | none =>
      simp [f1, f2, pD, bD, zr_some (q_betw _ _ _), g1', g2', g3', g4']
      exact ⟨_, _, ⟨rfl, rfl⟩, rfl, rfl⟩
    | some j =>
      obtain ⟨g6, g7⟩ := g5 j rfl
      have g6' : (n : Int) + 1 ≤ j := by omega
      have g7' : (j : Int) ≤ ps.length - 1 := by omega
      simp [f1, f2, pD, bD, zr_some (q_betw _ _ _), g1', g2', g3', g4', g6', g7']
      exact ⟨_, _, ⟨rfl, rfl⟩, rfl, rfl⟩
  · obtain ⟨x1, x2, rfl, f1, f2⟩ := hI
    simp
theorem q_begin (ps : List Pd) (lv : List Int) (hp : POk ps) (h : LOk ps lv) : run FF T (k + 4) 4 [.sh (.tuple (ps.map pD)), .sh (.tuple (nums lv))] = some (.sh .none, none) := by
  obtain ⟨h1, h2⟩ := h
  have key : run FF T (k + 3) 3 [.sh (.tuple (ps.map pD)), .sh (.tuple (nums lv))] = some (.sh (.bool true), none) := by
    refine run_of (fn := ⟨2, 4, false, b_are_levels⟩) (by rfl) rfl ?_
    have hl : min lv.length ps.length ≤ lim := by have := hp.2.1; simp [lim]; omega
    simp [b_are_levels, h1]
    refine ⟨by have := hp.2.1; simp [lim]; omega, zc_map (fun _ => .bool true) (fun d hd => ?_) ?_⟩
    · obtain ⟨i, hi⟩ := List.getElem?_of_mem hd
      obtain ⟨a, b, ha, hb, rfl⟩ := PP.zip_get hi
      rw [List.getElem?_map] at ha hb
      obtain ⟨x, hx, rfl⟩ := Option.map_eq_some_iff.mp ha
      obtain ⟨⟨p1, p2, p3⟩, hq, rfl⟩ := Option.map_eq_some_iff.mp hb
      have h3 := h2 i _ x hq hx
      have h4 : 0 ≤ x := h3.1
      have h5 : x ≤ p2 := h3.2
      simp [pD, zr_some (q_betw _ _ _), h4, h5]
    · simp [Function.comp_def]
  refine run_of (fn := ⟨2, 2, false, b_check_begin⟩) (by rfl) rfl ?_
  simp [b_check_begin, zr_some key]
theorem q_rains (rs : List Int) (hl : rs.length ≤ 40) (h : ∀ r ∈ rs, 0 ≤ r ∧ r ≤ 1000) : run FF T (k + 3) 5 [.sh (.tuple (nums rs))] = some (.sh .none, none) := by
  refine run_of (fn := ⟨1, 2, false, b_check_rains⟩) (by rfl) rfl ?_
  have h4 : ¬ (40 : Int) < rs.length := by omega
  simp [b_check_rains, h4]
  refine ⟨by simp [lim]; omega, zc_map (fun _ => .bool true) (fun d hd => ?_) ?_⟩
  · obtain ⟨t, ht, rfl⟩ := List.mem_map.mp hd
    have := h t ht
    have h7 : t ≤ 1000000000000 := by omega
    simp [zr_some (q_betw _ _ _), this, h7]
  · simp [Function.comp_def]
theorem q_hour (ps : List Pd) (hp : POk ps) (lv : List Int) (hl : LOk ps lv) (rain : Int) (hr : 0 ≤ rain) (hr2 : rain ≤ 1000) :
    Zr (run FF T (k + 1)) 7 [.sh (.tuple (ps.map pD)), .sh (.list (nums lv)), .sh (.int rain)] fun r o => o = none ∧ ∃ lv' sp, r = .sh (.tuple [.list (nums lv'), .list (nums sp)]) ∧ LOk ps lv' ∧ sp.length = ps.length ∧ ∀ s ∈ sp, 0 ≤ s := by
  obtain ⟨p1, p2, p3⟩ := hp
  obtain ⟨l1, l2⟩ := hl
  refine zr_of (fn := ⟨3, 10, false, b_hour_of⟩) (by rfl) rfl ?_
  have lm : ps.length ≤ lim := by simp [lim]; omega
  have lm2 : 2 ≤ lim := by decide
  let A : PEnv := [.sh (.tuple (ps.map pD)), .sh (.list (nums lv)), .sh (.int rain)]
  -- come
  refine x_cut (fun ρ => ∃ come : List Int, ρ = [.sh (.tuple (ps.map pD)), .sh (.list (nums lv)), .sh (.int rain), .ow (nums come), .un, .un, .un, .un, .un, .un] ∧ come.length = ps.length ∧ ∀ x ∈ come, 0 ≤ x) ?_ ?_
  · simp [lm]
    refine zc_ind (fun n ρ acc => ρ = [.sh (.tuple (ps.map pD)), .sh (.list (nums lv)), .sh (.int rain), .un, .un, .un, .un, .un, .un, .un] ∧ ∃ come : List Int, acc = nums come ∧ come.length = n ∧ ∀ x ∈ come, 0 ≤ x) ⟨rfl, [], rfl, rfl, by simp⟩ (fun n d ρ acc hd hI => ?_) (fun ρ acc hI => ?_)
    · obtain ⟨rfl, come, rfl, e1, e2⟩ := hI
      obtain ⟨hn, e, he, rfl⟩ := enum_get hd
      rw [List.getElem?_map] at he
      obtain ⟨⟨a, r, b⟩, hq, rfl⟩ := Option.map_eq_some_iff.mp he
      have hn2 : n < ps.length := by simpa using hn
      obtain ⟨g1, g2, g3, g4, g5⟩ := p3 n _ hq
      have g1' : 0 ≤ a := g1
      have g2' : a ≤ 1000 := g2
      have hx : lv[n]? = some lv[n] := List.getElem?_eq_getElem (by omega)
      have hat := atI_nums hx
      have hx0 := (l2 n _ _ hq hx).1
      have hM : mulOk rain a = true := mulOk_small (by omega) (by omega)
      have h0 : 0 ≤ rain * a := Int.mul_nonneg hr g1'
      simp [pD, hat, hM]
      exact ⟨come ++ [lv[n] + rain * a], by simp, by simp [e1], fun x hx => by
        rcases List.mem_append.mp hx with z | z
        · exact e2 x z
        · simp at z
          omega⟩
    · obtain ⟨rfl, come, rfl, e1, e2⟩ := hI
      simp
      exact ⟨come, rfl, by simpa using e1, e2⟩
  rintro _ ⟨come, rfl, c1, c2⟩
  simp
  refine zf_ind (fun n ρ => ∃ (come sp : List Int) (x5 x6 x7 x8 : Sl), ρ = [.sh (.tuple (ps.map pD)), .sh (.list (nums lv)), .sh (.int rain), .ow (nums come), .ow (nums sp), x5, x6, x7, x8, .un] ∧ come.length = ps.length ∧ (∀ x ∈ come, 0 ≤ x) ∧ (∀ (i : Nat) (p : Pd) (x : Int), i < n → ps[i]? = some p → come[i]? = some x → x ≤ p.2.1) ∧ sp.length = n ∧ (∀ x ∈ sp, 0 ≤ x) ∧ free [x5] 0 = true ∧ free [x6] 0 = true ∧ free [x7] 0 = true ∧ free [x8] 0 = true)
    ⟨come, [], .un, .un, .un, .un, rfl, c1, c2, by intro i p x h; omega, rfl, by simp, rfl, rfl, rfl, rfl⟩ (fun n d ρ hd hI => ?_) (fun ρ hI => ?_)
  · obtain ⟨come, sp, x5, x6, x7, x8, rfl, c1, c2, c3, c4, c5, f5, f6, f7, f8⟩ := hI
    obtain ⟨hn, e, he, rfl⟩ := enum_get hd
    rw [List.getElem?_map] at he
    obtain ⟨⟨a, r, b⟩, hq, rfl⟩ := Option.map_eq_some_iff.mp he
    have hn2 : n < ps.length := by simpa using hn
    obtain ⟨g1, g2, g3, g4, g5⟩ := p3 n _ hq
    have g3' : 1 ≤ r := g3
    have hx : come[n]? = some come[n] := List.getElem?_eq_getElem (by omega)
    have hat := atI_nums hx
    have hx0 := c2 _ (List.mem_of_getElem? hx)
    simp at f5 f6 f7 f8 hat
    have hlen : sp.length < lim := by omega
    obtain ⟨s, hs⟩ : ∃ s : Int, (if r < come[n] then come[n] - r else 0) = s := ⟨_, rfl⟩
    have hs0 : 0 ≤ s := by rw [← hs]; split <;> omega
    have hs1 : come[n] - s ≤ r := by rw [← hs]; split <;> omega
    have hs2 : 0 ≤ come[n] - s := by rw [← hs]; split <;> omega
    have hat2 : L2.atI (nums sp ++ [.int s]) (n : Int) = some (.int s) := L2.atI_nat (by
      rw [List.getElem?_append_right (by simp [c4])]
      simp [c4])
    have hix : L2.ixN come.length (n : Int) = some n := ixN_nat (by omega)
    have hset : (nums come).set n (.int (come[n] - s)) = nums (come.set n (come[n] - s)) := by simp [nums, List.map_set]
    have q1 : ∀ x ∈ come.set n (come[n] - s), 0 ≤ x := fun x hx => by
      rcases List.mem_or_eq_of_mem_set hx with z | z
      · exact c2 x z
      · omega
    have q2 : ∀ (i : Nat) (p : Pd) (x : Int), i < n + 1 → ps[i]? = some p → (come.set n (come[n] - s))[i]? = some x → x ≤ p.2.1 := fun i p x hi hp hx => by
      by_cases e : i = n
      · subst e
        rw [hq] at hp
        cases hp
        rw [List.getElem?_set_self (by omega)] at hx
        cases hx
        exact hs1
      · rw [List.getElem?_set_ne (Ne.symm e)] at hx
        exact c3 i p x (by omega) hp hx
    have q3 : ∀ x ∈ sp ++ [s], 0 ≤ x := fun x hx => by
      rcases List.mem_append.mp hx with z | z
      · exact c5 x z
      · simp at z
        omega
    skip
    cases b with
    | none =>
      simp [pD, bD, f5, f6, f7, f8, hat, hlen, is_map, hs, hat2, hix]
      exact ⟨come.set n (come[n] - s), sp ++ [s], _, _, _, _, ⟨hset, by simp, rfl, rfl, rfl, rfl⟩, by simp [c1], q1, fun i a' r' b' x hi hp hx => q2 i (a', r', b') x hi hp hx, by simp [c4], q3, rfl, rfl, rfl, rfl⟩
    | some j =>
      obtain ⟨g6, g7⟩ := g5 j rfl
      have hjn : n ≠ j := by omega
      have hj : (come.set n (come[n] - s))[j]? = some come[j] := by
        rw [List.getElem?_set_ne hjn, List.getElem?_eq_getElem (by omega)]
      have hatj : L2.atI ((nums come).set n (.int (come[n] - s))) (j : Int) = some (.int come[j]) := by
        rw [hset]
        exact atI_nums hj
      have hixj : L2.ixN come.length (j : Int) = some j := ixN_nat (by omega)
      have hj0 := c2 _ (List.mem_of_getElem? (List.getElem?_eq_getElem (show j < come.length by omega)))
      have hset2 : ((nums come).set n (.int (come[n] - s))).set j (.int (come[j] + s)) = nums ((come.set n (come[n] - s)).set j (come[j] + s)) := by rw [hset]; simp [nums, List.map_set]
      skip
      simp [pD, bD, f5, f6, f7, f8, hat, hlen, is_map, hs, hat2, hix, hatj, hixj]
      refine ⟨(come.set n (come[n] - s)).set j (come[j] + s), sp ++ [s], _, _, _, _, ⟨hset2, by simp, rfl, rfl, rfl, rfl⟩, by simp [c1], fun x hx => ?_, fun i a' r' b' x hi hp hx => ?_, by simp [c4], q3, rfl, rfl, rfl, rfl⟩
      · rcases List.mem_or_eq_of_mem_set hx with z | z
        · exact q1 x z
        · omega
      · rw [List.getElem?_set_ne (by omega)] at hx
        exact q2 i (a', r', b') x hi hp hx
  · obtain ⟨come, sp, x5, x6, x7, x8, rfl, c1, c2, c3, c4, c5, f5, f6, f7, f8⟩ := hI
    simp [lm2]
    refine ⟨come, sp, ⟨rfl, rfl⟩, ⟨c1, fun i p x hp hx => ⟨c2 x (List.mem_of_getElem? hx), c3 i p x ?_ hp hx⟩⟩, by simpa using c4, c5⟩
    have := (List.getElem?_eq_some_iff.mp hp).1
    simpa using this
def unN : PyData → List Int
  | .list l => (intsD l).getD []
  | _ => []
/-- an hour, by the run itself -/
def hourV (k : Nat) (ps : List Pd) (lv : List Int) (rain : Int) : List Int × List Int := match run FF T (k + 1) 7 [.sh (.tuple (ps.map pD)), .sh (.list (nums lv)), .sh (.int rain)] with
  | some (.sh (.tuple [a, b]), _) => (unN a, unN b)
  | _ => ([], [])
theorem hourV_ok (ps : List Pd) (hp : POk ps) (lv : List Int) (hl : LOk ps lv) (rain : Int) (hr : 0 ≤ rain ∧ rain ≤ 1000) :
    run FF T (k + 1) 7 [.sh (.tuple (ps.map pD)), .sh (.list (nums lv)), .sh (.int rain)] = some (.sh (.tuple [.list (nums (hourV k ps lv rain).1), .list (nums (hourV k ps lv rain).2)]), none) ∧ LOk ps (hourV k ps lv rain).1 ∧ (hourV k ps lv rain).2.length = ps.length ∧ ∀ s ∈ (hourV k ps lv rain).2, 0 ≤ s := by
  obtain ⟨r, o, e, rfl, lv', sp, rfl, h1, h2, h3⟩ := q_hour (k := k) ps hp lv hl rain hr.1 hr.2
  have e2 : hourV k ps lv rain = (lv', sp) := by
    unfold hourV
    rw [e]
    simp [unN]
  rw [e2]
  exact ⟨e, h1, h2, h3⟩
def hoursV (k : Nat) (ps : List Pd) : List Int → List Int → List (List Int × List Int)
  | _, [] => []
  | lv, r :: rs => hourV k ps lv r :: hoursV k ps (hourV k ps lv r).1 rs
def lastV (k : Nat) (ps : List Pd) : List Int → List Int → List Int
  | lv, [] => lv
  | lv, r :: rs => lastV k ps (hourV k ps lv r).1 rs
def hD (h : List Int × List Int) : PyData := .tuple [.tuple (nums h.1), .tuple (nums h.2)]
theorem hoursV_snoc (ps : List Pd) : ∀ (lv rs : List Int) (r : Int), hoursV k ps lv (rs ++ [r]) = hoursV k ps lv rs ++ [hourV k ps (lastV k ps lv rs) r] ∧ lastV k ps lv (rs ++ [r]) = (hourV k ps (lastV k ps lv rs) r).1
  | lv, [], r => ⟨rfl, rfl⟩
  | lv, q :: rs, r => by
    obtain ⟨a, b⟩ := hoursV_snoc ps (hourV k ps lv q).1 rs r
    simp only [List.cons_append, hoursV, lastV, a, b, and_self]
theorem hoursV_len (ps : List Pd) : ∀ (lv rs : List Int), (hoursV k ps lv rs).length = rs.length
  | lv, [] => rfl
  | lv, r :: rs => by simp [hoursV, hoursV_len ps _ rs]
theorem hoursV_take (ps : List Pd) : ∀ (lv rs : List Int) (n : Nat), hoursV k ps lv (rs.take n) = (hoursV k ps lv rs).take n
  | lv, [], n => by simp [hoursV]
  | lv, r :: rs, 0 => by simp [hoursV]
  | lv, r :: rs, n + 1 => by simp [hoursV, hoursV_take ps _ rs n]
theorem hoursV_ok (ps : List Pd) (hp : POk ps) : ∀ (lv rs : List Int), LOk ps lv → (∀ r ∈ rs, 0 ≤ r ∧ r ≤ 1000) → LOk ps (lastV k ps lv rs) ∧ ∀ h ∈ hoursV k ps lv rs, LOk ps h.1 ∧ h.2.length = ps.length ∧ ∀ s ∈ h.2, 0 ≤ s
  | lv, [], hl, _ => ⟨hl, by simp [hoursV]⟩
  | lv, r :: rs, hl, hr => by
    obtain ⟨_, h1, h2, h3⟩ := hourV_ok (k := k) ps hp lv hl r (hr r (List.mem_cons_self ..))
    obtain ⟨h4, h5⟩ := hoursV_ok ps hp (hourV k ps lv r).1 rs h1 fun z hz => hr z (List.mem_cons_of_mem _ hz)
    refine ⟨h4, fun h hh => ?_⟩
    rcases List.mem_cons.mp hh with e | e
    · subst e
      exact ⟨h1, h2, h3⟩
    · exact h5 h e
theorem q_hours (ps : List Pd) (hp : POk ps) (lv rs : List Int) (hl : LOk ps lv) (hr : ∀ r ∈ rs, 0 ≤ r ∧ r ≤ 1000) (hn : rs.length ≤ 40) :
    run FF T (k + 2) 8 [.sh (.tuple (ps.map pD)), .sh (.tuple (nums lv)), .sh (.tuple (nums rs))] = some (.ow ((hoursV k ps lv rs).map hD), none) := by
  refine run_of (fn := ⟨3, 7, false, b_hours_of⟩) (by rfl) rfl ?_
  have lm2 : 2 ≤ lim := by decide
  simp [b_hours_of]
  refine zf_ind (fun n ρ => ∃ x3 x5 x6, ρ = [.sh (.tuple (ps.map pD)), .sh (.tuple (nums lv)), .sh (.tuple (nums rs)), x3, .ow ((hoursV k ps lv (rs.take n)).map hD), x5, x6] ∧ (x5 = .ow (nums (lastV k ps lv (rs.take n))) ∨ x5 = .sh (.list (nums (lastV k ps lv (rs.take n))))) ∧ free [x3] 0 = true ∧ free [x6] 0 = true) ⟨.un, .ow (nums lv), .un, by simp [hoursV], .inl (by simp [lastV]), rfl, rfl⟩ (fun n d ρ hd hI => ?_) (fun ρ hI => ?_)
  · obtain ⟨x3, x5, x6, rfl, h5, f3, f6⟩ := hI
    rw [List.getElem?_map] at hd
    obtain ⟨r, hr', rfl⟩ := Option.map_eq_some_iff.mp hd
    have hmem := hr r (List.mem_of_getElem? hr')
    have htk : rs.take (n + 1) = rs.take n ++ [r] := by rw [List.take_add_one, hr']; rfl
    obtain ⟨s1, s2⟩ := hoursV_snoc (k := k) ps lv (rs.take n) r
    have ok := (hoursV_ok (k := k) ps hp lv (rs.take n) hl fun z hz => hr z (List.mem_of_mem_take hz)).1
    obtain ⟨e1, o1, o2, o3⟩ := hourV_ok (k := k) ps hp _ ok r hmem
    have hlen : (hoursV k ps lv (rs.take n)).length < lim := by
      rw [hoursV_len]
      simp [lim]
      omega
    simp at f3 f6
    rcases h5 with rfl | rfl
    · simp [f3, f6, zr_some e1, is_map, lm2, hlen, htk, s1, s2, hD]
      exact ⟨_, _, _, ⟨rfl, rfl, rfl⟩, .inr rfl, rfl, rfl⟩
    · simp [f3, f6, zr_some e1, is_map, lm2, hlen, htk, s1, s2, hD]
      exact ⟨_, _, _, ⟨rfl, rfl, rfl⟩, .inr rfl, rfl, rfl⟩
  · obtain ⟨x3, x5, x6, rfl, h5, f3, f6⟩ := hI
    simp
theorem q_levels (ps : List Pd) (hp : POk ps) (lv rs : List Int) (hl : LOk ps lv) (hr : ∀ r ∈ rs, 0 ≤ r ∧ r ≤ 1000) (hn : rs.length ≤ 40) :
    run FF T (k + 5) 9 [.sh (.tuple (ps.map pD)), .sh (.tuple (nums lv)), .sh (.tuple (nums rs))] = some (.sh (.tuple ((hoursV (k + 2) ps lv rs).map fun h => .tuple (nums h.1))), none) := by
  refine run_of (fn := ⟨3, 4, false, b_levels_of⟩) (by rfl) rfl ?_
  have l1 : (hoursV (k + 2) ps lv rs).length ≤ lim := by
    rw [hoursV_len]
    simp [lim]
    omega
  simp [b_levels_of, zr_some (q_ponds (k := k + 1) ps hp), zr_some (q_begin (k := k) ps lv hp hl), zr_some (q_rains (k := k + 1) rs hn hr), zr_some (q_hours (k := k + 2) ps hp lv rs hl hr hn), l1]
  refine zc_map (fun d => match d with | .tuple (a :: _) => a | d => d) (fun d hd => ?_) ?_
  · obtain ⟨h, hh, rfl⟩ := List.mem_map.mp hd
    simp [hD]
  · simp [hD, Function.comp_def]
/-- what a pond has spilled in all -/
def spV (k : Nat) (ps : List Pd) (lv rs : List Int) (i : Nat) : Int := ((hoursV k ps lv rs).map fun h => h.2.getD i 0).sum
theorem q_spilled (ps : List Pd) (hp : POk ps) (lv rs : List Int) (hl : LOk ps lv) (hr : ∀ r ∈ rs, 0 ≤ r ∧ r ≤ 1000) (hn : rs.length ≤ 40) :
    run FF T (k + 5) 10 [.sh (.tuple (ps.map pD)), .sh (.tuple (nums lv)), .sh (.tuple (nums rs))] = some (.sh (.tuple ((List.range ps.length).map fun i => .int (spV (k + 2) ps lv rs i))), none) := by
  refine run_of (fn := ⟨3, 7, false, b_spilled_from⟩) (by rfl) rfl ?_
  have hlen := hoursV_len (k := k + 2) ps lv rs
  have ok := (hoursV_ok (k := k + 2) ps hp lv rs hl hr).2
  have l1 : (hoursV (k + 2) ps lv rs).length ≤ lim := by
    rw [hlen]
    simp [lim]
    omega
  have l2 : ps.length ≤ lim := by have := hp.2.1; simp [lim]; omega
  have rg : rgOk 0 = true ∧ rgOk (ps.length : Int) = true := by
    have := hp.2.1
    constructor
    · decide
    · simp [rgOk]; omega
  simp [b_spilled_from, zr_some (q_ponds (k := k + 1) ps hp), zr_some (q_begin (k := k) ps lv hp hl), zr_some (q_rains (k := k + 1) rs hn hr), zr_some (q_hours (k := k + 2) ps hp lv rs hl hr hn), l1]
  refine zc_map (fun d => match d with | .tuple (_ :: a :: _) => a | d => d) (fun d hd => ?_) ?_
  · obtain ⟨h, hh, rfl⟩ := List.mem_map.mp hd
    simp [hD]
  · simp [hD, Function.comp_def, rg, l2]
    refine zc_ind (fun n ρ acc => n ≤ ps.length ∧ acc = ((List.range n).map fun i => .int (spV (k + 2) ps lv rs i)) ∧ ∃ x3, ρ = [.sh (.tuple (ps.map pD)), .sh (.tuple (nums lv)), .sh (.tuple (nums rs)), x3, .un, .un, .un] ∧ (x3 = .ow ((hoursV (k + 2) ps lv rs).map fun h => .tuple (nums h.2)) ∨ x3 = .sh (.list ((hoursV (k + 2) ps lv rs).map fun h => .tuple (nums h.2))))) ⟨by omega, rfl, _, rfl, .inl rfl⟩ (fun n d ρ acc hd hI => ?_) (fun ρ acc hI => ?_)
    · obtain ⟨hn2, rfl, x3, rfl, h3⟩ := hI
      obtain ⟨hn3, rfl⟩ := mem_rng hd
      have fin : Zc (asgn (.nm 6)) (ev (run FF T (k + 4)) (.k (.bool true))) (ev (run FF T (k + 4)) (.op2x .ix 6 5)) [6] ((hoursV (k + 2) ps lv rs).map fun h => .tuple (nums h.2)) [.sh (.tuple (ps.map pD)), .sh (.tuple (nums lv)), .sh (.tuple (nums rs)), .sh (.list ((hoursV (k + 2) ps lv rs).map fun h => .tuple (nums h.2))), .un, .sh (.int n), .un] [] fun acc ρ2 => acc = nums ((hoursV (k + 2) ps lv rs).map fun h => h.2.getD n 0) ∧ ρ2 = [.sh (.tuple (ps.map pD)), .sh (.tuple (nums lv)), .sh (.tuple (nums rs)), .sh (.list ((hoursV (k + 2) ps lv rs).map fun h => .tuple (nums h.2))), .un, .sh (.int n), .un] := by
        refine zc_map (fun d => match d with | .tuple l => l.getD n .none | d => d) (fun d hd => ?_) ?_
        · obtain ⟨h, hh, rfl⟩ := List.mem_map.mp hd
          have hlt : n < h.2.length := by rw [(ok h hh).2.1]; exact hn3
          have hat := atI_nums (List.getElem?_eq_getElem hlt)
          simp [hat, hlt]
        · refine ⟨?_, rfl⟩
          unfold nums
          rw [List.map_map, List.map_map]
          refine List.map_congr_left fun h hh => ?_
          have hlt : n < h.2.length := by rw [(ok h hh).2.1]; exact hn3
          simp [hlt]
      have done : ∀ acc : List PyData, acc = nums ((hoursV (k + 2) ps lv rs).map fun h => h.2.getD n 0) → intsD acc = some ((hoursV (k + 2) ps lv rs).map fun h => h.2.getD n 0) := fun acc e => by rw [e]; exact intsD_nums _
      have hrow : ((List.range n).map fun i => PyData.int (spV (k + 2) ps lv rs i)) ++ [.int (spV (k + 2) ps lv rs n)] = (List.range (n + 1)).map fun i => PyData.int (spV (k + 2) ps lv rs i) := by
        rw [List.range_succ, List.map_append]
        rfl
      rcases h3 with rfl | rfl
      · simp [l1]
        refine zc_mono fin fun acc ρ2 ⟨ea, eρ⟩ => ?_
        subst eρ
        simp [done acc ea]
        exact ⟨hn3, hrow⟩
      · simp [l1]
        refine zc_mono fin fun acc ρ2 ⟨ea, eρ⟩ => ?_
        subst eρ
        simp [done acc ea]
        exact ⟨hn3, hrow⟩
    · obtain ⟨hn2, rfl, x3, rfl, h3⟩ := hI
      simp
end
end Gk39
namespace Gk39
open PySem L2 PP PySem.Spec PyProof.Rows
section
variable {k : Nat}
def spAt (k : Nat) (ps : List Pd) (lv rs : List Int) (j i : Nat) : Int := ((hoursV k ps lv rs).getD j ([], [])).2.getD i 0
def lvAt (k : Nat) (ps : List Pd) (lv rs : List Int) (j i : Nat) : Int := ((hoursV k ps lv rs).getD j ([], [])).1.getD i 0
def First (P : Nat → Prop) (n : Nat) (d : PyData) : Prop := (∃ a : Nat, a < n ∧ (∀ j, j < a → ¬ P j) ∧ P a ∧ d = .int a) ∨ ((∀ j, j < n → ¬ P j) ∧ d = .none)
theorem q_first (ps : List Pd) (hp : POk ps) (lv rs : List Int) (hl : LOk ps lv) (hr : ∀ r ∈ rs, 0 ≤ r ∧ r ≤ 1000) (hn : rs.length ≤ 40) (i : Nat) (hi : i < ps.length) :
    Zr (run FF T (k + 5)) 11 [.sh (.tuple (ps.map pD)), .sh (.tuple (nums lv)), .sh (.tuple (nums rs)), .sh (.int i)] fun r _ => ∃ d, r = .sh d ∧ First (fun j => 0 < spAt (k + 2) ps lv rs j i) rs.length d := by
  have qp : run FF T (k + 4) 6 [.sh (.tuple (ps.map pD)), .sh (.int i)] = some (.sh .none, none) := by
    refine run_of (fn := ⟨2, 2, false, b_check_pond⟩) (by rfl) rfl ?_
    have h2 : (i : Int) ≤ ps.length - 1 := by omega
    simp [b_check_pond, zr_some (q_betw _ _ _), h2]
  refine zr_of (fn := ⟨4, 6, false, b_first_spill⟩) (by rfl) rfl ?_
  have hlen := hoursV_len (k := k + 2) ps lv rs
  have ok := (hoursV_ok (k := k + 2) ps hp lv rs hl hr).2
  simp [b_first_spill, zr_some (q_ponds (k := k + 1) ps hp), zr_some (q_begin (k := k) ps lv hp hl), zr_some (q_rains (k := k + 1) rs hn hr), zr_some (q_hours (k := k + 2) ps hp lv rs hl hr hn), zr_some qp]
  refine zf_ind (fun n ρ => n ≤ rs.length ∧ (∀ j, j < n → ¬ 0 < spAt (k + 2) ps lv rs j i) ∧ ∃ x4 x5, ρ = [.sh (.tuple (ps.map pD)), .sh (.tuple (nums lv)), .sh (.tuple (nums rs)), .sh (.int i), x4, x5] ∧ free [x4] 0 = true ∧ free [x5] 0 = true) ⟨by omega, by intro j hj; omega, .un, .un, rfl, rfl, rfl⟩ (fun n d ρ hd hI => ?_) (fun ρ hI => ?_)
  · obtain ⟨hn1, hno, x4, x5, rfl, f4, f5⟩ := hI
    obtain ⟨hn2, e, he, rfl⟩ := enum_get hd
    rw [List.getElem?_map] at he
    obtain ⟨h, hh, rfl⟩ := Option.map_eq_some_iff.mp he
    have hm := ok h (List.mem_of_getElem? hh)
    have hlt : i < h.2.length := by rw [hm.2.1]; exact hi
    have hat := atI_nums (List.getElem?_eq_getElem hlt)
    have hsp : spAt (k + 2) ps lv rs n i = h.2[i] := by
      unfold spAt
      simp only [List.getD_eq_getElem?_getD, hh, Option.getD_some, List.getElem?_eq_getElem hlt]
    have hn3 : n < rs.length := by simpa [hlen] using hn2
    simp at f4 f5
    by_cases hpos : 0 < h.2[i]
    · simp [f4, f5, hD, hat, hpos]
      exact .inl ⟨n, hn3, hno, by show 0 < spAt (k + 2) ps lv rs n i; rw [hsp]; exact hpos, rfl⟩
    · simp [f4, f5, hD, hat, hpos]
      refine ⟨hn3, fun j hj => ?_, _, _, ⟨rfl, rfl⟩, rfl, rfl⟩
      by_cases e : j = n
      · subst e
        rw [hsp]
        omega
      · exact Int.not_lt.mp (hno j (by omega))
  · obtain ⟨hn1, hno, x4, x5, rfl, f4, f5⟩ := hI
    simp [hlen] at hno ⊢
    exact .inr ⟨fun j hj => by have := hno j hj; omega, rfl⟩
/-! ### what was seen -/
def oD : Option Int → PyData
  | none => .none
  | some x => .int x
abbrev Sn := List (List (Option Int))
def sD (S : Sn) : PyData := .tuple (S.map fun r => .tuple (r.map oD))
def sAt (S : Sn) (h i : Nat) : Option Int := (S.getD h []).getD i none
def Bad (lev : Int) (o : Option Int) : Prop := ∃ x, o = some x ∧ x ≠ lev
def NoBad (L : Nat → Nat → Int) (S : Sn) : Prop := ∀ h i, ¬ Bad (L h i) (sAt S h i)
def FirstBad (L : Nat → Nat → Int) (S : Sn) (h i : Nat) : Prop := (∀ h' i', (h' < h ∨ (h' = h ∧ i' < i)) → ¬ Bad (L h' i') (sAt S h' i')) ∧ Bad (L h i) (sAt S h i)
def wrD (L : Nat → Nat → Int) (h i : Nat) : PyData := .tuple [.str (Str.ofString "wrong"), .int h, .int i, .int (L h i)]
theorem first_one {L : Nat → Nat → Int} {S : Sn} {h i h' i' : Nat} (a : FirstBad L S h i) (b : FirstBad L S h' i') : h = h' ∧ i = i' := by
  rcases Nat.lt_trichotomy h h' with e | e | e
  · exact absurd a.2 (b.1 h i (.inl e))
  · rcases Nat.lt_trichotomy i i' with f | f | f
    · exact absurd a.2 (b.1 h i (.inr ⟨e, f⟩))
    · exact ⟨e, f⟩
    · exact absurd b.2 (a.1 h' i' (.inr ⟨e.symm, f⟩))
  · exact absurd b.2 (a.1 h' i' (.inl e))
def Seen (L : Nat → Nat → Int) (S : Sn) (d : PyData) : Prop := (d = .tuple [.str (Str.ofString "agree")] ∧ NoBad L S) ∨ ∃ h i, d = wrD L h i ∧ FirstBad L S h i
theorem sAt_out {S : Sn} {h i : Nat} {m : Nat} (hS : ∀ r ∈ S, r.length = m) (hh : S.length ≤ h ∨ m ≤ i) : sAt S h i = none := by
  unfold sAt
  by_cases e : h < S.length
  · have hm := hS _ (List.getElem_mem e)
    simp only [List.getD_eq_getElem?_getD, List.getElem?_eq_getElem e, Option.getD_some]
    rw [List.getElem?_eq_none (by omega)]
    rfl
  · simp only [List.getD_eq_getElem?_getD, List.getElem?_eq_none (Nat.not_lt.mp e), Option.getD_none]
    simp
theorem bad_none {l : Int} : ¬ Bad l none := fun ⟨_, h, _⟩ => by cases h
theorem q_seen (ps : List Pd) (hp : POk ps) (lv rs : List Int) (hl : LOk ps lv) (hr : ∀ r ∈ rs, 0 ≤ r ∧ r ≤ 1000) (hn : rs.length ≤ 40) (S : Sn) (hS : S.length = rs.length) (hS2 : ∀ r ∈ S, r.length = ps.length) (hS3 : ∀ r ∈ S, ∀ o ∈ r, ∀ x, o = some x → 0 ≤ x ∧ x ≤ 1000000) :
    Zr (run FF T (k + 5)) 12 [.sh (.tuple (ps.map pD)), .sh (.tuple (nums lv)), .sh (.tuple (nums rs)), .sh (sD S)] fun r _ => ∃ d, r = .sh d ∧ Seen (lvAt (k + 2) ps lv rs) S d := by
  refine zr_of (fn := ⟨4, 10, false, b_judge_seen⟩) (by rfl) rfl ?_
  have hlen := hoursV_len (k := k + 2) ps lv rs
  have ok := (hoursV_ok (k := k + 2) ps hp lv rs hl hr).2
  have l2 : ps.length ≤ lim := by have := hp.2.1; simp [lim]; omega
  let A (x4 x5 x6 x7 x8 x9 : Sl) : PEnv := [.sh (.tuple (ps.map pD)), .sh (.tuple (nums lv)), .sh (.tuple (nums rs)), .sh (sD S), x4, x5, x6, x7, x8, x9]
  refine x_cut (fun ρ => ρ = A .un .un .un .un .un .un) (by simp [A, zr_some (q_ponds (k := k + 1) ps hp)]) ?_
  rintro _ rfl
  refine x_cut (fun ρ => ρ = A .un .un .un .un .un .un) (by simp [A, zr_some (q_begin (k := k) ps lv hp hl)]) ?_
  rintro _ rfl
  refine x_cut (fun ρ => ρ = A .un .un .un .un .un .un) (by simp [A, zr_some (q_rains (k := k + 1) rs hn hr)]) ?_
  rintro _ rfl
  refine x_cut (fun ρ => ρ = A .un .un .un .un .un .un) (by simp [A, sD, hS]) ?_
  rintro _ rfl
  refine x_cut (fun ρ => ∃ x4, ρ = A x4 .un .un .un .un .un ∧ free [x4] 0 = true) ?_ ?_
  · simp [A, sD]
    refine zf_ind (fun n ρ => ∃ x4, ρ = A x4 .un .un .un .un .un ∧ free [x4] 0 = true) ⟨.un, by simp [A, sD], rfl⟩ (fun n d ρ hd hI => ?_) (fun ρ hI => ?_)
    · obtain ⟨x4, rfl, f4⟩ := hI
      rw [List.getElem?_map] at hd
      obtain ⟨r, hr', rfl⟩ := Option.map_eq_some_iff.mp hd
      have hm := List.mem_of_getElem? hr'
      have h2 := hS2 r hm
      simp at f4
      simp [A, f4, h2, l2]
      refine zc_map (fun _ => .bool true) (fun d hd => ?_) ?_
      · obtain ⟨o, ho, rfl⟩ := List.mem_map.mp hd
        cases o with
        | none => simp [oD]
        | some x =>
          have h3 := hS3 r hm _ ho x rfl
          have h4 : x ≤ 1000000000000 := by omega
          simp [oD, zr_some (q_betw _ _ _), h3.1, h4]
      · simp [Function.comp_def]
    · obtain ⟨x4, rfl, f4⟩ := hI
      exact ⟨x4, rfl, f4⟩
  rintro _ ⟨x4, rfl, f4⟩
  simp [A, zr_some (q_hours (k := k + 2) ps hp lv rs hl hr hn)]
  refine zf_ind (fun n ρ => n ≤ rs.length ∧ (∀ h i, h < n → ¬ Bad (lvAt (k + 2) ps lv rs h i) (sAt S h i)) ∧ ∃ x5 x6 x7 x8 x9, ρ = A x4 x5 x6 x7 x8 x9 ∧ free [x5] 0 = true ∧ free [x6] 0 = true ∧ free [x7] 0 = true ∧ free [x8] 0 = true ∧ free [x9] 0 = true) ⟨by omega, by intro h i hj; omega, .un, .un, .un, .un, .un, rfl, rfl, rfl, rfl, rfl, rfl⟩ (fun n d ρ hd hI => ?_) (fun ρ hI => ?_)
  · obtain ⟨hn1, hno, x5, x6, x7, x8, x9, rfl, f5, f6, f7, f8, f9⟩ := hI
    obtain ⟨hn2, e, he, rfl⟩ := enum_get hd
    rw [List.getElem?_map] at he
    obtain ⟨h, hh, rfl⟩ := Option.map_eq_some_iff.mp he
    have hm := ok h (List.mem_of_getElem? hh)
    have hn3 : n < S.length := by
      have : n < rs.length := by simpa [hlen] using hn2
      omega
    have hSn : L2.atI (S.map fun r => PyData.tuple (r.map oD)) (n : Int) = some (.tuple (S[n].map oD)) := L2.atI_nat (by
      rw [List.getElem?_map, List.getElem?_eq_getElem hn3]
      rfl)
    have hSl : S[n].length = ps.length := hS2 _ (List.getElem_mem hn3)
    simp at f5 f6 f7 f8 f9
    refine ⟨A x4 (.sh (.int n)) (.sh (.tuple (nums h.1))) (.sh (.tuple (nums h.2))) x8 x9, by simp [A, hD, asgn.asgnL, f5, f6, f7], ?_⟩
    show Zx _ _ _ _ _ _
    simp [A, sD, hSn]
    refine zf_ind (fun i ρ => i ≤ ps.length ∧ (∀ j, j < i → ¬ Bad (lvAt (k + 2) ps lv rs n j) (sAt S n j)) ∧ ∃ x8 x9, ρ = A x4 (.sh (.int n)) (.sh (.tuple (nums h.1))) (.sh (.tuple (nums h.2))) x8 x9 ∧ free [x8] 0 = true ∧ free [x9] 0 = true) ⟨by omega, by intro j hj; omega, x8, x9, by simp [A, sD], by simpa using f8, by simpa using f9⟩ (fun i d ρ hd hI => ?_) (fun ρ hI => ?_)
    · obtain ⟨hi1, hno2, x8, x9, rfl, f8, f9⟩ := hI
      obtain ⟨hi2, e, he, rfl⟩ := enum_get hd
      rw [List.getElem?_map] at he
      obtain ⟨o, ho, rfl⟩ := Option.map_eq_some_iff.mp he
      have hi3 : i < ps.length := by simpa [hSl] using hi2
      have hlt : i < h.1.length := by rw [hm.1.1]; exact hi3
      have hat := atI_nums (List.getElem?_eq_getElem hlt)
      have hL : lvAt (k + 2) ps lv rs n i = h.1[i] := by
        unfold lvAt
        simp only [List.getD_eq_getElem?_getD, hh, Option.getD_some, List.getElem?_eq_getElem hlt]
      have hsA : sAt S n i = o := by
        unfold sAt
        simp only [List.getD_eq_getElem?_getD, List.getElem?_eq_getElem hn3, Option.getD_some, ho]
      simp at f8 f9
      cases o with
      | none =>
        simp [A, f8, f9, oD]
        refine ⟨by omega, fun j hj => ?_, _, _, ⟨rfl, rfl⟩, rfl, rfl⟩
        by_cases e : j = i
        · subst e
          rw [hsA]
          exact bad_none
        · exact hno2 j (by omega)
      | some x =>
        by_cases hx : x = h.1[i]
        · simp [A, f8, f9, oD, hat, hx]
          refine ⟨by omega, fun j hj => ?_, _, _, ⟨rfl, rfl⟩, rfl, rfl⟩
          by_cases e : j = i
          · subst e
            rw [hsA, hL]
            rintro ⟨y, e1, e2⟩
            cases e1
            exact e2 hx
          · exact hno2 j (by omega)
        · have l4 : 4 ≤ lim := by decide
          simp [A, f8, f9, oD, hat, hx, l4]
          refine .inr ⟨n, i, by simp [wrD, hL], fun h' i' hlt => ?_, ?_⟩
          · rcases hlt with hlt | ⟨rfl, hlt⟩
            · exact hno h' i' hlt
            · exact hno2 i' hlt
          · rw [hsA, hL]
            exact ⟨x, rfl, hx⟩
    · obtain ⟨hi1, hno2, x8, x9, rfl, f8, f9⟩ := hI
      rw [enumD_len, List.length_map, hSl] at hno2
      refine ⟨by omega, fun h' i' hlt => ?_, .sh (.int n), _, _, x8, x9, rfl, rfl, rfl, rfl, f8, f9⟩
      by_cases e : h' = n
      · subst e
        by_cases e2 : i' < ps.length
        · exact hno2 i' e2
        · rw [sAt_out hS2 (.inr (by omega))]
          exact bad_none
      · exact hno h' i' (by omega)
  · obtain ⟨hn1, hno, x5, x6, x7, x8, x9, rfl, f5, f6, f7, f8, f9⟩ := hI
    rw [enumD_len, List.length_map, hlen] at hno
    have l1 : 1 ≤ lim := by decide
    simp [A, l1]
    refine .inl ⟨rfl, fun h i => ?_⟩
    by_cases e : h < rs.length
    · exact hno h i e
    · rw [sAt_out hS2 (.inl (by omega))]
      exact bad_none
end
end Gk39
namespace Gk39
open PySem L2 PP PySem.Spec PyProof.Rows
section
variable {k : Nat}
theorem q_draw {c : Nat} {l : List PyData} {m : Int} (hg : Good c l) (hc : c < 1000000) (h0 : 0 < m) (hm : m < 1000000000) : Zr (run FF T (k + 1)) 14 [.io l, .sh (.int m)] fun r o => ∃ x l', r = .sh (.int x) ∧ o = some l' ∧ 0 ≤ x ∧ x < m ∧ Good (c + 1) l' := draw_ok (by rfl) hg hc h0 hm
theorem q_pick {c : Nat} {l m : List PyData} (hg : Good c l) (hc : c < 1000000) (h0 : 0 < m.length) (hm : m.length < 1000000) : Zr (run FF T (k + 2)) 15 [.io l, .sh (.list m)] fun r o => ∃ x l', x ∈ m ∧ r = .sh x ∧ o = some l' ∧ Good (c + 1) l' := pick_ok (i := 14) (by rfl) (by rfl) hg hc h0 hm
abbrev E (l : List PyData) (s1 s2 s3 s4 s5 s6 s7 s8 s9 s10 s11 s12 s13 s14 s15 s16 : Sl) : PEnv := [.io l, s1, s2, s3, s4, s5, s6, s7, s8, s9, s10, s11, s12, s13, s14, s15, s16, .un]
def fr (s : Sl) : Prop := free [s] 0 = true ∧ plainSl [s] 0 = true
theorem fr_un : fr .un := ⟨rfl, rfl⟩
theorem fr_sh (d : PyData) : fr (.sh d) := ⟨rfl, rfl⟩
def sRows : CS := (.for (.nm 1) (.rng (.k (.int 0)) (.v 5)) (.seq (.asg (.nm 7) (.callm 15 0 (.cons (.op2 .add (.lst (.cons (.k .none) .nil)) (.op2 .add (.rng (.op2v .add 1 (.k (.int 1))) (.v 5)) (.lst .nil))) .nil)))
  (.seq (.app 6 (.tup (.cons (.callm 14 0 (.cons (.k (.int 5)) .nil)) (.cons (.op2 .add (.k (.int 1)) (.callm 14 0 (.cons (.k (.int 12)) .nil))) (.cons (.v 7) .nil)))))
  .pass)))
theorem st_rows {c : Nat} {l : List PyData} (hg : Good c l) (hc : c + 20 < 1000000) (many : Nat) (hm : 1 ≤ many) (hm4 : many ≤ 4) {N : PEnv → Prop} {R : Sl → PEnv → Prop}
    (fin : ∀ l' (ps : List Pd) s1 s7, Good (c + 12) l' → POk ps → ps.length = many → (∀ p ∈ ps, p.2.1 ≤ 12) → fr s1 → fr s7 → N (E l' s1 .un .un .un (.sh (.int many)) (.ow (ps.map pD)) s7 .un .un .un .un .un .un .un .un .un)) :
    Zx (run FF T (k + 5)) FF sRows (E l .un .un .un .un (.sh (.int many)) (.ow []) .un .un .un .un .un .un .un .un .un .un) N R := by
  have rg : rgOk 0 = true ∧ rgOk (many : Int) = true := by
    constructor
    · decide
    · simp [rgOk]; omega
  have lm3 : 3 ≤ lim := by decide
  have lm1 : 1 ≤ lim := by decide
  simp [sRows, E, rg]
  refine zf_ind (fun n ρ => n ≤ many ∧ ∃ l' ps s1 s7, ρ = E l' s1 .un .un .un (.sh (.int many)) (.ow (ps.map pD)) s7 .un .un .un .un .un .un .un .un .un ∧ Good (c + 3 * n) l' ∧ ps.length = n ∧ (∀ (i : Nat) (p : Pd), ps[i]? = some p → 0 ≤ p.1 ∧ p.1 ≤ 4 ∧ 1 ≤ p.2.1 ∧ p.2.1 ≤ 12 ∧ ∀ j, p.2.2 = some j → i < j ∧ j < many) ∧ fr s1 ∧ fr s7)
    ⟨by omega, l, [], .un, .un, rfl, hg, rfl, by simp, fr_un, fr_un⟩ (fun n d ρ hd hI => ?_) (fun ρ hI => ?_)
  · obtain ⟨hn, l', ps, s1, s7, rfl, hg', hl, hps, f1, f7⟩ := hI
    obtain ⟨hn2, rfl⟩ := mem_rng hd
    have f1' := f1.1
    have f7' := f7.1
    have rg2 : rgOk ((n : Int) + 1) = true := by simp [rgOk]; omega
    have rl : ((many : Int) - (n + 1)).toNat ≤ 999999 := by omega
    simp at f1' f7'
    simp [E, f1', f7', rg, rg2, lim, rl]
    refine ⟨by omega, by omega, zr_mono (q_pick hg' (by omega) (by simp) (by simp; omega)) ?_⟩
    rintro _ _ ⟨x, l2, hx, rfl, rfl, hg2⟩
    simp [f7']
    refine zr_mono (q_draw hg2 (by omega) (by omega) (by omega)) ?_
    rintro _ _ ⟨a, l3, rfl, rfl, a1, a2, hg3⟩
    simp
    refine zr_mono (q_draw hg3 (by omega) (by omega) (by omega)) ?_
    rintro _ _ ⟨r, l4, rfl, rfl, b1, b2, hg4⟩
    have hb : ∃ b : Option Nat, x = bD b ∧ ∀ j, b = some j → n < j ∧ j < many := by
      rcases List.mem_cons.mp hx with e | e
      · exact ⟨none, e, by simp⟩
      · obtain ⟨i, hi⟩ := List.getElem?_of_mem e
        obtain ⟨h1, h2⟩ := mem_rng (by simpa using hi)
        refine ⟨some (n + 1 + i), ?_, fun j hj => ?_⟩
        · rw [h2]
          simp [bD]
        · cases hj
          omega
    obtain ⟨b, rfl, hb2⟩ := hb
    have hnl : n < 1000000 := by omega
    simp [lim, hl, is_map, hnl]
    refine ⟨by omega, l4, ps ++ [(a, 1 + r, b)], _, _, ⟨rfl, rfl, by simp [pD], rfl⟩, by rw [show c + 3 * (n + 1) = c + 3 * n + 1 + 1 + 1 by omega]; exact hg4, by simp [hl], fun i p1 p2 p3 hi => ?_, fr_sh _, fr_sh _⟩
    by_cases e : i < n
    · rw [List.getElem?_append_left (by omega)] at hi
      exact hps i _ hi
    · have hi2 := (List.getElem?_eq_some_iff.mp hi).1
      simp at hi2
      have e2 : i = n := by omega
      subst e2
      rw [List.getElem?_append_right (by omega)] at hi
      simp [hl] at hi
      obtain ⟨rfl, rfl, rfl⟩ := hi
      exact ⟨a1, by omega, by omega, by omega, hb2⟩
  · obtain ⟨hn, l', ps, s1, s7, rfl, hg', hl, hps, f1, f7⟩ := hI
    simp at hl hg'
    refine fin l' ps s1 s7 (hg'.mono (by omega)) ⟨by omega, by omega, fun i p hp => ?_⟩ hl (fun p hp => ?_) f1 f7
    · have := hps i p hp
      exact ⟨this.1, by omega, this.2.2.1, by omega, fun j hj => by have := this.2.2.2.2 j hj; omega⟩
    · obtain ⟨i, hi⟩ := List.getElem?_of_mem hp
      exact (hps i p hi).2.2.2.1
def sRains : CS := (.asg (.tp (.cons (.nm 8) (.cons (.nm 9) .nil))) (.tup (.cons (.op1v .tuple 6) (.cons (.op1 .tuple (.comp (.rng (.k (.int 0)) (.callm 14 0 (.cons (.k (.int 6)) .nil))) [1] (.nm 1) (.k (.bool true)) (.callm 14 0 (.cons (.k (.int 6)) .nil)))) .nil))))
theorem st_rains {c : Nat} {l : List PyData} (hg : Good c l) (hc : c + 20 < 1000000) (m : PyData) (pl : List PyData) (s1 s7 : Sl) (f1 : fr s1) {N : PEnv → Prop} {R : Sl → PEnv → Prop}
    (fin : ∀ l' (rs : List Int) s1, Good (c + 6) l' → rs.length ≤ 5 → (∀ r ∈ rs, 0 ≤ r ∧ r ≤ 1000) → fr s1 → N (E l' s1 .un .un .un (.sh m) (.ow pl) s7 (.sh (.tuple pl)) (.sh (.tuple (nums rs))) .un .un .un .un .un .un .un)) :
    Zx (run FF T (k + 5)) FF sRains (E l s1 .un .un .un (.sh m) (.ow pl) s7 .un .un .un .un .un .un .un .un .un) N R := by
  have lm2 : 2 ≤ lim := by decide
  simp [sRains, E]
  refine zr_mono (q_draw hg (by omega) (by omega) (by omega)) ?_
  rintro _ _ ⟨z, l2, rfl, rfl, a1, a2, hg2⟩
  obtain ⟨nn, rfl⟩ := Int.eq_ofNat_of_zero_le a1
  have rg : rgOk 0 = true ∧ rgOk (nn : Int) = true := by
    constructor
    · decide
    · simp [rgOk]; omega
  have nl : nn ≤ lim := by simp [lim]; omega
  have f1' := f1.2
  simp at f1'
  simp [rg, nl, f1']
  refine zc_ind (fun n ρ acc => n ≤ nn ∧ ∃ l' rs, ρ = E l' .un .un .un .un (.sh m) (.ow pl) s7 .un .un .un .un .un .un .un .un .un ∧ acc = nums rs ∧ rs.length = n ∧ (∀ r ∈ rs, 0 ≤ r ∧ r ≤ 1000) ∧ Good (c + 1 + n) l') ⟨by omega, l2, [], rfl, rfl, rfl, by simp, hg2⟩ (fun n d ρ acc hd hI => ?_) (fun ρ acc hI => ?_)
  · obtain ⟨hn, l', rs, rfl, rfl, e1, e2, hg'⟩ := hI
    obtain ⟨hn2, rfl⟩ := mem_rng hd
    simp [E]
    refine zr_mono (q_draw hg' (by omega) (by omega) (by omega)) ?_
    rintro _ _ ⟨x, l3, rfl, rfl, b1, b2, hg3⟩
    simp
    refine ⟨by omega, rs ++ [x], by simp, by simp [e1], fun r hr => ?_, hg3⟩
    rcases List.mem_append.mp hr with e | e
    · exact e2 r e
    · simp at e
      omega
  · obtain ⟨hn, l', rs, rfl, rfl, e1, e2, hg'⟩ := hI
    simp [E, lm2]
    simp at e1 hg'
    exact fin l' rs s1 (hg'.mono (by omega)) (by omega) e2 f1
def sBegin : CS := (.asg (.nm 2) (.op1 .tuple (.comp (.v 8) [17] (.nm 17) (.k (.bool true)) (.callm 14 0 (.cons (.op2 .add (.op2v .ix 17 (.k (.int 1))) (.k (.int 1))) .nil)))))
theorem st_begin {c : Nat} {l : List PyData} (hg : Good c l) (hc : c + 20 < 1000000) (m : PyData) (pl : List PyData) (ps : List Pd) (hp : POk ps) (rs : PyData) (s1 s7 : Sl) {N : PEnv → Prop} {R : Sl → PEnv → Prop}
    (fin : ∀ l' (lv : List Int), Good (c + 10) l' → LOk ps lv → N (E l' s1 (.sh (.tuple (nums lv))) .un .un (.sh m) (.ow pl) s7 (.sh (.tuple (ps.map pD))) (.sh rs) .un .un .un .un .un .un .un)) :
    Zx (run FF T (k + 5)) FF sBegin (E l s1 .un .un .un (.sh m) (.ow pl) s7 (.sh (.tuple (ps.map pD))) (.sh rs) .un .un .un .un .un .un .un) N R := by
  obtain ⟨p1, p2, p3⟩ := hp
  have nl : ps.length ≤ lim := by simp [lim]; omega
  simp [sBegin, E, nl]
  refine zc_ind (fun n ρ acc => n ≤ ps.length ∧ ∃ l' lv, ρ = E l' s1 .un .un .un (.sh m) (.ow pl) s7 (.sh (.tuple (ps.map pD))) (.sh rs) .un .un .un .un .un .un .un ∧ acc = nums lv ∧ lv.length = n ∧ (∀ (i : Nat) (p : Pd) (x : Int), ps[i]? = some p → lv[i]? = some x → 0 ≤ x ∧ x ≤ p.2.1) ∧ Good (c + n) l') ⟨by omega, l, [], rfl, rfl, rfl, by simp, hg⟩ (fun n d ρ acc hd hI => ?_) (fun ρ acc hI => ?_)
  · obtain ⟨hn, l', lv, rfl, rfl, e1, e2, hg'⟩ := hI
    rw [List.getElem?_map] at hd
    obtain ⟨⟨a, r, b⟩, hq, rfl⟩ := Option.map_eq_some_iff.mp hd
    have hn2 := (List.getElem?_eq_some_iff.mp hq).1
    obtain ⟨g1, g2, g3, g4, g5⟩ := p3 n _ hq
    have g3' : 1 ≤ r := g3
    have g4' : r ≤ 1000 := g4
    simp [E, pD]
    refine zr_mono (q_draw hg' (by omega) (by omega) (by omega)) ?_
    rintro _ _ ⟨x, l3, rfl, rfl, b1, b2, hg3⟩
    simp
    refine ⟨by omega, lv ++ [x], by simp, by simp [e1], fun i p1' p2' p3' y hi hy => ?_, hg3⟩
    by_cases e : i < n
    · rw [List.getElem?_append_left (by omega)] at hy
      exact e2 i (p1', p2', p3') y hi hy
    · have hi2 := (List.getElem?_eq_some_iff.mp hy).1
      simp at hi2
      have e3 : i = n := by omega
      subst e3
      rw [hq] at hi
      cases hi
      rw [List.getElem?_append_right (by omega)] at hy
      simp [e1] at hy
      subst hy
      exact ⟨b1, by omega⟩
  · obtain ⟨hn, l', lv, rfl, rfl, e1, e2, hg'⟩ := hI
    simp [E]
    simp at e1 hg'
    exact fin l' lv (hg'.mono (by omega)) ⟨e1, e2⟩
end
end Gk39
namespace Gk39
open PySem L2 PP PySem.Spec PyProof.Rows
section
variable {k : Nat}
theorem spV_take (ps : List Pd) (lv rs : List Int) (i j : Nat) (hj : j < rs.length) : spV k ps lv (rs.take (j + 1)) i = spV k ps lv (rs.take j) i + spAt k ps lv rs j i := by
  have hl := hoursV_len (k := k) ps lv rs
  have hlt : j < (hoursV k ps lv rs).length := by omega
  unfold spV spAt
  have e : (hoursV k ps lv rs).take (j + 1) = (hoursV k ps lv rs).take j ++ [(hoursV k ps lv rs)[j]] := by
    rw [List.take_add_one, List.getElem?_eq_getElem hlt]
    rfl
  rw [hoursV_take, hoursV_take, e, List.map_append, List.sum_append, List.getD_eq_getElem?_getD (i := j), List.getElem?_eq_getElem hlt]
  simp
theorem spV_zero (ps : List Pd) (lv rs : List Int) (i : Nat) : spV k ps lv (rs.take 0) i = 0 := by
  simp [spV, hoursV]
def Ov (P : Nat → Prop) (n : Nat) (ov : List PyData) : Prop := (ov = [] ∧ ∀ j, j < n → ¬ P j) ∨ ∃ (a : Nat) (rest : List PyData), ov = .int a :: rest ∧ a < n ∧ (∀ j, j < a → ¬ P j) ∧ P a
def sSpill : CS := (.for (.nm 1) (.rng (.k (.int 0)) (.v 5)) (.seq (.asg (.nm 10) (.op2 .add (.lst (.cons (.k (.int 0)) .nil)) (.comp (.rng (.k (.int 0)) (.op1v .len 9)) [4] (.nm 4) (.k (.bool true)) (.op2w .ix (.call 10 (.cons (.v 8) (.cons (.v 2) (.cons (.slv 9 (.k .none) (.op2v .add 4 (.k (.int 1)))) .nil)))) 1))))
  (.seq (.asg (.nm 11) (.comp (.rng (.k (.int 0)) (.op1v .len 9)) [4] (.nm 4) (.op2 .gt (.op2v .ix 10 (.op2v .add 4 (.k (.int 1)))) (.op2x .ix 10 4)) (.v 4)))
  (.seq (.ite (.op2 .ne (.call 11 (.cons (.v 8) (.cons (.v 2) (.cons (.v 9) (.cons (.v 1) .nil))))) (.ite (.op1v .truth 11) (.op2v .ix 11 (.k (.int 0))) (.k .none))) (.seq (.ret (.k (.bool false)))
  .pass) .pass)
  .pass))))
theorem st_spill {l : List PyData} (ps : List Pd) (hp : POk ps) (lv rs : List Int) (hl : LOk ps lv) (hr : ∀ r ∈ rs, 0 ≤ r ∧ r ≤ 1000) (hn : rs.length ≤ 40) (L : PyData) (pl : List PyData) (s1 s7 : Sl) (f1 : fr s1) {N : PEnv → Prop} {R : Sl → PEnv → Prop}
    (fin : ∀ s1 s10 s11, fr s1 → free [s10] 0 = true → free [s11] 0 = true → N (E l s1 (.sh (.tuple (nums lv))) (.sh L) .un (.sh (.int ps.length)) (.ow pl) s7 (.sh (.tuple (ps.map pD))) (.sh (.tuple (nums rs))) s10 s11 .un .un .un .un .un)) :
    Zx (run FF T (k + 5)) FF sSpill (E l s1 (.sh (.tuple (nums lv))) (.sh L) .un (.sh (.int ps.length)) (.ow pl) s7 (.sh (.tuple (ps.map pD))) (.sh (.tuple (nums rs))) .un .un .un .un .un .un .un) N R := by
  have rg : rgOk 0 = true ∧ rgOk (ps.length : Int) = true ∧ rgOk (rs.length : Int) = true := by
    have := hp.2.1
    refine ⟨by decide, ?_, ?_⟩ <;> simp [rgOk] <;> omega
  have nl : rs.length ≤ lim := by simp [lim]; omega
  have nl2 : rs.length ≤ 999999 := by omega
  have lm1 : 1 ≤ lim := by decide
  let G (s1 s4 s10 s11 : Sl) : PEnv := E l s1 (.sh (.tuple (nums lv))) (.sh L) s4 (.sh (.int ps.length)) (.ow pl) s7 (.sh (.tuple (ps.map pD))) (.sh (.tuple (nums rs))) s10 s11 .un .un .un .un .un
  simp [sSpill, E, rg]
  refine zf_ind (fun n ρ => ∃ s1 s10 s11, ρ = G s1 .un s10 s11 ∧ fr s1 ∧ free [s10] 0 = true ∧ free [s11] 0 = true) ⟨s1, .un, .un, rfl, f1, rfl, rfl⟩ (fun n d ρ hd hI => ?_) (fun ρ hI => ?_)
  · obtain ⟨s1, s10, s11, rfl, f1, f10, f11⟩ := hI
    obtain ⟨hn2, rfl⟩ := mem_rng hd
    have f1' := f1.1
    simp at f1' f10 f11
    refine ⟨G (.sh (.int n)) .un s10 s11, by simp [G, E, f1'], ?_⟩
    -- spilled
    let SP : List Int := (List.range (rs.length + 1)).map fun j => spV (k + 2) ps lv (rs.take j) n
    refine x_cut (cl := run FF T (k + 5)) (F := FF) (fun ρ => ρ = G (.sh (.int n)) .un (.ow (nums SP)) s11) ?_ ?_
    · simp [G, E, rg, nl, lm1]
      refine zc_ind (fun j ρ acc => j ≤ rs.length ∧ ρ = G (.sh (.int n)) .un s10 s11 ∧ acc = nums ((List.range j).map fun j => spV (k + 2) ps lv (rs.take (j + 1)) n)) ⟨by omega, rfl, rfl⟩ (fun j d ρ acc hd hI => ?_) (fun ρ acc hI => ?_)
      · obtain ⟨hj, rfl, rfl⟩ := hI
        obtain ⟨hj2, rfl⟩ := mem_rng hd
        have c1 : PP.cutD (nums rs) none (some ((j : Int) + 1)) = nums (rs.take (j + 1)) := by
          rw [cut_to (by omega)]
          have : ((j : Int) + 1).toNat = j + 1 := by omega
          rw [this]
          simp
        have qs := q_spilled (k := k) ps hp lv (rs.take (j + 1)) hl (fun r hr' => hr r (List.mem_of_mem_take hr')) (by simp; omega)
        have hat : L2.atI ((List.range ps.length).map fun i => PyData.int (spV (k + 2) ps lv (rs.take (j + 1)) i)) (n : Int) = some (.int (spV (k + 2) ps lv (rs.take (j + 1)) n)) := L2.atI_nat (by simp [hn2])
        have hrow : nums ((List.range j).map fun j => spV (k + 2) ps lv (rs.take (j + 1)) n) ++ [.int (spV (k + 2) ps lv (rs.take (j + 1)) n)] = nums ((List.range (j + 1)).map fun j => spV (k + 2) ps lv (rs.take (j + 1)) n) := by
          rw [List.range_succ]
          simp
        simp [G, E]
        rw [c1, zr_some qs]
        simp [hat]
        exact ⟨by omega, by simpa using hrow⟩
      · obtain ⟨hj, rfl, rfl⟩ := hI
        have hSP : (PyData.int 0 :: nums ((List.range rs.length).map fun j => spV (k + 2) ps lv (rs.take (j + 1)) n)) = nums SP := by
          simp only [SP]
          rw [List.range_succ_eq_map]
          simp only [List.map_cons, spV_zero, nums, List.map_map]
          rfl
        simp [G, E, f10, lim, nl2]
        exact ⟨by omega, by rw [← hSP]; simp⟩
    rintro _ rfl
    have hspat : ∀ j, j ≤ rs.length → L2.atI (nums SP) (j : Int) = some (.int (spV (k + 2) ps lv (rs.take j) n)) := fun j hj => atI_nums (by
      simp only [SP]
      rw [List.getElem?_map, List.getElem?_range (by omega)]
      rfl)
    -- over
    refine x_cut (cl := run FF T (k + 5)) (F := FF) (fun ρ => ∃ ov, ρ = G (.sh (.int n)) .un (.ow (nums SP)) (.ow ov) ∧ Ov (fun j => 0 < spAt (k + 2) ps lv rs j n) rs.length ov) ?_ ?_
    · simp [G, E, rg, nl]
      refine zc_ind (fun j ρ acc => j ≤ rs.length ∧ ρ = G (.sh (.int n)) .un (.ow (nums SP)) s11 ∧ Ov (fun j => 0 < spAt (k + 2) ps lv rs j n) j acc) ⟨by omega, rfl, .inl ⟨rfl, by intro j hj; omega⟩⟩ (fun j d ρ acc hd hI => ?_) (fun ρ acc hI => ?_)
      · obtain ⟨hj, rfl, ho⟩ := hI
        obtain ⟨hj2, rfl⟩ := mem_rng hd
        have a1 := hspat j (by omega)
        have a2 := hspat (j + 1) (by omega)
        have a3 := spV_take (k := k + 2) ps lv rs n j hj2
        have a2' : L2.atI (nums SP) ((j : Int) + 1) = some (.int (spV (k + 2) ps lv (rs.take (j + 1)) n)) := by
          have : ((j : Int) + 1) = ((j + 1 : Nat) : Int) := by omega
          rw [this]
          exact a2
        by_cases hpos : 0 < spAt (k + 2) ps lv rs j n
        · have hlt : spV (k + 2) ps lv (rs.take j) n < spV (k + 2) ps lv (rs.take (j + 1)) n := by omega
          simp [G, E, a1, a2', hlt]
          refine ⟨by omega, ?_⟩
          rcases ho with ⟨rfl, ho⟩ | ⟨a, rest, rfl, b1, b2, b3⟩
          · exact .inr ⟨j, [], rfl, by omega, ho, hpos⟩
          · exact .inr ⟨a, _, rfl, by omega, b2, b3⟩
        · have hlt : ¬ spV (k + 2) ps lv (rs.take j) n < spV (k + 2) ps lv (rs.take (j + 1)) n := by omega
          simp [G, E, a1, a2', hlt]
          refine ⟨by omega, ?_⟩
          rcases ho with ⟨rfl, ho⟩ | ⟨a, rest, rfl, b1, b2, b3⟩
          · refine .inl ⟨rfl, fun i hi => ?_⟩
            by_cases e : i = j
            · subst e
              exact hpos
            · exact ho i (by omega)
          · exact .inr ⟨a, _, rfl, by omega, b2, b3⟩
      · obtain ⟨hj, rfl, ho⟩ := hI
        simp at ho
        simp [G, E, f11]
        exact ho
    rintro _ ⟨ov, rfl, ho⟩
    obtain ⟨r0, o0, e0, d, rfl, hf⟩ := q_first (k := k) ps hp lv rs hl hr hn n hn2
    have hd : (ov = [] ∧ d = .none) ∨ ∃ a rest, ov = .int a :: rest ∧ d = .int a := by
      rcases ho with ⟨rfl, ho⟩ | ⟨a, rest, rfl, b1, b2, b3⟩
      · rcases hf with ⟨a, c1, c2, c3, rfl⟩ | ⟨c1, rfl⟩
        · exact absurd c3 (ho a c1)
        · exact .inl ⟨rfl, rfl⟩
      · rcases hf with ⟨a', c1, c2, c3, rfl⟩ | ⟨c1, rfl⟩
        · have : a = a' := by
            rcases Nat.lt_trichotomy a a' with e | e | e
            · exact absurd b3 (c2 a e)
            · exact e
            · exact absurd c3 (b2 a' e)
          exact .inr ⟨a, rest, rfl, by rw [this]⟩
        · exact absurd b3 (c1 a b1)
    rcases hd with ⟨rfl, rfl⟩ | ⟨a, rest, rfl, rfl⟩
    · simp [G, E, zr_some e0, o_ne, lev, PyData.eqv]
      exact ⟨_, _, _, ⟨rfl, rfl, rfl⟩, fr_sh _, rfl, rfl⟩
    · simp [G, E, zr_some e0, o_ne, lev, PyData.eqv]
      exact ⟨_, _, _, ⟨rfl, rfl, rfl⟩, fr_sh _, rfl, rfl⟩
  · obtain ⟨s1, s10, s11, rfl, f1, f10, f11⟩ := hI
    exact fin s1 s10 s11 f1 f10 f11
end
end Gk39
namespace Gk39
open PySem L2 PP PySem.Spec PyProof.Rows
section
variable {k : Nat}
theorem sAt_push {S : Sn} {row : List (Option Int)} {o : Option Int} {h i : Nat} : sAt (S ++ [row ++ [o]]) h i = if h = S.length ∧ i = row.length then o else sAt (S ++ [row]) h i := by
  unfold sAt
  simp only [List.getD_eq_getElem?_getD]
  by_cases e : h < S.length
  · rw [List.getElem?_append_left e, List.getElem?_append_left e, if_neg (by omega)]
  · by_cases e2 : h = S.length
    · subst e2
      simp only [List.getElem?_concat_length, Option.getD_some, true_and]
      by_cases e3 : i = row.length
      · subst e3
        simp
      · rw [if_neg e3]
        by_cases e4 : i < row.length
        · rw [List.getElem?_append_left e4]
        · have n1 : (row ++ [o])[i]? = none := List.getElem?_eq_none (by simp; omega)
          have n2 : row[i]? = none := List.getElem?_eq_none (by omega)
          rw [n1, n2]
    · have n1 : (S ++ [row ++ [o]])[h]? = none := List.getElem?_eq_none (by simp; omega)
      have n2 : (S ++ [row])[h]? = none := List.getElem?_eq_none (by simp; omega)
      rw [n1, n2, if_neg (by omega)]
theorem sAt_nil {S : Sn} {h i : Nat} : sAt (S ++ [[]]) h i = sAt S h i := by
  unfold sAt
  simp only [List.getD_eq_getElem?_getD]
  by_cases e : h < S.length
  · rw [List.getElem?_append_left e]
  · by_cases e2 : h = S.length
    · subst e2
      simp
    · have n1 : (S ++ [([] : List (Option Int))])[h]? = none := List.getElem?_eq_none (by simp; omega)
      have n2 : S[h]? = none := List.getElem?_eq_none (by omega)
      rw [n1, n2]
def Wv (L : Nat → Nat → Int) (S : Sn) (wv : PyData) : Prop := (wv = .none ∧ NoBad L S) ∨ ∃ h i, wv = wrD L h i ∧ FirstBad L S h i
theorem Wv.congr {L : Nat → Nat → Int} {S S' : Sn} {wv : PyData} (h : ∀ a b, sAt S a b = sAt S' a b) (w : Wv L S wv) : Wv L S' wv := by
  rcases w with ⟨e, n⟩ | ⟨a, b, e, f1, f2⟩
  · exact .inl ⟨e, fun a b => by rw [← h]; exact n a b⟩
  · exact .inr ⟨a, b, e, fun c d q => by rw [← h]; exact f1 c d q, by rw [← h]; exact f2⟩
theorem sAt_in {S : Sn} {row : List (Option Int)} {h i : Nat} (q : sAt (S ++ [row]) h i ≠ none) : h < S.length ∨ (h = S.length ∧ i < row.length) := by
  by_cases e : h < S.length
  · exact .inl e
  · by_cases e2 : h = S.length
    · subst e2
      refine .inr ⟨rfl, ?_⟩
      by_cases e3 : i < row.length
      · exact e3
      · exfalso
        apply q
        unfold sAt
        have n2 : row[i]? = none := List.getElem?_eq_none (by omega)
        simp [List.getD_eq_getElem?_getD, n2]
    · exfalso
      apply q
      unfold sAt
      simp only [List.getD_eq_getElem?_getD]
      have n1 : (S ++ [row])[h]? = none := List.getElem?_eq_none (by simp; omega)
      rw [n1]
      simp
/-- one more told -/
theorem Wv.push {L : Nat → Nat → Int} {S : Sn} {row : List (Option Int)} {o : Option Int} {wv : PyData} (w : Wv L (S ++ [row]) wv) :
    (¬ Bad (L S.length row.length) o → Wv L (S ++ [row ++ [o]]) wv) ∧ (Bad (L S.length row.length) o → wv = .none → Wv L (S ++ [row ++ [o]]) (wrD L S.length row.length)) ∧ (wv ≠ .none → Wv L (S ++ [row ++ [o]]) wv) := by
  have keep : ∀ h0 i0, FirstBad L (S ++ [row]) h0 i0 → FirstBad L (S ++ [row ++ [o]]) h0 i0 := fun h0 i0 ⟨f1, f2⟩ => by
    have hin := sAt_in (S := S) (row := row) (h := h0) (i := i0) (fun z => by rw [z] at f2; exact bad_none f2)
    refine ⟨fun h' i' q => ?_, ?_⟩
    · rw [sAt_push, if_neg (by omega)]
      exact f1 h' i' q
    · rw [sAt_push, if_neg (by omega)]
      exact f2
  rcases w with ⟨rfl, n⟩ | ⟨a, b, rfl, f⟩
  · refine ⟨fun nb => .inl ⟨rfl, fun h i => ?_⟩, fun b _ => .inr ⟨_, _, rfl, fun h' i' q => ?_, ?_⟩, fun z => absurd rfl z⟩
    · rw [sAt_push]
      split
      · rename_i e
        rw [e.1, e.2]
        exact nb
      · exact n h i
    · rw [sAt_push, if_neg (by omega)]
      exact n h' i'
    · rw [sAt_push, if_pos ⟨rfl, rfl⟩]
      exact b
  · exact ⟨fun _ => .inr ⟨a, b, rfl, keep a b f⟩, fun _ z => by simp [wrD] at z, fun _ => .inr ⟨a, b, rfl, keep a b f⟩⟩
def sSeenRow : CS := (.for (.nm 1) (.rng (.k (.int 0)) (.v 5)) (.seq (.asg (.nm 15) (.callm 15 0 (.cons (.lst (.cons (.k (.int 0)) (.cons (.k (.int 0)) (.cons (.k (.int 0)) (.cons (.k (.int 0)) (.cons (.k (.int 1)) .nil)))))) .nil)))
  (.seq (.asg (.nm 16) (.ite (.op2 .eq (.callm 14 0 (.cons (.k (.int 3)) .nil)) (.k (.int 0))) (.k .none) (.op2w .add (.op2w .ix (.op2x .ix 3 4) 1) 15)))
  (.seq (.app 14 (.v 16))
  (.seq (.asg (.nm 13) (.ite (.and (.op2v .isnt 16 (.k .none)) (.and (.op1v .truth 15) (.op2v .is 13 (.k .none)))) (.tup (.cons (.k (.str "wrong")) (.cons (.v 4) (.cons (.v 1) (.cons (.op2w .ix (.op2x .ix 3 4) 1) .nil))))) (.v 13)))
  .pass)))))
theorem st_row {c : Nat} {l : List PyData} (hg : Good c l) (hc : c + 20 < 1000000) (many : Nat) (hm4 : many ≤ 10) (H : Nat) (L : Nat → Nat → Int) (Ls : List PyData) (hL : ∃ r : List Int, L2.atI Ls (H : Int) = some (.tuple (nums r)) ∧ r.length = many ∧ ∀ i, i < many → r.getD i 0 = L H i) (hL2 : ∀ i, i < many → 0 ≤ L H i ∧ L H i ≤ 1000)
    (s1 s2 s7 s8 s9 s10 s11 s15 s16 : Sl) (f1 : fr s1) (f15 : fr s15) (f16 : fr s16) (S : Sn) (hS : S.length = H) (pl : List PyData) (wv : PyData) (hw : Wv L S wv) {N : PEnv → Prop} {R : Sl → PEnv → Prop}
    (fin : ∀ l' (row : List (Option Int)) wv s1 s15 s16, Good (c + 2 * many) l' → row.length = many → (∀ o ∈ row, ∀ x, o = some x → 0 ≤ x ∧ x ≤ 1000000) → Wv L (S ++ [row]) wv → fr s1 → fr s15 → fr s16 → N (E l' s1 s2 (.sh (.tuple Ls)) (.sh (.int H)) (.sh (.int many)) (.ow pl) s7 s8 s9 s10 s11 (.ow (S.map fun r => .tuple (r.map oD))) (.sh wv) (.ow (row.map oD)) s15 s16)) :
    Zx (run FF T (k + 5)) FF sSeenRow (E l s1 s2 (.sh (.tuple Ls)) (.sh (.int H)) (.sh (.int many)) (.ow pl) s7 s8 s9 s10 s11 (.ow (S.map fun r => .tuple (r.map oD))) (.sh wv) (.ow []) s15 s16) N R := by
  have rg : rgOk 0 = true ∧ rgOk (many : Int) = true := by
    constructor
    · decide
    · simp [rgOk]; omega
  have lm4 : 4 ≤ lim := by decide
  have lm5 : 5 ≤ lim := by decide
  obtain ⟨lr, hat, hlr, hlr2⟩ := hL
  simp [sSeenRow, E, rg]
  refine zf_ind (fun n ρ => n ≤ many ∧ ∃ l' row wv s1 s15 s16, ρ = E l' s1 s2 (.sh (.tuple Ls)) (.sh (.int H)) (.sh (.int many)) (.ow pl) s7 s8 s9 s10 s11 (.ow (S.map fun r => .tuple (r.map oD))) (.sh wv) (.ow (row.map oD)) s15 s16 ∧ Good (c + 2 * n) l' ∧ row.length = n ∧ (∀ o ∈ row, ∀ x, o = some x → 0 ≤ x ∧ x ≤ 1000000) ∧ Wv L (S ++ [row]) wv ∧ fr s1 ∧ fr s15 ∧ fr s16)
    ⟨by omega, l, [], wv, s1, s15, s16, rfl, hg, rfl, by simp, hw.congr (fun a b => sAt_nil.symm), f1, f15, f16⟩ (fun n d ρ hd hI => ?_) (fun ρ hI => ?_)
  · obtain ⟨hn, l', row, wv, s1, s15, s16, rfl, hg', hl, hro, hw, f1, f15, f16⟩ := hI
    obtain ⟨hn2, rfl⟩ := mem_rng hd
    have f1' := f1.1
    have f15' := f15.1
    have f16' := f16.1
    simp at f1' f15' f16'
    have hL3 := hL2 n hn2
    have hx : lr[n]? = some (L H n) := by
      have := hlr2 n hn2
      rw [List.getD_eq_getElem?_getD, List.getElem?_eq_getElem (by omega)] at this
      rw [List.getElem?_eq_getElem (by omega)]
      exact congrArg some this
    have hatn := atI_nums hx
    have nl : n < lim := by simp [lim]; omega
    simp [E, f1', f15', lm5]
    refine zr_mono (q_pick hg' (by omega) (by simp) (by simp)) ?_
    rintro _ _ ⟨x, l2, hxm, rfl, rfl, hg2⟩
    simp [f15']
    refine zr_mono (q_draw hg2 (by omega) (by omega) (by omega)) ?_
    rintro _ _ ⟨z, l3, rfl, rfl, a1, a2, hg3⟩
    have hg4 : Good (c + 2 * (n + 1)) l3 := by rw [show c + 2 * (n + 1) = c + 2 * n + 1 + 1 by omega]; exact hg3
    have hmore : x = .int 0 ∨ x = .int 1 := by
      simp at hxm
      exact hxm
    have hSr : ∀ o : Option Int, (∀ x, o = some x → 0 ≤ x ∧ x ≤ 1000000) → ∀ o' ∈ row ++ [o], ∀ x, o' = some x → 0 ≤ x ∧ x ≤ 1000000 := fun o ho o' hm => by
      rcases List.mem_append.mp hm with e | e
      · exact hro o' e
      · simp at e
        subst e
        exact ho
    have hb0 : ¬ Bad (L S.length row.length) none := bad_none
    have p0 := (Wv.push (o := none) hw).1 hb0
    subst hS hl
    have hb1 : ¬ Bad (L S.length row.length) (some (L S.length row.length)) := fun ⟨y, e1, e2⟩ => by cases e1; exact e2 rfl
    have p1 := (Wv.push (o := some (L S.length row.length)) hw).1 hb1
    have hb2 : Bad (L S.length row.length) (some (L S.length row.length + 1)) := ⟨_, rfl, by omega⟩
    have p2 := (Wv.push (o := some (L S.length row.length + 1)) hw).2
    by_cases hz : z = 0
    · subst hz
      simp [f16', hat, hatn, nl, is_map]
      exact ⟨by omega, l3, row ++ [none], _, _, _, _, ⟨rfl, rfl, rfl, by simp [oD], rfl, rfl⟩, hg4, by simp, hSr none (by simp), p0, fr_sh _, fr_sh _, fr_sh _⟩
    · rcases hmore with rfl | rfl
      · simp [f16', hat, hatn, nl, is_map, hz]
        exact ⟨by omega, l3, row ++ [some (L S.length row.length)], _, _, _, _, ⟨rfl, rfl, rfl, by simp [oD], rfl, rfl⟩, hg4, by simp, hSr _ (by intro x hx; cases hx; omega), p1, fr_sh _, fr_sh _, fr_sh _⟩
      · rcases hw with ⟨rfl, hnb⟩ | ⟨h0, i0, rfl, hfb⟩
        · simp [f16', hat, hatn, nl, is_map, hz, lm4]
          exact ⟨by omega, l3, row ++ [some (L S.length row.length + 1)], _, _, _, _, ⟨rfl, rfl, rfl, by simp [oD], rfl, rfl⟩, hg4, by simp, hSr _ (by intro x hx; cases hx; omega), p2.1 hb2 rfl, fr_sh _, fr_sh _, fr_sh _⟩
        · simp [f16', hat, hatn, nl, is_map, hz, wrD]
          exact ⟨by omega, l3, row ++ [some (L S.length row.length + 1)], _, _, _, _, ⟨rfl, rfl, rfl, by simp [oD], rfl, rfl⟩, hg4, by simp, hSr _ (by intro x hx; cases hx; omega), p2.2 (by simp [wrD]), fr_sh _, fr_sh _, fr_sh _⟩
  · obtain ⟨hn, l', row, wv, s1, s15, s16, rfl, hg', hl, hro, hw, f1, f15, f16⟩ := hI
    simp at hl hg'
    exact fin l' row wv s1 s15 s16 hg' hl hro hw f1 f15 f16
end
end Gk39
namespace Gk39
open PySem L2 PP PySem.Spec PyProof.Rows
section
variable {k : Nat}
def sSeen : CS := (.for (.nm 4) (.rng (.k (.int 0)) (.op1v .len 9)) (.seq (.asg (.nm 14) (.lst .nil)) (.seq sSeenRow (.seq (.app 12 (.op1v .tuple 14)) .pass))))
theorem st_seen {c : Nat} {l : List PyData} (hg : Good c l) (ps : List Pd) (hp : POk ps) (hp4 : ps.length ≤ 4) (hp12 : ∀ p ∈ ps, p.2.1 ≤ 12) (lv rs : List Int) (hl : LOk ps lv) (hr : ∀ r ∈ rs, 0 ≤ r ∧ r ≤ 1000) (hn : rs.length ≤ 5) (hc : c + 80 < 1000000) (pl : List PyData) (s1 s2 s7 s8 s10 s11 : Sl) (f1 : fr s1) {N : PEnv → Prop} {R : Sl → PEnv → Prop}
    (fin : ∀ l' (S : Sn) wv s1 s4 s14 s15 s16, Good (c + 40) l' → S.length = rs.length → (∀ r ∈ S, r.length = ps.length) → (∀ r ∈ S, ∀ o ∈ r, ∀ x, o = some x → 0 ≤ x ∧ x ≤ 1000000) → Wv (lvAt (k + 2) ps lv rs) S wv → N (E l' s1 s2 (.sh (.tuple ((hoursV (k + 2) ps lv rs).map fun h => .tuple (nums h.1)))) s4 (.sh (.int ps.length)) (.ow pl) s7 s8 (.sh (.tuple (nums rs))) s10 s11 (.ow (S.map fun r => .tuple (r.map oD))) (.sh wv) s14 s15 s16)) :
    Zx (run FF T (k + 5)) FF sSeen (E l s1 s2 (.sh (.tuple ((hoursV (k + 2) ps lv rs).map fun h => .tuple (nums h.1)))) .un (.sh (.int ps.length)) (.ow pl) s7 s8 (.sh (.tuple (nums rs))) s10 s11 (.ow []) (.sh .none) .un .un .un) N R := by
  have rg : rgOk 0 = true ∧ rgOk (rs.length : Int) = true := by
    constructor
    · decide
    · simp [rgOk]; omega
  have hlen := hoursV_len (k := k + 2) ps lv rs
  have ok := (hoursV_ok (k := k + 2) ps hp lv rs hl hr).2
  let G (l : List PyData) (s1 s4 : Sl) (S : Sn) (wv : PyData) (s14 s15 s16 : Sl) : PEnv := E l s1 s2 (.sh (.tuple ((hoursV (k + 2) ps lv rs).map fun h => .tuple (nums h.1)))) s4 (.sh (.int ps.length)) (.ow pl) s7 s8 (.sh (.tuple (nums rs))) s10 s11 (.ow (S.map fun r => .tuple (r.map oD))) (.sh wv) s14 s15 s16
  simp [sSeen, E, rg]
  refine zf_ind (fun n ρ => n ≤ rs.length ∧ ∃ l' S wv s1 s4 s14 s15 s16, ρ = G l' s1 s4 S wv s14 s15 s16 ∧ Good (c + 8 * n) l' ∧ S.length = n ∧ (∀ r ∈ S, r.length = ps.length) ∧ (∀ r ∈ S, ∀ o ∈ r, ∀ x, o = some x → 0 ≤ x ∧ x ≤ 1000000) ∧ Wv (lvAt (k + 2) ps lv rs) S wv ∧ fr s1 ∧ fr s4 ∧ free [s14] 0 = true ∧ fr s15 ∧ fr s16)
    ⟨by omega, l, [], .none, s1, .un, .un, .un, .un, rfl, hg, rfl, by simp, by simp, .inl ⟨rfl, fun h i => by simpa [sAt] using bad_none⟩, f1, fr_un, rfl, fr_un, fr_un⟩ (fun n d ρ hd hI => ?_) (fun ρ hI => ?_)
  · obtain ⟨hn1, l', S, wv, s1, s4, s14, s15, s16, rfl, hg', hS, hS2, hS3, hw, f1, f4, f14, f15, f16⟩ := hI
    obtain ⟨hn2, rfl⟩ := mem_rng hd
    have f4' := f4.1
    simp at f4' f14
    have hlt : n < (hoursV (k + 2) ps lv rs).length := by omega
    have hm := ok _ (List.getElem_mem hlt)
    refine ⟨G l' s1 (.sh (.int n)) S wv s14 s15 s16, by simp [G, E, f4'], ?_⟩
    refine x_cut (cl := run FF T (k + 5)) (F := FF) (fun ρ => ρ = G l' s1 (.sh (.int n)) S wv (.ow []) s15 s16) (by simp [G, E, f14]) ?_
    rintro _ rfl
    refine x_cut (cl := run FF T (k + 5)) (F := FF) (fun ρ => ∃ l2 row wv2 s1 s15 s16, ρ = G l2 s1 (.sh (.int n)) S wv2 (.ow (row.map oD)) s15 s16 ∧ Good (c + 8 * n + 2 * ps.length) l2 ∧ row.length = ps.length ∧ (∀ o ∈ row, ∀ x, o = some x → 0 ≤ x ∧ x ≤ 1000000) ∧ Wv (lvAt (k + 2) ps lv rs) (S ++ [row]) wv2 ∧ fr s1 ∧ fr s15 ∧ fr s16) ?_ ?_
    · refine st_row hg' (by omega) ps.length (by omega) n (lvAt (k + 2) ps lv rs) _ ⟨((hoursV (k + 2) ps lv rs)[n]).1, ?_, hm.1.1, fun i hi => ?_⟩ (fun i hi => ?_) s1 s2 s7 s8 _ s10 s11 s15 s16 f1 f15 f16 S hS pl wv hw (fun l2 row wv2 s1 s15 s16 e1 e2 e3 e4 e5 e6 e7 => ⟨l2, row, wv2, s1, s15, s16, rfl, e1, e2, e3, e4, e5, e6, e7⟩)
      · exact L2.atI_nat (by rw [List.getElem?_map, List.getElem?_eq_getElem hlt]; rfl)
      · unfold lvAt
        simp only [List.getD_eq_getElem?_getD, List.getElem?_eq_getElem hlt, Option.getD_some]
      · have hil : i < ((hoursV (k + 2) ps lv rs)[n]).1.length := by rw [hm.1.1]; exact hi
        have e1 : lvAt (k + 2) ps lv rs n i = ((hoursV (k + 2) ps lv rs)[n]).1[i] := by
          unfold lvAt
          simp only [List.getD_eq_getElem?_getD, List.getElem?_eq_getElem hlt, Option.getD_some, List.getElem?_eq_getElem hil]
        have e2 := hm.1.2 i ps[i] _ (List.getElem?_eq_getElem hi) (List.getElem?_eq_getElem hil)
        have e3 := hp12 _ (List.getElem_mem hi)
        rw [e1]
        exact ⟨e2.1, by omega⟩
    · rintro _ ⟨l2, row, wv2, s1, s15, s16, rfl, g1, g2, g3, g4, g5, g6, g7⟩
      have nl : S.length < lim := by simp [lim]; omega
      simp [G, E, nl, is_map]
      refine ⟨by omega, l2, S ++ [row], _, _, _, _, _, _, ⟨rfl, rfl, rfl, by simp, rfl, rfl, rfl, rfl⟩, g1.mono (by omega), by simp [hS], fun r hr' => ?_, fun r hr' => ?_, g4, g5, fr_sh _, rfl, g6, g7⟩
      · rcases List.mem_append.mp hr' with e | e
        · exact hS2 r e
        · rw [List.mem_singleton.mp e]
          exact g2
      · rcases List.mem_append.mp hr' with e | e
        · exact hS3 r e
        · rw [List.mem_singleton.mp e]
          exact g3
  · obtain ⟨hn1, l', S, wv, s1, s4, s14, s15, s16, rfl, hg', hS, hS2, hS3, hw, f1, f4, f14, f15, f16⟩ := hI
    simp at hS hg'
    exact fin l' S wv s1 s4 s14 s15 s16 (hg'.mono (by omega)) hS hS2 hS3 hw
theorem seen_lev {L : Nat → Nat → Int} {S : Sn} {d : PyData} (h : Seen L S d) : lev 8 d = true := by
  have h1 : PyData.strOk (Str.ofString "agree") = true := by decide +kernel
  have h2 : PyData.strOk (Str.ofString "wrong") = true := by decide +kernel
  rcases h with ⟨rfl, _⟩ | ⟨h, i, rfl, _⟩
  · simp [lev, h1]
  · simp [wrD, lev, h2]
theorem q_hold (c : Nat) (l : List PyData) (hg : Good c l) (hc : c + 200 < 1000000) : Zr (run FF T (k + 6)) 16 [.io l] fun r o => r = .sh (.bool true) ∧ ∃ l', o = some l' ∧ Good (c + 200) l' := by
  refine zr_of (fn := ⟨1, 18, true, b__law_ponds_hold⟩) (by rfl) rfl ?_
  have lm1 : 1 ≤ lim := by decide
  refine x_cut (fun ρ => ∃ (l' : List PyData) (many : Nat), ρ = E l' .un .un .un .un (.sh (.int many)) (.ow []) .un .un .un .un .un .un .un .un .un .un ∧ 1 ≤ many ∧ many ≤ 4 ∧ Good (c + 1) l') ?_ ?_
  · simp
    refine zr_mono (q_draw hg (by omega) (by omega) (by omega)) ?_
    rintro _ _ ⟨x, l1, rfl, rfl, a1, a2, hg1⟩
    simp
    exact ⟨l1, (1 + x).toNat, ⟨rfl, by omega⟩, by omega, by omega, hg1⟩
  rintro _ ⟨l1, many, rfl, m1, m4, hg1⟩
  refine x_cut (fun ρ => ∃ l' ps s1 s7, ρ = E l' s1 .un .un .un (.sh (.int many)) (.ow (ps.map pD)) s7 .un .un .un .un .un .un .un .un .un ∧ Good (c + 1 + 12) l' ∧ POk ps ∧ ps.length = many ∧ (∀ p ∈ ps, p.2.1 ≤ 12) ∧ fr s1 ∧ fr s7)
    (st_rows hg1 (by omega) many m1 m4 fun l' ps s1 s7 a b c d e f => ⟨l', ps, s1, s7, rfl, a, b, c, d, e, f⟩) ?_
  rintro _ ⟨l2, ps, s1, s7, rfl, hg2, hp, hpl, hp12, f1, f7⟩
  refine x_cut (fun ρ => ∃ l' rs s1, ρ = E l' s1 .un .un .un (.sh (.int many)) (.ow (ps.map pD)) s7 (.sh (.tuple (ps.map pD))) (.sh (.tuple (nums rs))) .un .un .un .un .un .un .un ∧ Good (c + 1 + 12 + 6) l' ∧ rs.length ≤ 5 ∧ (∀ r ∈ rs, 0 ≤ r ∧ r ≤ 1000) ∧ fr s1)
    (st_rains hg2 (by omega) _ _ s1 s7 f1 fun l' rs s1 a b c d => ⟨l', rs, s1, rfl, a, b, c, d⟩) ?_
  rintro _ ⟨l3, rs, s1, rfl, hg3, hr5, hr, f1⟩
  refine x_cut (fun ρ => ∃ l' lv, ρ = E l' s1 (.sh (.tuple (nums lv))) .un .un (.sh (.int many)) (.ow (ps.map pD)) s7 (.sh (.tuple (ps.map pD))) (.sh (.tuple (nums rs))) .un .un .un .un .un .un .un ∧ Good (c + 1 + 12 + 6 + 10) l' ∧ LOk ps lv)
    (st_begin hg3 (by omega) _ _ ps hp _ s1 s7 fun l' lv a b => ⟨l', lv, rfl, a, b⟩) ?_
  rintro _ ⟨l4, lv, rfl, hg4, hlv⟩
  have ql := q_levels (k := k) ps hp lv rs hlv hr (by omega)
  refine x_cut (fun ρ => ρ = E l4 s1 (.sh (.tuple (nums lv))) (.sh (.tuple ((hoursV (k + 2) ps lv rs).map fun h => .tuple (nums h.1)))) .un (.sh (.int many)) (.ow (ps.map pD)) s7 (.sh (.tuple (ps.map pD))) (.sh (.tuple (nums rs))) .un .un .un .un .un .un .un) (by simp [E, zr_some ql]) ?_
  rintro _ rfl
  subst hpl
  refine x_cut (fun ρ => ∃ s1 s10 s11, ρ = E l4 s1 (.sh (.tuple (nums lv))) (.sh (.tuple ((hoursV (k + 2) ps lv rs).map fun h => .tuple (nums h.1)))) .un (.sh (.int ps.length)) (.ow (ps.map pD)) s7 (.sh (.tuple (ps.map pD))) (.sh (.tuple (nums rs))) s10 s11 .un .un .un .un .un ∧ fr s1)
    (st_spill ps hp lv rs hlv hr (by omega) _ _ s1 s7 f1 fun s1 s10 s11 a b c => ⟨s1, s10, s11, rfl, a⟩) ?_
  rintro _ ⟨s1, s10, s11, rfl, f1⟩
  refine x_cut (fun ρ => ρ = E l4 s1 (.sh (.tuple (nums lv))) (.sh (.tuple ((hoursV (k + 2) ps lv rs).map fun h => .tuple (nums h.1)))) .un (.sh (.int ps.length)) (.ow (ps.map pD)) s7 (.sh (.tuple (ps.map pD))) (.sh (.tuple (nums rs))) s10 s11 (.ow []) (.sh .none) .un .un .un) (by simp [E]) ?_
  rintro _ rfl
  refine x_cut (fun ρ => ∃ l' S wv s1 s4 s14 s15 s16, ρ = E l' s1 (.sh (.tuple (nums lv))) (.sh (.tuple ((hoursV (k + 2) ps lv rs).map fun h => .tuple (nums h.1)))) s4 (.sh (.int ps.length)) (.ow (ps.map pD)) s7 (.sh (.tuple (ps.map pD))) (.sh (.tuple (nums rs))) s10 s11 (.ow ((S : Sn).map fun r => .tuple (r.map oD))) (.sh wv) s14 s15 s16 ∧ Good (c + 1 + 12 + 6 + 10 + 40) l' ∧ S.length = rs.length ∧ (∀ r ∈ S, r.length = ps.length) ∧ (∀ r ∈ S, ∀ o ∈ r, ∀ x, o = some x → 0 ≤ x ∧ x ≤ 1000000) ∧ Wv (lvAt (k + 2) ps lv rs) S wv)
    (st_seen hg4 ps hp m4 hp12 lv rs hlv hr hr5 (by omega) _ s1 _ s7 _ s10 s11 f1 fun l' S wv s1 s4 s14 s15 s16 a b c d e => ⟨l', S, wv, s1, s4, s14, s15, s16, rfl, a, b, c, d, e⟩) ?_
  rintro _ ⟨l5, S, wv, s1, s4, s14, s15, s16, rfl, hg5, hS, hS2, hS3, hw⟩
  obtain ⟨r0, o0, e0, d, rfl, hd⟩ := q_seen (k := k) ps hp lv rs hlv hr (by omega) S hS hS2 hS3
  have gd := hg5.mono (show c + 1 + 12 + 6 + 10 + 40 ≤ c + 200 by omega)
  have hlev := seen_lev hd
  have hself := lev_refl 8 d hlev
  unfold sD at e0
  rcases hw with ⟨rfl, hnb⟩ | ⟨h0, i0, rfl, hfb⟩
  · have hde : d = .tuple [.str (Str.ofString "agree")] := by
      rcases hd with ⟨e, _⟩ | ⟨h, i, _, f⟩
      · exact e
      · exact absurd f.2 (hnb h i)
    rw [hde] at e0 hlev hself
    simp [E, zr_some e0, o_eq, lm1, hlev, hself, gd]
  · have hde : d = wrD (lvAt (k + 2) ps lv rs) h0 i0 := by
      rcases hd with ⟨e, nb⟩ | ⟨h, i, e, f⟩
      · exact absurd hfb.2 (nb h0 i0)
      · obtain ⟨rfl, rfl⟩ := first_one f hfb
        exact e
    rw [hde] at e0 hlev hself
    unfold wrD at e0 hlev hself ⊢
    simp [E, zr_some e0, o_eq, lm1, hlev, hself, gd]
theorem pure_law (ns : List Int) (hl : ns.length ≤ 63) : run 1000 tab 30 17 [.sc ns] = some (.sh (.bool true), none) :=
  law1 (k := 28) (S := 13) (Hd := 16) (T := 3) 200 (by rfl) (by rfl) (by decide) (by decide) (fun c l hg hc => q_hold (k := 23) c l hg hc) ns hl
end
end Gk39
namespace Gk39
open PySem L2 PP PySem.Spec PyProof.Rows
/-! ### the head -/
def fa : List He.Fa := allFa ds cons
def fn : List He.DefD := ds.map FD.dd
abbrev R : PySem.W.OpenRow := PySem.W.OpenLaw.row PySem.Challenge.rw_raingauged_k39_levels_seen_hour_by_hour
abbrev hk : PySem.W.Hook := He.hookD 4 fa fn
def ob (s : PySem.W.SharedT) : He.AlD := He.obsDG 4 fa fn (HandSHeadRun.getT s)
theorem ob_eq (s : PySem.W.SharedT) : ob s = hk.obs s.abs := He.obsDG_eq (HandSHeadRun.getT_eq s)
def loose : List Str := (["RainError", "RecordError", "ArgumentError", "MAX_SIZE", "MAX_HOURS", "MAX_PART", "MAX_PONDS", "is_integer", "is_between", "check_ponds", "are_levels", "check_begin", "check_rains", "check_pond", "hour_of", "hours_of", "levels_of", "spilled_from", "first_spill", "judge_seen", "_law_start", "_law_draw", "_law_pick", "_law_ponds_hold"] : List Str)
set_option maxHeartbeats 0 in
theorem run_eq (w : World) : HandSHeadRun.RunEq R (PySem.W.view R.prog [28]) hk ob 6000 loose w := by
  intro os
  kernel_rfl
theorem lawA (K : PySem.W.Frag) (f : Addr) (fd : FuncData) (F : FunD K "law" "law" (defArgs s_law) (defBody s_law) (defScope s_law) [] [] f fd) (s : Shared) (us : List Value) (hl : us.length = 1) : BindsTo s fd ⟨us, []⟩ ([("script" : Str)].zip us) := FunD.bindsA (ps := ["script"]) F (fun _ _ _ _ _ _ us hl => match us, hl with | [_], _ => rfl) s us hl
end Gk39
open PySem PySem.W PySem.Calls PyProof.Rows
set_option maxHeartbeats 0 in
theorem PySem.Challenge.cw_raingauged_k39_levels_seen_hour_by_hour_holds : PySem.Challenge.rw_raingauged_k39_levels_seen_hour_by_hour.Holds := by
  w_on; o_law
  refine HandSHeadRun.head_any (r := OpenLaw.row PySem.Challenge.rw_raingauged_k39_levels_seen_hour_by_hour) (q := view (OpenLaw.row PySem.Challenge.rw_raingauged_k39_levels_seen_hour_by_hour).prog [28]) (H := Gk39.hk) (ob := Gk39.ob) (M := 6000) (loose := Gk39.loose) (d := HandSHeadRun.topDef (OpenLaw.row PySem.Challenge.rw_raingauged_k39_levels_seen_hour_by_hour).prog 28) (kwd := []) Gk39.ob_eq
    (by kernel_rfl) (fun s => by kernel_rfl) Gk39.run_eq (by kernel_rfl) (by kernel_rfl) (by kernel_rfl) (by rfl) (by first | assumption | decide +kernel) (by decide +kernel) ⟨rfl, rfl, rfl, rfl, rfl, by decide +kernel⟩ ?hw ?hc
  case hw => w_witness2
  case hc =>
    refine L2.walk_ofE (l := PySem.Challenge.rw_raingauged_k39_levels_seen_hour_by_hour) (n := 63) (k := 30) (x := "script") (CX := L2.CX0) rfl (by decide) (by kernel_rfl) ⟨rfl, by decide, by decide⟩ ?F (fun _ _ _ _ z => z)
    intro w mg fa h Y G hmg0
    obtain ⟨K, KX, c⟩ := Y
    have hmg : mg ("law" : PySem.Str) = some (.ref fa) := by
      have e : (HandSHeadRun.topDef (OpenLaw.row PySem.Challenge.rw_raingauged_k39_levels_seen_hour_by_hour).prog 28).name = ("law" : PySem.Str) := by kernel_rfl
      rw [← e]
      exact hmg0
    obtain ⟨fd, hb, hF⟩ := PP.law_facts (P := (PySem.Challenge.rw_raingauged_k39_levels_seen_hour_by_hour).prog) (w := w) (fu := 1000) (k := 30) (li := 17) (dl := Gk39.d_law) KX G c Gk39.good (by decide) rfl rfl rfl Gk39.lawA rfl hmg Gk39.tab rfl
    exact ⟨K, fd, PP.spLaw 1000 Gk39.tab 30 17 K, KX, hb, fun H a ns hl _ hS => PP.law_sp hS (Gk39.pure_law ns hl), hF⟩
