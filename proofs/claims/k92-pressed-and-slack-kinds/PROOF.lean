import PyProof.Rows.All
import Wide.All
import OpenK.AllK
import Wide.FinOn
import HandS.ForMost
import HandS.Deep
import HandS.TupAny
import HandS.TupMul
import HandS.IsInst
import HandS.SortInts
import KE.DataMinMax
import KE.SortData
import HandS.Star
import HandS.Exc
import HandS.Conv
import HandS.SetFor
import HandS.SortRule
import HandS.Iter
import HandS.Zip
import HandS.Walk
import KE.GoesMore
import HandS.ExcIs
import HandS.Style
import KE.DataFind
import KE.DatumIndex
import HandS.More
import HandS.Words
import KE.DatumOrd
import PySem.Challenge.RW_floatseats_k92_pressed_and_slack_kinds
set_option Elab.async false
set_option linter.all false
set_option maxRecDepth 100000
set_option maxHeartbeats 4000000
namespace Fs
open PySem L2

abbrev D := PyData

/-- the drawing object: its cells, how many were drawn, what is left of the last one -/
structure Pn where
  cells : List Int
  a : Int
  r : Int

/-- a state: the slots (with: is the list in it ours alone), the pen -/
structure S where
  sl : List (Option (D × Bool))
  pn : Option Pn

/-- where a value stands: never changed again; new and ours; the list of a slot -/
inductive Tg where
  | fz | fresh | slot (i : Nat)

abbrev Fn := List D → Option Pn → Option ((D × Bool) × Option Pn)

inductive Ty5 where
  | int | bool | tuple | list | str

inductive Bf where
  | len | all | any | sum | max | min | tuple | list | repr | int | sset | lrange | rev1 | cnt | trange | dnew | srt | stp | stl | sth | st3 | idx | mth (m : Str)

/-- a table of the module (text keys, numbers): get with a number, in, [] -/
inductive TabM where
  | get (n : Int) | mem | ix
/-- a target: one slot, or a tuple of slots -/
inductive Tr where
  | v (i : Nat) | t (is : List Nat) | n (i : Nat) (is : List Nat)
def Tr.isT : Tr → Bool
  | .t _ => true
  | .n _ _ => true
  | _ => false
def Tr.slots : Tr → List Nat
  | .v i => [i]
  | .t is => is
  | .n i is => i :: is

mutual
inductive IE where
  | var (i : Nat)
  | int (n : Int) | bool (b : Bool) | non | str (x : Str)
  | glob (x : Str) (d : D)
  | bin (op : Operator) (a b : IE)
  | neg (a : IE)
  | not (a : IE)
  | cmp (op : CmpOp) (a b : IE)
  | isN (a : IE) | notN (a : IE)
  | cmp2 (o p : CmpOp) (a b c : IE)
  | and (es : IEs) | or (es : IEs)
  | ite (c a b : IE)
  | tup (es : IEs) | lst (es : IEs)
  | ix (a b : IE)
  | sl (a : IE) (lo hi : IO)
  | isi (a : IE) (t : Ty5)
  | blt (f : Bf) (es : IEs)
  | call (x : Str) (F : Fn) (es : IEs)
  | one (x : Str) (a b : IE)
  | pix (i j : Nat)
  | lc (elt : IE) (tg : Tr) (src : Sr) (ifs : IEs)
  | isX (x : Str) (adr : Str → Nat) (names : List Str) (sub : Str → Bool) (a : IE)
  | attr (a : IE) (m : Str)
  | cmp3 (o p q : CmpOp) (a b c d : IE)
  | tab (m : TabM) (x : Str) (tb : List (Str × Int)) (a : IE)
  | calS (x : Str) (F : Fn) (n : Nat) (e : IE)
inductive IEs where
  | nil | cons (e : IE) (es : IEs)
inductive IO where
  | none | some (e : IE)
inductive Sr where
  | seq (e : IE) | enum (e : IE) | zip (a b : IE) | rng (a : IE) | rng2 (a b : IE) | rng3 (a b c : IE)
end

mutual
inductive IS where
  | set (i : Nat) (e : IE)
  | setLc (i : Nat) (elt : IE) (tg : Tr) (src : Sr) (ifs : IEs)
  | setT (is : List Nat) (e : IE)
  | set2 (is : List Nat) (es : IEs)
  | setIx (i : Nat) (k e : IE)
  | pset (i j : Nat) (e : IE)
  | aug (op : Operator) (i : Nat) (e : IE)
  | app (i : Nat) (e : IE)
  | ins (i : Nat) (k e : IE)
  | ext (i : Nat) (e : IE)
  | rev (i : Nat)
  | expr (e : IE)
  | ite (c : IE) (a b : ISs)
  | for (tg : Tr) (src : Sr) (body : ISs)
  | while (fuel : Nat) (c : IE) (body : ISs)
  | ret (e : IE) | retN | pass | brk | cont | never
inductive ISs where
  | nil | cons (s : IS) (ss : ISs)
end

def Sr.pairs : Sr → Bool
  | .enum _ => true
  | .zip _ _ => true
  | _ => false

def scal : D → Bool
  | .none => true
  | .bool _ => true
  | .int _ => true
  | .str _ => true
  | _ => false

mutual
/-- no dict within, not too deep -/
def good : Nat → D → Bool
  | _, .none => true
  | _, .bool _ => true
  | _, .int _ => true
  | _, .str x => PyData.strOk x
  | n + 1, .list xs => goods n xs
  | n + 1, .tuple xs => goods n xs
  | _, _ => false
def goods : Nat → List D → Bool
  | _, [] => true
  | n, x :: xs => good n x && goods n xs
end

def intsOf : List D → Option (List Int)
  | [] => some []
  | .int i :: r => (intsOf r).map (i :: ·)
  | _ => none
def boolsOf : List D → Option (List Bool)
  | [] => some []
  | .bool b :: r => (boolsOf r).map (b :: ·)
  | _ => none

def addD : D → D → Option (D × Bool)
  | .int a, .int b => some (.int (a + b), false)
  | .tuple a, .tuple b => if a.length + b.length ≤ sizeLine then some (.tuple (a ++ b), false) else none
  | .list a, .list b => if a.length + b.length ≤ sizeLine then some (.list (a ++ b), true) else none
  | .str a, .str b => if a.length + b.length ≤ sizeLine then some (.str (a ++ b), false) else none
  | _, _ => none
def mulD : D → D → Option (D × Bool)
  | .int a, .int b => if (-(2 ^ 64) < a ∧ a < 2 ^ 64) ∨ (-(2 ^ 64) < b ∧ b < 2 ^ 64) then some (.int (a * b), false) else none
  | .list a, .int k => if -(2 ^ 63) ≤ k ∧ k < 2 ^ 63 ∧ a.length * k.toNat ≤ sizeLine then some (.list (List.replicate k.toNat a).flatten, true) else none
  | .tuple a, .int k => if -(2 ^ 63) ≤ k ∧ k ≤ 1000 ∧ a.length ≤ 1000 then some (.tuple (List.replicate k.toNat a).flatten, false) else none
  | _, _ => none
def binD (op : Operator) (x y : D) : Option (D × Bool) :=
  match op with
  | .Add => addD x y
  | .Mult => mulD x y
  | .Sub => match x, y with
    | .int a, .int b => some (.int (a - b), false)
    | _, _ => none
  | .FloorDiv => match x, y with
    | .int a, .int b => if 0 < b ∧ b < 1073741824 then some (.int (a / b), false) else none
    | _, _ => none
  | .Mod => match x, y with
    | .int a, .int b => if 0 < b then some (.int (a % b), false) else none
    | _, _ => none
  | .Pow => match x, y with
    | .int a, .int b => if 0 ≤ b ∧ b ≤ 1000000 ∧ a.natAbs < 2 ^ 64 then some (.int (a ^ b.toNat), false) else none
    | _, _ => none
  | _ => none

def itemsD : D → Option (List D)
  | .list xs => some xs
  | .tuple xs => some xs
  | _ => none

def kin : D → D → Bool
  | .list _, .list _ => true
  | .tuple _, .tuple _ => true
  | _, _ => false

def okEq (x y : D) : Bool := match x, y with
  | .str _, .str _ => true
  | _, _ => good 60 x && good 60 y

def cmpD (op : CmpOp) (x y : D) : Option Bool :=
  match op with
  | .Eq => if okEq x y then some (PyData.eqv x y) else none
  | .NotEq => if okEq x y then some (!PyData.eqv x y) else none
  | .Lt => match x, y with
    | .int a, .int b => some (decide (a < b))
    | _, _ => none
  | .LtE => match x, y with
    | .int a, .int b => some (decide (a ≤ b))
    | _, _ => none
  | .Gt => match x, y with
    | .int a, .int b => some (decide (b < a))
    | _, _ => none
  | .GtE => match x, y with
    | .int a, .int b => some (decide (b ≤ a))
    | _, _ => none
  | .In => (itemsD y).bind fun ys => if okEq x y then some (ys.any fun z => PyData.eqv z x) else none
  | .NotIn => (itemsD y).bind fun ys => if okEq x y then some (!ys.any fun z => PyData.eqv z x) else none
  | _ => none

def ixD : D → D → Option D
  | .list xs, .int i => atI xs i
  | .tuple xs, .int i => atI xs i
  | _, _ => none

def optI : Option D → Option (Option Int)
  | none => some none
  | some (.int i) => some (some i)
  | _ => none
def cutD (xs : List D) (lo hi : Option Int) : List D := (xs.drop (HT.sIx xs.length 0 lo)).take (HT.sIx xs.length xs.length hi - HT.sIx xs.length 0 lo)
def slD (x : D) (lo hi : Option D) : Option (D × Bool) :=
  (optI lo).bind fun l => (optI hi).bind fun h => match x with
    | .list xs => some (.list (cutD xs l h), true)
    | .tuple xs => some (.tuple (cutD xs l h), false)
    | _ => none

def isiD : Ty5 → D → Option Bool
  | .int, .int _ => some true
  | .int, .bool _ => some true
  | .bool, .bool _ => some true
  | .tuple, .tuple _ => some true
  | .list, .list _ => some true
  | .str, .str _ => some true
  | _, .dict _ => none
  | _, _ => some false

/-- sorted(set(ns)) -/
def ins (n : Int) : List Int → List Int
  | [] => [n]
  | m :: r => if n < m then n :: m :: r else if n = m then m :: r else m :: ins n r
def ssetI (ns : List Int) : List Int := ns.foldr ins []
/-- sorted(ns) -/
def insI (n : Int) : List Int → List Int
  | [] => [n]
  | m :: r => if n ≤ m then n :: m :: r else m :: insI n r
def srtI (ns : List Int) : List Int := ns.foldr insI []
/-- pairs, by the first and then by the second -/
def leP (p q : Int × Int) : Bool := decide (p.1 < q.1) || (decide (p.1 = q.1) && decide (p.2 ≤ q.2))
def insP (p : Int × Int) : List (Int × Int) → List (Int × Int)
  | [] => [p]
  | q :: r => if leP p q = true then p :: q :: r else q :: insP p r
def srtP (ps : List (Int × Int)) : List (Int × Int) := ps.foldr insP []
def pairD (p : Int × Int) : D := .tuple [.int p.1, .int p.2]
def pairsOf : List D → Option (List (Int × Int))
  | [] => some []
  | .tuple [.int a, .int b] :: r => (pairsOf r).map ((a, b) :: ·)
  | _ => none
def maxI : List Int → Int
  | [] => 0
  | [n] => n
  | n :: r => max n (maxI r)
def minI : List Int → Int
  | [] => 0
  | [n] => n
  | n :: r => min n (minI r)

/-- tuples of ints, one at least -/
def rowE (r : Int × List Int) : D := .tuple (.int r.1 :: r.2.map .int)
def rowOf : D → Option (Int × List Int)
  | .tuple (.int a :: ds) => (intsOf ds).map fun l => (a, l)
  | _ => none
def rowsOf : List D → Option (List (Int × List Int))
  | [] => some []
  | d :: r => (rowOf d).bind fun x => (rowsOf r).map (x :: ·)
def srtR (rs : List (Int × List Int)) : List (Int × List Int) := rs.mergeSort (PySem.W.dataLe false rowE)
def srtD (xs : List D) : Option (List D) :=
  match intsOf xs with
  | some ns => some ((srtI ns).map .int)
  | none => match pairsOf xs with
    | some ps => some ((srtP ps).map pairD)
    | none => (rowsOf xs).bind fun rs => if good 60 (.list xs) then some ((srtR rs).map rowE) else none
/-- the items of a tuple, of a list -/
def seqD : D → Option (List D)
  | .tuple xs => some xs
  | .list xs => some xs
  | _ => none
/-- not to be changed -/
def hardD : D → Bool
  | .list _ => false
  | .dict _ => false
  | _ => true
/-- alike: to be compared by < -/
def alikeB (xs : List D) : Bool := (xs.all fun a => xs.all fun b => PySem.W.alike a b) && xs.all fun a => match a with | .none => false | _ => true
def minLD (xs : List D) : Option (D × Bool) :=
  match intsOf xs with
  | some ns => if 0 < ns.length then some (.int (minI ns), false) else none
  | none => match xs with
    | [] => none
    | x :: r => if good 60 (.list (x :: r)) && alikeB (x :: r) then some (PySem.W.minD x r, false) else none
def bltD : Bf → List D → Option (D × Bool)
  | .len, [.str x] => if x.length ≤ sizeLine then some (.int x.length, false) else none
  | .len, [.list xs] => some (.int xs.length, false)
  | .len, [.tuple xs] => some (.int xs.length, false)
  | .all, [.list xs] => (boolsOf xs).map fun bs => (.bool (bs.all id), false)
  | .any, [.list xs] => (boolsOf xs).map fun bs => (.bool (bs.any id), false)
  | .sum, [.list xs] => (intsOf xs).map fun ns => (.int ns.sum, false)
  | .max, [.list xs] => (intsOf xs).bind fun ns => if 0 < ns.length then some (.int (maxI ns), false) else none
  | .min, [.list xs] => minLD xs
  | .max, [.int a, .int b] => some (.int (if b > a then b else a), false)
  | .min, [.int a, .int b] => some (.int (if b < a then b else a), false)
  | .tuple, [.list xs] => some (.tuple xs, false)
  | .tuple, [.tuple xs] => some (.tuple xs, false)
  | .list, [.list xs] => some (.list xs, true)
  | .list, [.tuple xs] => some (.list xs, true)
  | .repr, [d] => if good 60 d && d.showable && decide (d.shown.length ≤ sizeLine) then some (.str d.shown, false) else none
  | .int, [.int i] => some (.int i, false)
  | .int, [.bool b] => some (.int (if b then 1 else 0), false)
  | .sset, [.list xs] => (intsOf xs).bind fun ns => if ns.length ≤ 4000 ∧ (ssetI ns).length < 64 then some (.list ((ssetI ns).map .int), true) else none
  | .sset, [.tuple xs] => (intsOf xs).bind fun ns => if ns.length ≤ 4000 ∧ (ssetI ns).length < 64 then some (.list ((ssetI ns).map .int), true) else none
  | .lrange, [.int n] => if 0 ≤ n ∧ n ≤ 16777216 then some (.list ((List.range n.toNat).map fun i => .int (i : Nat)), true) else none
  | .trange, [.int n] => if 0 ≤ n ∧ n ≤ 16777216 then some (.tuple ((List.range n.toNat).map fun i => .int (i : Nat)), false) else none
  | .srt, [.list xs] => (srtD xs).map fun ys => (.list ys, true)
  | .srt, [.tuple xs] => (intsOf xs).map fun ns => (.list ((srtI ns).map .int), true)
  | .rev1, [.list xs] => some (.list xs.reverse, true)
  | .rev1, [.tuple xs] => some (.tuple xs.reverse, false)
  | .cnt, [.list xs, y] => if good 60 (.list xs) && good 60 y then some (.int ((xs.countP fun z => PyData.eqv z y : Nat) : Int), false) else none
  | .cnt, [.tuple xs, y] => if good 60 (.list xs) && good 60 y then some (.int ((xs.countP fun z => PyData.eqv z y : Nat) : Int), false) else none
  | .idx, [.list xs, .bool y] => (boolsOf xs).bind fun bs => if y ∈ bs then some (.int (bs.idxOf y : Nat), false) else none
  | .stp, [x, y] => (seqD x).bind fun xs => if hardD y && decide (xs.length ≤ 1000) then some (.tuple (xs ++ [y]), false) else none
  | .stl, [x, y] => (seqD x).bind fun xs => if hardD y && decide (xs.length ≤ 1000) then some (.list (xs ++ [y]), true) else none
  | .sth, [y, x] => (seqD x).bind fun xs => if hardD y && decide (xs.length ≤ 1000) then some (.list (y :: xs), true) else none
  | .st3, [x, y, z] => (seqD x).bind fun xs => (seqD z).bind fun zs => if hardD y && (decide (xs.length ≤ 1000) && decide (zs.length ≤ 1000)) then some (.tuple (xs ++ (y :: zs)), false) else none
  | _, _ => none

def rd (s : S) (i : Nat) : Option (D × Bool) := (s.sl[i]?).bind id
def S.put (s : S) (i : Nat) (x : D × Bool) : S := { s with sl := s.sl.set i (some x) }
def S.freeze (s : S) (i : Nat) : S := { s with sl := s.sl.modify i fun o => o.map fun p => (p.1, false) }
def S.keep (s : S) : Tg → S
  | .slot i => s.freeze i
  | _ => s
def S.keeps (s : S) : List Tg → S
  | [] => s
  | t :: ts => (s.keep t).keeps ts
def Tg.own : Tg → Bool
  | .fresh => true
  | _ => false
def S.wipe (s : S) : List Nat → S
  | [] => s
  | i :: is => { (s.wipe is) with sl := (s.wipe is).sl.set i none }
def S.unowned (s : S) (is : List Nat) : Bool := is.all fun i => match rd s i with
  | some (_, true) => false
  | _ => true
def S.restore (s : S) (o : S) : List Nat → S
  | [] => s
  | i :: is => { (s.restore o is) with sl := (s.restore o is).sl.set i ((o.sl[i]?).bind id) }
/-- a pair whose second is a tuple -/
def pairT : D → Option (D × List D)
  | .tuple [d, .tuple ds] => some (d, ds)
  | _ => none
def S.bindT (s : S) : Tr → D → Option S
  | .v i, d => if i < s.sl.length then some (s.put i (d, false)) else none
  | .t is, .tuple ds => if is.length = ds.length ∧ (is.all fun i => decide (i < s.sl.length)) then some ((is.zip ds).foldl (fun s p => s.put p.1 (p.2, false)) s) else none
  | .n i is, d => (pairT d).bind fun q => if i < s.sl.length ∧ is.length = q.2.length ∧ (is.all fun i => decide (i < s.sl.length)) then some ((is.zip q.2).foldl (fun s p => s.put p.1 (p.2, false)) (s.put i (q.1, false))) else none
  | _, _ => none

/-- the 13 primes of the spreading -/
def prim (i : Int) : Int := ([2147483629, 2147483587, 2147483579, 2147483563, 2147483549, 2147483543, 2147483497, 2147483489, 2147483477, 2147483423, 2147483399, 2147483353, 2147483323] : List Int).getD i.toNat 1
def spreadF (c a : Int) : Int :=
  if 10 ^ 18 ≤ c then c else
  let u := (c % 1000000007 * (2 * a + 69069) + a * 40503 + 977) ^ 3 % prim (a % 13)
  let v := (u * (a + 3) + (c % 65537 + 5)) ^ 5 % prim ((a + 5) % 13)
  let w := (v + u % 1009 + a) ^ 3 % prim ((a + 7) % 13)
  (u * 2147483647 + v) * 2147483647 + w
def cellF (p : Pn) : Int :=
  if p.a < p.cells.length then p.cells.getD p.a.toNat 0
  else if 0 < p.cells.length then p.cells.getD ((p.a * 5 + 3) % p.cells.length).toNat 0 % (10 ^ 17 + p.a) else 0
def takeF (many : Int) (p : Pn) : Option (Int × Pn) :=
  if 0 < many ∧ many < 1073741824 ∧ 0 ≤ p.a ∧ p.a < 1073741824 then
    let q : Pn := if p.r < many then ⟨p.cells, p.a + 1, spreadF (cellF p) p.a⟩ else p
    some (q.r % many, ⟨q.cells, q.a, q.r / many⟩)
  else none
def FTake : Fn
  | [.dict [], .int n], some p => (takeF n p).map fun r => ((.int r.1, false), some r.2)
  | _, _ => none
def FAnew : Fn
  | [.dict []], some p => some ((.dict [], false), some ⟨p.cells, p.a, 0⟩)
  | _, _ => none
/-- an item by a drawn number -/
def oneF (x y : D) (pn : Option Pn) : Option (D × Option Pn) :=
  match x, pn with
  | .dict [], some p => (itemsD y).bind fun ys => (takeF ys.length p).bind fun r => (ys[r.1.toNat]?).map fun d => (d, some r.2)
  | _, _ => none

inductive Fl where
  | nx | ret (d : D) (fr : Bool) | brk | cont

def lcGo (fi : S → Option (Bool × S)) (fe : S → Option ((D × Tg) × S)) (tg : Tr) : List D → S → Option (List D × S)
  | [], s => some ([], s)
  | x :: xs, s => do
    let s1 ← s.bindT tg x
    let (b, s2) ← fi s1
    if b then do
      let ((d, t), s3) ← fe s2
      let (ds, s4) ← lcGo fi fe tg xs ((s3.keep t).wipe tg.slots)
      some (d :: ds, s4)
    else lcGo fi fe tg xs (s2.wipe tg.slots)
def lcRun (fi : S → Option (Bool × S)) (fe : S → Option ((D × Tg) × S)) (tg : Tr) (xs : List D) (s : S) : Option (List D × S) :=
  if s.unowned tg.slots = true ∧ xs.length ≤ sizeLine then do
    let (ds, s1) ← lcGo fi fe tg xs (s.wipe tg.slots)
    some (ds, s1.restore s tg.slots)
  else none
def boolD (x : Option ((D × Tg) × S)) : Option (Bool × S) := x.bind fun r => match r.1.1 with
  | .bool b => some (b, r.2)
  | _ => none

def pixD (j : Nat) (q : Pn) : Option D :=
  if j = 0 then some (.list (q.cells.map .int)) else if j = 1 then some (.int q.a) else if j = 2 then some (.int q.r) else none
def penSet (j : Nat) (n : Int) (q : Pn) : Option Pn :=
  if j = 1 then some { q with a := n } else if j = 2 then some { q with r := n } else none
def isPen : Option (D × Bool) → Bool
  | some (.dict [], false) => true
  | _ => false

def tbl : List (Str × Int) → Str → Option Int
  | [], _ => none
  | (k, v) :: r, z => if k = z then some v else tbl r z
def tabD (m : TabM) (tb : List (Str × Int)) (d : D) : Option D :=
  match d with
  | .str z => match m with
    | .get n => some (.int ((tbl tb z).getD n))
    | .mem => some (.bool (tbl tb z).isSome)
    | .ix => (tbl tb z).map PyData.int
  | _ => none
def tupD : D → Option (List D)
  | .tuple xs => some xs
  | _ => none
def isXD (adr : Str → Nat) (names : List Str) (sub : Str → Bool) : D → Option Bool
  | .dict [(.int C, .str c)] => if c ∈ names ∧ C = (adr c : Nat) then some (sub c) else none
  | _ => none
mutual
def evalE : IE → S → Option ((D × Tg) × S)
  | .var i, s => (rd s i).map fun p => ((p.1, if p.2 then .slot i else .fz), s)
  | .int n, s => some ((.int n, .fz), s)
  | .bool b, s => some ((.bool b, .fz), s)
  | .non, s => some ((.none, .fz), s)
  | .str x, s => some ((.str x, .fz), s)
  | .glob _ d, s => some ((d, .fz), s)
  | .bin op a b, s => do
    let (x, s1) ← evalE a s
    let (y, s2) ← evalE b s1
    let (d, fr) ← binD op x.1 y.1
    some ((d, if fr then .fresh else .fz), s2)
  | .neg a, s => do
    let (x, s1) ← evalE a s
    match x.1 with
    | .int i => some ((.int (-i), .fz), s1)
    | _ => none
  | .not a, s => do
    let (b, s1) ← boolD (evalE a s)
    some ((.bool (!b), .fz), s1)
  | .cmp op a b, s => do
    let (x, s1) ← evalE a s
    let (y, s2) ← evalE b s1
    let c ← cmpD op x.1 y.1
    some ((.bool c, .fz), s2)
  | .isN a, s => do
    let (x, s1) ← evalE a s
    some ((.bool (match x.1 with | .none => true | _ => false), .fz), s1)
  | .notN a, s => do
    let (x, s1) ← evalE a s
    some ((.bool (match x.1 with | .none => false | _ => true), .fz), s1)
  | .cmp2 o p a b c, s => do
    let (x, s1) ← evalE a s
    let (y, s2) ← evalE b s1
    let k ← cmpD o x.1 y.1
    if k then do
      let (z, s3) ← evalE c s2
      let m ← cmpD p y.1 z.1
      some ((.bool m, .fz), s3)
    else some ((.bool false, .fz), s2)
  | .and es, s => evalAnd es s
  | .or es, s => evalOr es s
  | .ite c a b, s => do
    let (k, s1) ← boolD (evalE c s)
    if k then evalE a s1 else evalE b s1
  | .tup es, s => do
    let (xs, s1) ← evalEs es s
    some ((.tuple (xs.map (·.1)), .fz), s1.keeps (xs.map (·.2)))
  | .lst es, s => do
    let (xs, s1) ← evalEs es s
    some ((.list (xs.map (·.1)), .fresh), s1.keeps (xs.map (·.2)))
  | .ix a b, s => do
    let (x, s1) ← evalE a s
    let (y, s2) ← evalE b s1
    let d ← ixD x.1 y.1
    some ((d, .fz), s2)
  | .sl a lo hi, s => do
    let (x, s1) ← evalE a s
    let (l, s2) ← evalO lo s1
    let (h, s3) ← evalO hi s2
    let (d, fr) ← slD x.1 l h
    some ((d, if fr then .fresh else .fz), s3)
  | .isi a t, s => do
    let (x, s1) ← evalE a s
    let b ← isiD t x.1
    some ((.bool b, .fz), s1)
  | .blt f es, s => do
    let (xs, s1) ← evalEs es s
    let (d, fr) ← bltD f (xs.map (·.1))
    some ((d, if fr then .fresh else .fz), s1)
  | .call _ F es, s => do
    let (xs, s1) ← evalEs es s
    let ((d, fr), pn) ← F (xs.map (·.1)) s1.pn
    if scal d then some ((d, .fz), { s1 with pn := pn })
    else some ((d, if fr then .fresh else .fz), { (s1.keeps (xs.map (·.2))) with pn := pn })
  | .one _ a b, s => do
    let (x, s1) ← evalE a s
    let (y, s2) ← evalE b s1
    let (d, pn) ← oneF x.1 y.1 s2.pn
    some ((d, .fz), { s2 with pn := pn })
  | .pix i j, s => if isPen (rd s i) then (s.pn.bind (pixD j)).map fun d => ((d, .fz), s) else none
  | .lc elt tg src ifs, s => do
    let ((items, _), s1) ← evalSr src s
    let (ds, s2) ← lcRun (evalAll ifs) (evalE elt) tg items s1
    some ((.list ds, .fresh), s2)
  | .isX _ adr names sub a, s => do
    let (x, s1) ← evalE a s
    let b ← isXD adr names sub x.1
    some ((.bool b, .fz), s1)
  | .attr _ _, _ => none
  | .cmp3 o p q a b c d, s => do
    let (x, s1) ← evalE a s
    let (y, s2) ← evalE b s1
    let k ← cmpD o x.1 y.1
    if k then do
      let (z, s3) ← evalE c s2
      let m ← cmpD p y.1 z.1
      if m then do
        let (u, s4) ← evalE d s3
        let j ← cmpD q z.1 u.1
        some ((.bool j, .fz), s4)
      else some ((.bool false, .fz), s3)
    else some ((.bool false, .fz), s2)
  | .tab m _ tb a, s => do
    let (x, s1) ← evalE a s
    let d ← tabD m tb x.1
    some ((d, .fz), s1)
  | .calS _ F n e, s => do
    let (x, s1) ← evalE e s
    let ds ← tupD x.1
    if ds.length = n then do
      let ((d, fr), pn) ← F ds s1.pn
      if scal d then some ((d, .fz), { s1 with pn := pn })
      else some ((d, if fr then .fresh else .fz), { s1 with pn := pn })
    else none
def evalEs : IEs → S → Option (List (D × Tg) × S)
  | .nil, s => some ([], s)
  | .cons e es, s => do
    let (x, s1) ← evalE e s
    let (xs, s2) ← evalEs es s1
    some (x :: xs, s2)
def evalO : IO → S → Option (Option D × S)
  | .none, s => some (none, s)
  | .some e, s => do
    let (x, s1) ← evalE e s
    some (some x.1, s1)
def evalAnd : IEs → S → Option ((D × Tg) × S)
  | .nil, _ => none
  | .cons e es, s => do
    let (b, s1) ← boolD (evalE e s)
    match es with
    | .nil => some ((.bool b, .fz), s1)
    | .cons _ _ => if b then evalAnd es s1 else some ((.bool false, .fz), s1)
def evalOr : IEs → S → Option ((D × Tg) × S)
  | .nil, _ => none
  | .cons e es, s => do
    let (b, s1) ← boolD (evalE e s)
    match es with
    | .nil => some ((.bool b, .fz), s1)
    | .cons _ _ => if b then some ((.bool true, .fz), s1) else evalOr es s1
def evalAll : IEs → S → Option (Bool × S)
  | .nil, s => some (true, s)
  | .cons e es, s => boolD (evalE e s)
def evalSr : Sr → S → Option ((List D × Tg) × S)
  | .seq e, s => do
    let (x, s1) ← evalE e s
    let xs ← itemsD x.1
    some ((xs, x.2), s1)
  | .enum e, s => do
    let (x, s1) ← evalE e s
    let xs ← itemsD x.1
    some ((xs.zipIdx.map fun p => .tuple [.int (p.2 : Nat), p.1], x.2), s1)
  | .zip a b, s => do
    let (x, s1) ← evalE a s
    let (y, s2) ← evalE b s1
    let xs ← itemsD x.1
    let ys ← itemsD y.1
    if kin x.1 y.1 then some ((List.zipWith (fun u v => .tuple [u, v]) xs ys, .fz), (s2.keep x.2).keep y.2) else none
  | .rng a, s => do
    let (x, s1) ← evalE a s
    match x.1 with
    | .int n => if -(2 ^ 62) ≤ n ∧ n < 2 ^ 62 then some (((List.range n.toNat).map fun i => .int (i : Nat), .fz), s1) else none
    | _ => none
  | .rng2 a b, s => do
    let (x, s1) ← evalE a s
    let (y, s2) ← evalE b s1
    match x.1, y.1 with
    | .int m, .int n => if -(2 ^ 62) ≤ m ∧ m < 2 ^ 62 ∧ -(2 ^ 62) ≤ n ∧ n < 2 ^ 62 then some (((List.range (n - m).toNat).map fun i => .int (m + (i : Nat)), .fz), s2) else none
    | _, _ => none
  | .rng3 a b c, s => do
    let (x, s1) ← evalE a s
    let (y, s2) ← evalE b s1
    let (z, s3) ← evalE c s2
    match x.1, y.1, z.1 with
    | .int i, .int j, .int k => if k ≠ 0 ∧ k.natAbs < 1073741824 ∧ Builtin.Range.small i j k = true ∧ 0 ≤ Builtin.Range.rangeSize i j k then some (((List.range (Builtin.Range.rangeSize i j k).toNat).map fun n => .int (i + (n : Nat) * k), .fz), s3) else none
    | _, _, _ => none
end

def wGo (fc : S → Option (Bool × S)) (fb : S → Option (Fl × S)) : Nat → S → Option (Fl × S)
  | 0, _ => none
  | n + 1, s => do
    let (b, s1) ← fc s
    if b then do
      let (f, s2) ← fb s1
      match f with
      | .nx => wGo fc fb n s2
      | .cont => wGo fc fb n s2
      | .brk => some (.nx, s2)
      | .ret d fr => some (.ret d fr, s2)
    else some (.nx, s1)
def fGo (tg : Tr) (fb : S → Option (Fl × S)) : List D → S → Option (Fl × S)
  | [], s => some (.nx, s)
  | x :: xs, s => do
    let s1 ← s.bindT tg x
    let (f, s2) ← fb s1
    match f with
    | .nx => fGo tg fb xs s2
    | .cont => fGo tg fb xs s2
    | .brk => some (.nx, s2)
    | .ret d fr => some (.ret d fr, s2)
def S.puts (s : S) : List Nat → List (D × Tg) → S
  | i :: is, (d, t) :: xs => (s.put i (d, t.own)).puts is xs
  | _, _ => s

mutual
def evalS : IS → S → Option (Fl × S)
  | .set i e, s => do
    let ((d, t), s1) ← evalE e s
    if i < s1.sl.length then some (.nx, (s1.keep t).put i (d, t.own)) else none
  | .setLc i elt tg src ifs, s => do
    let ((items, _), s1) ← evalSr src s
    let (ds, s2) ← lcRun (evalAll ifs) (evalE elt) tg items s1
    if i < s2.sl.length then some (.nx, s2.put i (.list ds, true)) else none
  | .setT is e, s => do
    let ((d, _), s1) ← evalE e s
    let s2 ← s1.bindT (.t is) d
    some (.nx, s2)
  | .set2 is es, s => do
    let (xs, s1) ← evalEs es s
    if is.length = xs.length ∧ (is.all fun i => decide (i < s1.sl.length)) then some (.nx, (s1.keeps (xs.map (·.2))).puts is xs) else none
  | .setIx i k e, s => do
    let _ ← rd s i
    let ((d, t), s1) ← evalE e s
    let ((kd, _), s2) ← evalE k (s1.keep t)
    match rd s2 i, kd with
    | some (.list xs, true), .int n => (ixN xs.length n).map fun j => (.nx, s2.put i (.list (xs.set j d), true))
    | _, _ => none
  | .pset i j e, s => do
    let ((d, _), s1) ← evalE e s
    match isPen (rd s i), d with
    | true, .int n => (s1.pn.bind (penSet j n)).map fun q => (.nx, { s1 with pn := some q })
    | _, _ => none
  | .aug op i e, s => do
    let p ← rd s i
    let ((d, _), s1) ← evalE e s
    match op, p.1, d with
    | .Add, .int a, .int b => if i < s1.sl.length then some (.nx, s1.put i (.int (a + b), false)) else none
    | .Sub, .int a, .int b => if i < s1.sl.length then some (.nx, s1.put i (.int (a - b), false)) else none
    | _, _, _ => none
  | .app i e, s => do
    let p ← rd s i
    let ((d, t), s1) ← evalE e s
    match p.2, rd (s1.keep t) i with
    | true, some (.list xs, true) => if xs.length < sizeLine then some (.nx, (s1.keep t).put i (.list (xs ++ [d]), true)) else none
    | _, _ => none
  | .ins i k e, s => do
    let p ← rd s i
    let ((kd, _), s0) ← evalE k s
    let ((d, t), s1) ← evalE e s0
    match p.2, rd (s1.keep t) i, kd with
    | true, some (.list xs, true), .int n => if xs.length < sizeLine ∧ 0 ≤ n ∧ n < 2 ^ 63 then some (.nx, (s1.keep t).put i (.list (xs.take n.toNat ++ [d] ++ xs.drop n.toNat), true)) else none
    | _, _, _ => none
  | .ext i e, s => do
    let p ← rd s i
    let ((d, t), s1) ← evalE e s
    match p.2, rd (s1.keep t) i, d with
    | true, some (.list xs, true), .list ys => if xs.length + ys.length ≤ sizeLine then some (.nx, (s1.keep t).put i (.list (xs ++ ys), true)) else none
    | _, _, _ => none
  | .rev i, s => match rd s i with
    | some (.list xs, true) => some (.nx, s.put i (.list xs.reverse, true))
    | _ => none
  | .expr e, s => do
    let (_, s1) ← evalE e s
    some (.nx, s1)
  | .ite c a b, s => do
    let (k, s1) ← boolD (evalE c s)
    if k then evalSs a s1 else evalSs b s1
  | .for tg src body, s => do
    let ((items, t), s1) ← evalSr src s
    fGo tg (evalSs body) items (s1.keep t)
  | .while n c body, s => wGo (fun s => boolD (evalE c s)) (evalSs body) n s
  | .ret e, s => do
    let ((d, t), s1) ← evalE e s
    some (.ret d (match t with | .fz => false | .fresh => true | .slot i => match rd s1 i with | some (_, true) => true | _ => false), s1)
  | .retN, s => some (.ret .none false, s)
  | .pass, s => some (.nx, s)
  | .brk, s => some (.brk, s)
  | .cont, s => some (.cont, s)
  | .never, _ => none
def evalSs : ISs → S → Option (Fl × S)
  | .nil, s => some (.nx, s)
  | .cons a b, s => do
    let (f, s1) ← evalS a s
    match f with
    | .nx => evalSs b s1
    | f => some (f, s1)
end

def start (n : Nat) (ds : List D) (pn : Option Pn) : S := ⟨ds.map (fun d => some (d, false)) ++ List.replicate (n - ds.length) none, pn⟩
/-- what a def with n slots and this body does -/
def runF (n : Nat) (body : ISs) : Fn := fun ds pn => (evalSs body (start n ds pn)).bind fun r => match r.1 with
  | .ret d fr => some ((d, fr), r.2.pn)
  | .nx => some ((.none, false), r.2.pn)
  | _ => none
end Fs

set_option Elab.async false
set_option linter.all false
set_option maxRecDepth 100000
set_option maxHeartbeats 4000000
namespace Fs
theorem insI_perm (n : Int) : ∀ l, (insI n l).Perm (n :: l)
  | [] => List.Perm.refl _
  | m :: r => by
    rw [insI]
    split
    · exact List.Perm.refl _
    · exact ((insI_perm n r).cons m).trans (List.Perm.swap n m r)
theorem srt_perm : ∀ l, (srtI l).Perm l
  | [] => List.Perm.refl _
  | n :: l => (insI_perm n (srtI l)).trans ((srt_perm l).cons n)
theorem insI_up {n : Int} : ∀ {l : List Int}, l.Pairwise (· ≤ ·) → (insI n l).Pairwise (· ≤ ·)
  | [], _ => by simp [insI]
  | m :: r, h => by
    rw [insI]
    rw [List.pairwise_cons] at h
    split
    · rename_i z
      rw [List.pairwise_cons, List.pairwise_cons]
      refine ⟨fun x hx => ?_, h⟩
      rcases List.mem_cons.mp hx with rfl | hx
      · exact z
      · exact Int.le_trans z (h.1 x hx)
    · rename_i z
      rw [List.pairwise_cons]
      refine ⟨fun x hx => ?_, insI_up h.2⟩
      rcases List.mem_cons.mp ((insI_perm n r).mem_iff.mp hx) with rfl | hx
      · omega
      · exact h.1 x hx
theorem srt_up : ∀ l, (srtI l).Pairwise (· ≤ ·)
  | [] => List.Pairwise.nil
  | n :: l => insI_up (srt_up l)
theorem up_uniq : ∀ {a b : List Int}, a.Perm b → a.Pairwise (· ≤ ·) → b.Pairwise (· ≤ ·) → a = b
  | [], b, p, _, _ => (List.Perm.nil_eq p)
  | x :: a, [], p, _, _ => by have := p.length_eq; simp at this
  | x :: a, y :: b, p, ha, hb => by
    rw [List.pairwise_cons] at ha hb
    have h1 : x = y := by
      have m1 := p.mem_iff.mp (List.mem_cons_self (a := x) (l := a))
      have m2 := p.mem_iff.mpr (List.mem_cons_self (a := y) (l := b))
      rcases List.mem_cons.mp m1 with e | m1
      · exact e
      rcases List.mem_cons.mp m2 with e | m2
      · exact e.symm
      have := hb.1 x m1
      have := ha.1 y m2
      omega
    subst h1
    rw [up_uniq (List.Perm.cons_inv p) ha.2 hb.2]
theorem srt_of {a b : List Int} (p : b.Perm a) (h : b.Pairwise (· ≤ ·)) : b = srtI a := up_uniq (p.trans (srt_perm a).symm) h (srt_up a)
theorem srt_mem {n : Int} {l : List Int} : n ∈ srtI l ↔ n ∈ l := (srt_perm l).mem_iff
theorem srt_len {l : List Int} : (srtI l).length = l.length := (srt_perm l).length_eq
theorem srt_nodup {l : List Int} (h : l.Nodup) : (srtI l).Pairwise (· < ·) := by
  have h1 := srt_up l
  have h2 : (srtI l).Nodup := (srt_perm l).nodup_iff.mpr h
  have : ∀ {l : List Int}, l.Pairwise (· ≤ ·) → l.Nodup → l.Pairwise (· < ·) := by
    intro l
    induction l with
    | nil => intro _ _; exact List.Pairwise.nil
    | cons x r ih =>
      intro a b
      rw [List.pairwise_cons] at a
      rw [List.nodup_cons] at b
      rw [List.pairwise_cons]
      refine ⟨fun y hy => ?_, ih a.2 b.2⟩
      have := a.1 y hy
      have : x ≠ y := fun e => b.1 (e ▸ hy)
      omega
  exact this h1 h2

theorem leP_iff {p q : Int × Int} : leP p q = true ↔ p.1 < q.1 ∨ (p.1 = q.1 ∧ p.2 ≤ q.2) := by
  unfold leP
  rw [Bool.or_eq_true, Bool.and_eq_true, decide_eq_true_iff, decide_eq_true_iff, decide_eq_true_iff]
theorem insP_perm (p : Int × Int) : ∀ l, (insP p l).Perm (p :: l)
  | [] => List.Perm.refl _
  | q :: r => by
    rw [insP]
    split
    · exact List.Perm.refl _
    · exact ((insP_perm p r).cons q).trans (List.Perm.swap p q r)
theorem srtP_perm : ∀ l, (srtP l).Perm l
  | [] => List.Perm.refl _
  | n :: l => (insP_perm n (srtP l)).trans ((srtP_perm l).cons n)
theorem leP_trans {a b c : Int × Int} (h1 : leP a b = true) (h2 : leP b c = true) : leP a c = true := by
  rw [leP_iff] at *
  omega
theorem insP_up {p : Int × Int} : ∀ {l : List (Int × Int)}, l.Pairwise (fun a b => leP a b = true) → (insP p l).Pairwise (fun a b => leP a b = true)
  | [], _ => by simp [insP]
  | m :: r, h => by
    rw [insP]
    rw [List.pairwise_cons] at h
    split
    · rename_i z
      rw [List.pairwise_cons, List.pairwise_cons]
      refine ⟨fun x hx => ?_, h⟩
      rcases List.mem_cons.mp hx with rfl | hx
      · exact z
      · exact leP_trans z (h.1 x hx)
    · rename_i z
      rw [List.pairwise_cons]
      refine ⟨fun x hx => ?_, insP_up h.2⟩
      rcases List.mem_cons.mp ((insP_perm p r).mem_iff.mp hx) with rfl | hx
      · rw [leP_iff] at *
        omega
      · exact h.1 x hx
theorem srtP_up : ∀ l, (srtP l).Pairwise (fun a b => leP a b = true)
  | [] => List.Pairwise.nil
  | n :: l => insP_up (srtP_up l)
theorem upP_uniq : ∀ {a b : List (Int × Int)}, a.Perm b → a.Pairwise (fun a b => leP a b = true) → b.Pairwise (fun a b => leP a b = true) → a = b
  | [], b, p, _, _ => (List.Perm.nil_eq p)
  | x :: a, [], p, _, _ => by have := p.length_eq; simp at this
  | x :: a, y :: b, p, ha, hb => by
    rw [List.pairwise_cons] at ha hb
    have h1 : x = y := by
      have m1 := p.mem_iff.mp (List.mem_cons_self (a := x) (l := a))
      have m2 := p.mem_iff.mpr (List.mem_cons_self (a := y) (l := b))
      rcases List.mem_cons.mp m1 with e | m1
      · exact e
      rcases List.mem_cons.mp m2 with e | m2
      · exact e.symm
      have h1 := leP_iff.mp (hb.1 x m1)
      have h2 := leP_iff.mp (ha.1 y m2)
      exact Prod.ext (by omega) (by omega)
    subst h1
    rw [upP_uniq (List.Perm.cons_inv p) ha.2 hb.2]
theorem srtP_of {a b : List (Int × Int)} (p : b.Perm a) (h : b.Pairwise (fun a b => leP a b = true)) : b = srtP a := upP_uniq (p.trans (srtP_perm a).symm) h (srtP_up a)
theorem pairsOf_some : ∀ {xs : List D} {ps : List (Int × Int)}, pairsOf xs = some ps → xs = ps.map pairD
  | [], ps, h => by cases h; rfl
  | x :: xs, ps, h => by
    unfold pairsOf at h
    split at h
    · rename_i e; cases e
    · rename_i a b r e
      cases e
      obtain ⟨qs, h1, rfl⟩ := Option.map_eq_some_iff.mp h
      rw [pairsOf_some h1]; rfl
    · cases h
end Fs

set_option Elab.async false
set_option linter.all false
set_option maxRecDepth 100000
set_option maxHeartbeats 4000000
namespace Ku
open Fs (srt_perm srt_up srt_of srt_mem srt_len srt_nodup)
abbrev Sd := List (Int × Int)
def has (sd : Sd) (n : Int) : Bool := sd.any fun p => decide (p.1 = n)
def put (sd : Sd) (n k : Int) : Sd := if has sd n = true then sd.map (fun p => if p.1 = n then (p.1, k) else p) else sd ++ [(n, k)]
def on (sd : Sd) (k : Int) : List Int := (sd.filter fun p => decide (p.2 = k)).map (·.1)
structure Cfg where
  ks : Int → List Int
  cap : Int → Int
abbrev Rs := Option (Bool × Sd × List Int)
def goOn (rec : Int → Sd → List Int → Rs) : List Int → Sd → List Int → Rs
  | [], sd, tr => some (false, sd, tr)
  | o :: os, sd, tr => (rec o sd tr).bind fun r => if r.1 = true then some r else goOn rec os r.2.1 r.2.2
def goKs (cap : Int → Int) (rec : Int → Sd → List Int → Rs) (n : Int) : List Int → Sd → List Int → Rs
  | [], sd, tr => some (false, sd, tr)
  | k :: ks, sd, tr => if k ∈ tr then goKs cap rec n ks sd tr else
      if ((on sd k).length : Int) < cap k then some (true, put sd n k, tr ++ [k])
      else (goOn rec (on sd k) sd (tr ++ [k])).bind fun r => if r.1 = true then some (true, put r.2.1 n k, r.2.2) else goKs cap rec n ks r.2.1 r.2.2
def place (C : Cfg) : Nat → Int → Sd → List Int → Rs
  | 0, _, _, _ => none
  | j + 1, n, sd, tr => goKs C.cap (place C j) n (C.ks n) sd tr
abbrev srt (ns : List Int) : List Int := Fs.srtI ns
def beside (sd : Sd) (tr : List Int) : List Int := (sd.filter fun p => decide (p.2 ∈ tr)).map (·.1)
def keys (sd : Sd) : List Int := sd.map (·.1)
def at_ (sd : Sd) (n : Int) : Option Int := (sd.find? fun p => decide (p.1 = n)).map (·.2)
theorem at_nil {n : Int} : at_ [] n = none := rfl
theorem at_cons {p : Int × Int} {r : Sd} {n : Int} : at_ (p :: r) n = if p.1 = n then some p.2 else at_ r n := by
  unfold at_
  rw [List.find?_cons]
  by_cases h : p.1 = n
  · rw [if_pos h, decide_eq_true h]; rfl
  · rw [if_neg h, decide_eq_false h]
theorem at_key {n : Int} : ∀ {sd : Sd}, (at_ sd n).isSome = true ↔ n ∈ keys sd
  | [] => by simp [at_nil, keys]
  | p :: r => by
    rw [at_cons]
    have ih := at_key (n := n) (sd := r)
    show _ ↔ n ∈ p.1 :: keys r
    rw [List.mem_cons]
    by_cases h : p.1 = n
    · rw [if_pos h]; simp [h]
    · rw [if_neg h, ih]
      constructor
      · exact .inr
      · rintro (e | e)
        · exact absurd e.symm h
        · exact e
theorem at_mem {n k : Int} : ∀ {sd : Sd}, (keys sd).Nodup → (at_ sd n = some k ↔ (n, k) ∈ sd)
  | [], _ => by simp [at_nil]
  | p :: r, h => by
    have h' : (p.1 :: keys r).Nodup := h
    rw [List.nodup_cons] at h'
    rw [at_cons, List.mem_cons]
    have ih := at_mem (n := n) (k := k) h'.2
    by_cases e : p.1 = n
    · rw [if_pos e]
      constructor
      · intro z; cases z; exact .inl (by rw [← e])
      · rintro (z | z)
        · rw [← z]
        · exact absurd (List.mem_map.mpr ⟨_, z, rfl⟩) (by rw [← e] at *; exact h'.1)
    · rw [if_neg e, ih]
      constructor
      · exact .inr
      · rintro (z | z)
        · exact absurd (by rw [← z]) e
        · exact z
theorem has_iff {sd : Sd} {n : Int} : has sd n = true ↔ n ∈ keys sd := by
  unfold has keys
  rw [List.any_eq_true, List.mem_map]
  constructor
  · rintro ⟨p, h1, h2⟩; exact ⟨p, h1, of_decide_eq_true h2⟩
  · rintro ⟨p, h1, h2⟩; exact ⟨p, h1, decide_eq_true h2⟩
theorem put_keys {sd : Sd} {n k m : Int} : m ∈ keys (put sd n k) ↔ m = n ∨ m ∈ keys sd := by
  unfold put
  by_cases z : has sd n = true
  · rw [if_pos z]
    have e : keys (sd.map (fun p => if p.1 = n then (p.1, k) else p)) = keys sd := by
      unfold keys
      rw [List.map_map]
      refine List.map_congr_left fun p _ => ?_
      show (if p.1 = n then (p.1, k) else p).1 = p.1
      split <;> rfl
    rw [e]
    constructor
    · exact .inr
    · rintro (rfl | h)
      · exact has_iff.mp z
      · exact h
  · rw [if_neg z]
    unfold keys
    rw [List.map_append, List.mem_append]
    simp only [List.map_cons, List.map_nil, List.mem_singleton]
    exact Or.comm
theorem put_nodup {sd : Sd} {n k : Int} (h : (keys sd).Nodup) : (keys (put sd n k)).Nodup := by
  unfold put
  by_cases z : has sd n = true
  · rw [if_pos z]
    have e : keys (sd.map (fun p => if p.1 = n then (p.1, k) else p)) = keys sd := by
      unfold keys
      rw [List.map_map]
      refine List.map_congr_left fun p _ => ?_
      show (if p.1 = n then (p.1, k) else p).1 = p.1
      split <;> rfl
    rw [e]; exact h
  · rw [if_neg z]
    unfold keys
    rw [List.map_append]
    refine List.nodup_append.mpr ⟨h, by simp, ?_⟩
    intro a ha b hb e
    simp only [List.map_cons, List.map_nil, List.mem_singleton] at hb
    subst e hb
    exact z (has_iff.mpr ha)
def cnt (sd : Sd) (k : Int) : Nat := (on sd k).length
def ind (p : Prop) [Decidable p] : Nat := if p then 1 else 0
theorem cnt_cons {p : Int × Int} {r : Sd} {k : Int} : cnt (p :: r) k = cnt r k + ind (p.2 = k) := by
  unfold cnt on ind
  rw [List.filter_cons]
  by_cases h : p.2 = k
  · rw [if_pos (decide_eq_true h), if_pos h]; simp
  · rw [if_neg (by simp [h]), if_neg h]; simp
end Ku

set_option Elab.async false
set_option linter.all false
set_option maxRecDepth 100000
set_option maxHeartbeats 4000000
namespace Ku
open Fs (srt_perm srt_up srt_of srt_mem srt_len srt_nodup)
theorem ind_pos {p : Prop} [Decidable p] (h : p) : ind p = 1 := if_pos h
theorem ind_neg {p : Prop} [Decidable p] (h : ¬ p) : ind p = 0 := if_neg h
theorem ind_iff {p q : Prop} [Decidable p] [Decidable q] (h : p ↔ q) : ind p = ind q := by
  by_cases z : p
  · rw [ind_pos z, ind_pos (h.mp z)]
  · rw [ind_neg z, ind_neg (fun y => z (h.mpr y))]
/-- each seated claim sits on one of its kinds -/
structure Sits (C : Cfg) (sd : Sd) : Prop where
  nd : (keys sd).Nodup
  kd : ∀ m k, at_ sd m = some k → k ∈ C.ks m
structure Won (C : Cfg) (n : Int) (sd : Sd) (tr : List Int) (sd' : Sd) : Prop where
  si : Sits C sd'
  ky : ∀ m, m ∈ keys sd' ↔ m = n ∨ m ∈ keys sd
  stay : ∀ m k, m ≠ n → k ∈ tr → at_ sd m = some k → at_ sd' m = some k
  away : ∃ k, at_ sd' n = some k ∧ k ∉ tr
  ct : ∃ kf, ((cnt sd kf : Nat) : Int) < C.cap kf ∧ ∀ k, cnt sd' k + ind (at_ sd n = some k) = cnt sd k + ind (kf = k)
structure Lost (C : Cfg) (ks : List Int) (sd : Sd) (tr tr' : List Int) : Prop where
  sub : ∀ k, k ∈ tr → k ∈ tr'
  own : ∀ k, k ∈ ks → k ∈ tr'
  full : ∀ k, k ∈ tr' → k ∉ tr → C.cap k ≤ ((cnt sd k : Nat) : Int) ∧ ∀ o, at_ sd o = some k → ∀ x, x ∈ C.ks o → x ∈ tr'
  nd : tr.Nodup → tr'.Nodup
  fr : ∀ k, k ∈ tr' → k ∈ tr ∨ ∃ n, k ∈ C.ks n
theorem Won.mono {C : Cfg} {n : Int} {sd sd' : Sd} {tr tr' : List Int} (h : Won C n sd tr' sd') (s : ∀ k, k ∈ tr → k ∈ tr') : Won C n sd tr sd' :=
  ⟨h.si, h.ky, fun m k a b c => h.stay m k a (s k b) c, by obtain ⟨k, a, b⟩ := h.away; exact ⟨k, a, fun z => b (s k z)⟩, h.ct⟩
theorem Lost.refl {C : Cfg} {sd : Sd} {tr : List Int} : Lost C [] sd tr tr := ⟨fun _ h => h, fun _ h => by simp at h, fun _ h n => absurd h n, fun h => h, fun _ h => .inl h⟩
/-- what a call for a claim answers -/
structure Good (C : Cfg) (n : Int) (sd : Sd) (tr : List Int) (r : Bool × Sd × List Int) : Prop where
  won : r.1 = true → Won C n sd tr r.2.1
  lost : r.1 = false → r.2.1 = sd ∧ Lost C (C.ks n) sd tr r.2.2
section
variable {C : Cfg} {rec : Int → Sd → List Int → Rs}
end
def left (U tr : List Int) : Nat := (U.filter fun k => decide (k ∉ tr)).length
section
variable {C : Cfg} {rec : Int → Sd → List Int → Rs} {U : List Int} {m : Nat}
end
def sumC (cap : Int → Int) (T : List Int) : Int := (T.map cap).sum
structure Seated (C : Cfg) (ns : List Int) (sd : Sd) : Prop where
  si : Sits C sd
  ky : ∀ m, m ∈ keys sd ↔ m ∈ ns
  ct : ∀ k, ((cnt sd k : Nat) : Int) ≤ C.cap k
structure Short (C : Cfg) (ns S : List Int) : Prop where
  up : S.Pairwise (· < ·)
  sub : ∀ m ∈ S, m ∈ ns
  ex : ∃ T : List Int, T.Nodup ∧ (∀ m ∈ S, ∀ k ∈ C.ks m, k ∈ T) ∧ ((S.length : Nat) : Int) = sumC C.cap T + 1 ∧ (∀ k ∈ T, ∃ n, k ∈ C.ks n)
theorem beside_len {sd : Sd} : ∀ {T : List Int}, T.Nodup → (beside sd T).length = (T.map fun k => cnt sd k).sum := by
  induction sd with
  | nil =>
    intro T _
    have : ∀ T : List Int, (T.map fun k => cnt [] k).sum = 0 := by
      intro T
      induction T with
      | nil => rfl
      | cons x r ih => rw [List.map_cons, List.sum_cons, ih]; rfl
    rw [this]; rfl
  | cons p r ih =>
    intro T h
    have e : ∀ T : List Int, T.Nodup → (T.map fun k => cnt (p :: r) k).sum = (T.map fun k => cnt r k).sum + ind (p.2 ∈ T) := by
      intro T
      induction T with
      | nil => intro _; rw [ind_neg (by simp)]; rfl
      | cons x s ih2 =>
        intro hx
        rw [List.nodup_cons] at hx
        rw [List.map_cons, List.sum_cons, List.map_cons, List.sum_cons, ih2 hx.2, cnt_cons]
        by_cases z : p.2 = x
        · rw [ind_pos z, ind_neg (by rw [z]; exact hx.1), ind_pos (by rw [z]; simp)]
          omega
        · rw [ind_neg z, ind_iff (show p.2 ∈ x :: s ↔ p.2 ∈ s by rw [List.mem_cons]; exact ⟨fun q => q.elim (fun q => absurd q z) id, .inr⟩)]
          omega
    rw [e T h, ← ih h]
    unfold beside
    rw [List.filter_cons]
    by_cases z : p.2 ∈ T
    · rw [if_pos (decide_eq_true z), ind_pos z]; simp
    · rw [if_neg (by simp [z]), ind_neg z]; simp
theorem beside_mem {sd : Sd} (h : (keys sd).Nodup) {T : List Int} {m : Int} : m ∈ beside sd T ↔ ∃ k ∈ T, at_ sd m = some k := by
  unfold beside
  rw [List.mem_map]
  constructor
  · rintro ⟨p, h1, h2⟩
    rw [List.mem_filter] at h1
    exact ⟨p.2, of_decide_eq_true h1.2, (at_mem h).mpr (by rw [← h2]; exact h1.1)⟩
  · rintro ⟨k, h1, h2⟩
    exact ⟨(m, k), List.mem_filter.mpr ⟨(at_mem h).mp h2, decide_eq_true h1⟩, rfl⟩
theorem sum_cast : ∀ {T : List Int} {f : Int → Nat} {g : Int → Int}, (∀ k ∈ T, ((f k : Nat) : Int) = g k) → (((T.map f).sum : Nat) : Int) = (T.map g).sum
  | [], _, _, _ => rfl
  | k :: T, f, g, h => by
    rw [List.map_cons, List.sum_cons, List.map_cons, List.sum_cons, ← h k (by simp), ← sum_cast fun j hj => h j (List.mem_cons_of_mem _ hj)]
    omega
end Ku

set_option Elab.async false
set_option linter.all false
set_option maxRecDepth 100000
set_option maxHeartbeats 4000000
namespace Ku
open Fs (srt_perm srt_up srt_of srt_mem srt_len srt_nodup)
structure SdI (ok : Int → Prop) (sd : Sd) : Prop where
  nd : (keys sd).Nodup
  ok : ∀ m ∈ keys sd, ok m
structure TrI (T : Int → Prop) (tr : List Int) : Prop where
  nd : tr.Nodup
  ok : ∀ k ∈ tr, T k
theorem SdI.put {ok : Int → Prop} {sd : Sd} {n k : Int} (h : SdI ok sd) (hn : ok n) : SdI ok (put sd n k) :=
  ⟨put_nodup h.nd, fun m hm => by
    rcases put_keys.mp hm with e | e
    · rw [e]; exact hn
    · exact h.ok m e⟩
section
variable {ok T : Int → Prop} {rec : Int → Sd → List Int → Rs}
end
/-- different numbers within bounds -/
theorem nodup_sub : ∀ {a b : List Int}, a.Nodup → (∀ x ∈ a, x ∈ b) → a.length ≤ b.length
  | [], _, _, _ => Nat.zero_le _
  | x :: a, b, h, s => by
    rw [List.nodup_cons] at h
    have h1 := nodup_sub (a := a) (b := b.erase x) h.2 fun y hy => by
      have : y ≠ x := fun e => h.1 (e ▸ hy)
      exact (List.mem_erase_of_ne this).mpr (s y (List.mem_cons_of_mem _ hy))
    have h2 := s x (by simp)
    have h3 := List.length_erase_of_mem h2
    have h4 := List.length_pos_of_mem h2
    simp only [List.length_cons]
    omega
theorem nodup_len {a : List Int} {N : Nat} (h : a.Nodup) (s : ∀ x ∈ a, 0 ≤ x ∧ x < N) : a.length ≤ N := by
  have := nodup_sub (b := (List.range N).map fun i : Nat => (i : Int)) h fun x hx => by
    obtain ⟨h1, h2⟩ := s x hx
    rw [List.mem_map]
    exact ⟨x.toNat, List.mem_range.mpr (by omega), by omega⟩
  simpa using this
/-- the claims whose kinds are all within K -/
def within (C : Cfg) (ns K : List Int) : List Int := ns.filter fun m => (C.ks m).all fun k => decide (k ∈ K)
theorem within_mem {C : Cfg} {ns K : List Int} {m : Int} : m ∈ within C ns K ↔ m ∈ ns ∧ ∀ k ∈ C.ks m, k ∈ K := by
  unfold within
  rw [List.mem_filter, List.all_eq_true]
  simp
def Hall (C : Cfg) (ns : List Int) : Prop := ∀ K : List Int, K.Nodup → ((within C ns K).length : Int) ≤ sumC C.cap K
theorem sum_le : ∀ {T : List Int} {f g : Int → Int}, (∀ k ∈ T, f k ≤ g k) → (T.map f).sum ≤ (T.map g).sum
  | [], _, _, _ => Int.le_refl _
  | k :: T, f, g, h => by
    rw [List.map_cons, List.sum_cons, List.map_cons, List.sum_cons]
    have := h k (by simp)
    have := sum_le fun j hj => h j (List.mem_cons_of_mem _ hj)
    omega
theorem Seated.hall {C : Cfg} {ns : List Int} {sd : Sd} (hn : ns.Nodup) (h : Seated C ns sd) : Hall C ns := by
  intro K hK
  have h1 : (within C ns K).length ≤ (beside sd K).length := by
    refine nodup_sub (List.Pairwise.filter _ hn) fun m hm => ?_
    obtain ⟨a, b⟩ := within_mem.mp hm
    have hk := (h.ky m).mpr a
    rw [← at_key] at hk
    obtain ⟨k, e⟩ := Option.isSome_iff_exists.mp hk
    exact (beside_mem h.si.nd).mpr ⟨k, b k (h.si.kd m k e), e⟩
  have h2 := beside_len (sd := sd) hK
  have h3 : (((K.map fun k => cnt sd k).sum : Nat) : Int) = (K.map fun k => ((cnt sd k : Nat) : Int)).sum := sum_cast fun _ _ => rfl
  have h4 : (K.map fun k => ((cnt sd k : Nat) : Int)).sum ≤ sumC C.cap K := sum_le fun k _ => h.ct k
  omega
end Ku

set_option Elab.async false
set_option linter.all false
set_option maxRecDepth 100000
set_option maxHeartbeats 4000000
namespace Fs
open PySem PySem.Spec PyProof.Rows L2 SrtO
def rSortedTI (K : PySem.W.Frag) : List V → Hp → VK → Prop := fun vs H Q => ∃ (a : Addr) (ns : List Int), vs = [V.ref a] ∧ SqT K H a (ns.map V.int) ∧
  ∀ (ns' : List Int) (p : Addr), ns'.Perm ns → ns'.Pairwise (· ≤ ·) → H p = none → Q (.ref p) (upd H p (.lst (ns'.map V.int)))
section
variable {X : Cx}
theorem cr_sortedTI : CallR X (.builtin "sorted") (rSortedTI X.K) := by
  intro pins s σ H vs us Q I r h
  obtain ⟨a, ns, rfl, hs, q⟩ := h
  obtain ⟨its, rv, ⟨o, ho, hc, n, hd⟩, hz⟩ := I.tuple hs
  rw [Vals.ref1 r]
  have hi := rv.ints
  have hl := rv.length
  have hz2 : its.length ≤ sizeLine := by rw [← hl]; exact hz
  refine Calls.call_function_entry kind_sorted plain_sorted entry_sorted (args_sorted1 _) ?_
  unfold Builtin.«sorted»
  refine wpAny_bind (m := checkCount "sorted" 1 1 _) (wpAny_pure ?_)
  refine wpAny_bind (wpAny_collect_seq a (.inr rfl) ho hc hd (fun h' hk => ?_) (by rw [List.size_toArray]; exact hz2))
  have et : its.toArray.toList = its := by simp
  rw [et]
  refine wpAny_bind (wpAny_newList ?_ hz2)
  have hoL : (h'.push (seqObj "list" its.toArray 0)).get? h'.objs.size = some (seqObj "list" its.toArray 0) := Heap.get?_push_size _ rfl
  refine wpAny_bind (wpAny_holding (wpAny_call_entry slot_list_sort ⟨_, hoL, rfl⟩ entry_list_sort (list_sort_ord SrtO.swo_int hoL hz2 (fun h2 => SrtO.ints_sortable hi h2) fun out h1 h2 => ⟨_, rfl, ?_⟩) (args_list_sort _)))
  refine wpAny_pure ⟨_, rfl, ?_⟩
  obtain ⟨k1, k2, k3⟩ := SrtO.ints_out hi h1 h2
  obtain ⟨ep, he'⟩ := PyProof.Rows.sortedHeap_at (vs := its) (out := out.toArray) hoL
  have hlen : ((out.map SrtO.iv).map V.int).length ≤ sizeLine := by
    rw [List.length_map, k2.length_eq]
    rw [List.length_map] at hz
    exact hz
  have I1 := I.kept (t' := s.toks) hk
  refine ⟨.ref _, upd H h'.objs.size (.lst ((out.map SrtO.iv).map V.int)), I1.laid (t' := s.toks) (fun b u hb => ?_) (Nat.le_refl _) ⟨hlen, out, ep, vals_of_ints k1, he'⟩, rfl, q _ _ k2 k3 (I1.hok.fresh (Nat.le_refl _))⟩
  have hb : h'.get? b = some u := hb
  rw [PyProof.Rows.sortedHeap_old (Nat.ne_of_lt (Heap.lt_size hb)) (Heap.lt_size (Heap.get?_push_of_some _ hb))]
  exact Heap.get?_push_of_some _ hb
end
end Fs

set_option Elab.async false
set_option linter.all false
set_option maxRecDepth 100000
set_option maxHeartbeats 4000000
namespace Fs
open PySem L2

/-- the pen's place and its cells' place -/
abbrev PA := Option (Addr × Addr)
/-- a tuple of ours: its object is known, and bears no dict -/
def TupAt (G : Hp) (a : Addr) (xs : List V) : Prop := ∃ o : Obj, G a = some (.frz o (.tup xs)) ∧ o.dict = none
theorem TupAt.sq {G : Hp} {K : PySem.W.Frag} {a : Addr} {xs : List V} (h : TupAt G a xs) : SqT K G a xs := .inl (.inr (h.imp fun _ z => z.1))
theorem TupAt.up {G H : Hp} {a : Addr} {xs : List V} (h : TupAt G a xs) (k : ∀ a o, G a = some o → H a = some o) : TupAt H a xs := h.imp fun _ z => ⟨k _ _ z.1, z.2⟩
theorem TupAt.at1 {G H : Hp} {a : Addr} {xs : List V} (h : TupAt G a xs) (k : ∀ o, G a = some o → H a = some o) : TupAt H a xs := h.imp fun _ z => ⟨k _ z.1, z.2⟩
theorem TupAt.here {H : Hp} {a : Addr} {xs : List V} {o : Obj} (h : o.dict = none) : TupAt (upd H a (.frz o (.tup xs))) a xs := ⟨o, upd_same, h⟩
theorem TupAt.there {G : Hp} {a : Addr} {xs : List V} (h : TupAt G a xs) (z : G a = none) : False := by
  obtain ⟨o, e, _⟩ := h
  rw [z] at e; cases e
/-- what a new tuple is handed to -/
def mkT (H : Hp) (Q : VK) (xs : List V) : Prop := ∀ p o, H p = none → o.dict = none → Q (.ref p) (upd H p (.frz o (.tup xs)))

/-- an exception of the class cls at a -/
def exT (cls : Value) (d : Option Addr) (a : Addr) : HO := .ext fun h => ∃ (oe : Obj) (vs : Array Value), h.get? a = some oe ∧ L2.Zc cls d oe ∧ oe.data = .fields vs
mutual
inductive Rp (pa : PA) (G : Hp) : V → D → Prop where
  | non : Rp pa G .non .none
  | bl (b : Bool) : Rp pa G (.bl b) (.bool b)
  | int (i : Int) : Rp pa G (.int i) (.int i)
  | str (x : Str) : Rp pa G (.str x) (.str x)
  | lst {a : Addr} {xs : List V} {ds : List D} : G a = some (.lst xs) → Rps pa G xs ds → Rp pa G (.ref a) (.list ds)
  | tup {a : Addr} {xs : List V} {ds : List D} : TupAt G a xs → Rps pa G xs ds → Rp pa G (.ref a) (.tuple ds)
  | pen {a c : Addr} : pa = some (a, c) → Rp pa G (.ref a) (.dict [])
  | exc {a C : Addr} {c : Str} : G a = some (exT (.ref C) none a) → Rp pa G (.ref a) (.dict [(.int (C : Nat), .str c)])
inductive Rps (pa : PA) (G : Hp) : List V → List D → Prop where
  | nil : Rps pa G [] []
  | cons {v : V} {d : D} {vs : List V} {ds : List D} : Rp pa G v d → Rps pa G vs ds → Rps pa G (v :: vs) (d :: ds)
end

def Sub (G H : Hp) : Prop := ∀ a o, G a = some o → H a = some o
theorem Sub.refl {G : Hp} : Sub G G := fun _ _ h => h
theorem Sub.trans {F G H : Hp} (a : Sub F G) (b : Sub G H) : Sub F H := fun x o h => b x o (a x o h)
theorem Sub.upd {G : Hp} {a : Addr} {o : HO} (h : G a = none) : Sub G (upd G a o) := fun b u e => by
  rw [upd_ne (ne_of_none e h)]; exact e

section
variable {pa : PA} {G G' : Hp}
mutual
theorem Rp.mono (s : Sub G G') : ∀ {v : V} {d : D}, Rp pa G v d → Rp pa G' v d
  | _, _, .non => .non
  | _, _, .bl b => .bl b
  | _, _, .int i => .int i
  | _, _, .str x => .str x
  | _, _, .lst h r => .lst (s _ _ h) (Rps.mono s r)
  | _, _, .tup h r => .tup (h.up s) (Rps.mono s r)
  | _, _, .pen h => .pen h
  | _, _, .exc h => .exc (s _ _ h)
theorem Rps.mono (s : Sub G G') : ∀ {vs : List V} {ds : List D}, Rps pa G vs ds → Rps pa G' vs ds
  | _, _, .nil => .nil
  | _, _, .cons r t => .cons (Rp.mono s r) (Rps.mono s t)
end
mutual
theorem Rp.open (a : PA) (h : pa = none) : ∀ {v : V} {d : D}, Rp pa G v d → Rp a G v d
  | _, _, .non => .non
  | _, _, .bl b => .bl b
  | _, _, .int i => .int i
  | _, _, .str x => .str x
  | _, _, .lst e r => .lst e (Rps.open a h r)
  | _, _, .tup e r => .tup e (Rps.open a h r)
  | _, _, .pen e => by rw [h] at e; cases e
  | _, _, .exc e => .exc e
theorem Rps.open (a : PA) (h : pa = none) : ∀ {vs : List V} {ds : List D}, Rps pa G vs ds → Rps a G vs ds
  | _, _, .nil => .nil
  | _, _, .cons r t => .cons (Rp.open a h r) (Rps.open a h t)
end
theorem Rps.len : ∀ {vs : List V} {ds : List D}, Rps pa G vs ds → vs.length = ds.length
  | _, _, .nil => rfl
  | _, _, .cons _ t => by simp [Rps.len t]
theorem Rps.app : ∀ {vs us : List V} {ds es : List D}, Rps pa G vs ds → Rps pa G us es → Rps pa G (vs ++ us) (ds ++ es)
  | _, _, _, _, .nil, s => s
  | _, _, _, _, .cons r t, s => .cons r (Rps.app t s)
theorem Rps.get : ∀ {vs : List V} {ds : List D} {i : Nat} {d : D}, Rps pa G vs ds → ds[i]? = some d → ∃ v, vs[i]? = some v ∧ Rp pa G v d
  | _, _, _, _, .nil, e => by simp at e
  | _, _, 0, _, .cons r _, e => by simp at e; subst e; exact ⟨_, rfl, r⟩
  | _, _, i + 1, d, .cons _ t, e => by
    obtain ⟨v, h, r⟩ := Rps.get (i := i) t (by simpa using e)
    exact ⟨v, by simpa using h, r⟩
theorem Rps.getV : ∀ {vs : List V} {ds : List D} {i : Nat} {v : V}, Rps pa G vs ds → vs[i]? = some v → ∃ d, ds[i]? = some d ∧ Rp pa G v d
  | _, _, _, _, .nil, e => by simp at e
  | _, _, 0, _, .cons r _, e => by simp at e; subst e; exact ⟨_, rfl, r⟩
  | _, _, i + 1, v, .cons _ t, e => by
    obtain ⟨d, h, r⟩ := Rps.getV (i := i) t (by simpa using e)
    exact ⟨d, by simpa using h, r⟩
theorem Rps.take : ∀ {vs : List V} {ds : List D} (n : Nat), Rps pa G vs ds → Rps pa G (vs.take n) (ds.take n)
  | _, _, 0, _ => .nil
  | _, _, _ + 1, .nil => .nil
  | _, _, n + 1, .cons r t => .cons r (Rps.take n t)
theorem Rps.drop : ∀ {vs : List V} {ds : List D} (n : Nat), Rps pa G vs ds → Rps pa G (vs.drop n) (ds.drop n)
  | _, _, 0, r => r
  | _, _, _ + 1, .nil => .nil
  | _, _, n + 1, .cons _ t => Rps.drop n t
theorem Rps.set {v : V} {d : D} (r : Rp pa G v d) : ∀ {vs : List V} {ds : List D} (i : Nat), Rps pa G vs ds → Rps pa G (vs.set i v) (ds.set i d)
  | _, _, _, .nil => .nil
  | _, _, 0, .cons _ t => .cons r t
  | _, _, i + 1, .cons q t => .cons q (Rps.set r i t)
theorem Rps.rev {vs : List V} {ds : List D} (h : Rps pa G vs ds) : Rps pa G vs.reverse ds.reverse := by
  induction vs generalizing ds with
  | nil => cases h; exact .nil
  | cons v vs ih =>
    cases h with
    | cons r t => rw [List.reverse_cons, List.reverse_cons]; exact (ih t).app (.cons r .nil)
theorem Rps.rep {vs : List V} {ds : List D} (h : Rps pa G vs ds) : ∀ k : Nat, Rps pa G (List.replicate k vs).flatten (List.replicate k ds).flatten
  | 0 => .nil
  | k + 1 => by rw [List.replicate_succ, List.replicate_succ, List.flatten_cons, List.flatten_cons]; exact h.app (Rps.rep h k)
theorem Rps.ints : ∀ {vs : List V} {ds : List D} {ns : List Int}, Rps pa G vs ds → intsOf ds = some ns → vs = ns.map V.int
  | _, _, _, .nil, e => by cases e; rfl
  | _, _, ns, .cons r t, e => by
    cases r with
    | int i =>
      rename_i vs ds
      cases h : intsOf ds with
      | none => rw [intsOf, h] at e; cases e
      | some ms =>
        rw [intsOf, h] at e
        obtain rfl : i :: ms = ns := by simpa using e
        rw [Rps.ints t h, List.map_cons]
    | _ => cases e
theorem Rps.ofInts : ∀ (ns : List Int), Rps pa G (ns.map V.int) (ns.map .int)
  | [] => .nil
  | n :: ns => .cons (.int n) (Rps.ofInts ns)
theorem Rps.bools : ∀ {vs : List V} {ds : List D} {bs : List Bool}, Rps pa G vs ds → boolsOf ds = some bs → vs = bs.map V.bl
  | _, _, _, .nil, e => by cases e; rfl
  | _, _, ns, .cons r t, e => by
    cases r with
    | bl i =>
      rename_i vs ds
      cases h : boolsOf ds with
      | none => rw [boolsOf, h] at e; cases e
      | some ms =>
        rw [boolsOf, h] at e
        obtain rfl : i :: ms = ns := by simpa using e
        rw [Rps.bools t h, List.map_cons]
    | _ => cases e
/-- data without dicts are the hand layer's data -/
theorem Rp.dps (K : PySem.W.Frag) : ∀ (n : Nat), (∀ {v : V} {d : D}, good n d = true → Rp pa G v d → Dp K G v d) ∧ ∀ {vs : List V} {ds : List D}, goods n ds = true → Rps pa G vs ds → DpAll K G vs ds := by
  intro n
  induction n with
  | zero =>
    have h1 : ∀ {v : V} {d : D}, good 0 d = true → Rp pa G v d → Dp K G v d := by
      intro v d g r
      cases r with
      | non => exact .non
      | bl b => exact .bl b
      | int i => exact .int i
      | str x => exact .str x
      | lst h r => simp [good] at g
      | tup h r => simp [good] at g
      | pen h => simp [good] at g
      | exc h => simp [good] at g
    refine ⟨h1, ?_⟩
    intro vs ds g r
    induction vs generalizing ds with
    | nil => cases r; exact .nil
    | cons v vs ih =>
      cases r with
      | cons r t =>
        simp only [goods, Bool.and_eq_true] at g
        exact .cons (h1 g.1 r) (ih g.2 t)
  | succ n ih =>
    have h1 : ∀ {v : V} {d : D}, good (n + 1) d = true → Rp pa G v d → Dp K G v d := by
      intro v d g r
      cases r with
      | non => exact .non
      | bl b => exact .bl b
      | int i => exact .int i
      | str x => exact .str x
      | lst h r => exact .lst (.of h) (ih.2 (by simpa [good] using g) r)
      | tup h r => exact .tup h.sq (ih.2 (by simpa [good] using g) r)
      | pen h => simp [good] at g
      | exc h => simp [good] at g
    refine ⟨h1, ?_⟩
    intro vs ds g r
    induction vs generalizing ds with
    | nil => cases r; exact .nil
    | cons v vs ih2 =>
      cases r with
      | cons r t =>
        simp only [goods, Bool.and_eq_true] at g
        exact .cons (h1 g.1 r) (ih2 g.2 t)
theorem Rp.dp (K : PySem.W.Frag) {n : Nat} {v : V} {d : D} (g : good n d = true) (r : Rp pa G v d) : Dp K G v d := (Rp.dps K n).1 g r
end

theorem good_lay : ∀ (n : Nat), (∀ d : D, good n d = true → d.canLay0 = true ∧ d.depth ≤ n) ∧ ∀ ds : List D, goods n ds = true → PyData.canLayAll0 ds = true ∧ PyData.depthAll ds ≤ n := by
  intro n
  induction n with
  | zero =>
    have h1 : ∀ d : D, good 0 d = true → d.canLay0 = true ∧ d.depth ≤ 0 := by
      intro d g
      cases d with
      | list xs => simp [good] at g
      | tuple xs => simp [good] at g
      | dict xs => simp [good] at g
      | str x => simpa [PyData.canLay0, PyData.depth, good] using g
      | _ => simp [PyData.canLay0, PyData.depth]
    refine ⟨h1, ?_⟩
    intro ds
    induction ds with
    | nil => simp [PyData.canLayAll0, PyData.depthAll]
    | cons d ds ih =>
      intro g
      simp only [goods, Bool.and_eq_true] at g
      have a := h1 d g.1
      have b := ih g.2
      simp only [PyData.canLayAll0, PyData.depthAll, Bool.and_eq_true]
      exact ⟨⟨a.1, b.1⟩, by omega⟩
  | succ n ih =>
    have h1 : ∀ d : D, good (n + 1) d = true → d.canLay0 = true ∧ d.depth ≤ n + 1 := by
      intro d g
      cases d with
      | list xs =>
        have a := ih.2 xs (by simpa [good] using g)
        simp only [PyData.canLay0, PyData.depth]
        exact ⟨a.1, by omega⟩
      | tuple xs =>
        have a := ih.2 xs (by simpa [good] using g)
        simp only [PyData.canLay0, PyData.depth]
        exact ⟨a.1, by omega⟩
      | dict xs => simp [good] at g
      | str x => simpa [PyData.canLay0, PyData.depth, good] using g
      | _ => simp [PyData.canLay0, PyData.depth]
    refine ⟨h1, ?_⟩
    intro ds
    induction ds with
    | nil => simp [PyData.canLayAll0, PyData.depthAll]
    | cons d ds ih2 =>
      intro g
      simp only [goods, Bool.and_eq_true] at g
      have a := h1 d g.1
      have b := ih2 g.2
      simp only [PyData.canLayAll0, PyData.depthAll, Bool.and_eq_true]
      exact ⟨⟨a.1, b.1⟩, by omega⟩
theorem good_shaped {d : D} (g : good 60 d = true) : SeqAt.shaped d = true := by
  have a := (good_lay 60).1 d g
  show (d.canLay0 && decide (d.depth ≤ 64)) = true
  rw [Bool.and_eq_true]
  exact ⟨a.1, decide_eq_true (by omega)⟩

def pen1 (pa : PA) (a : Addr) : Prop := ∃ c, pa = some (a, c)
/-- the pen stands at its place -/
def PenAt (pa : PA) (G H : Hp) (p : Option Pn) : Prop :=
  match pa, p with
  | none, none => True
  | some (a, c), some q => c ≠ a ∧ H a = some (.lst [.ref c, .int q.a, .int q.r]) ∧ G c = some (.lst (q.cells.map V.int)) ∧ G a = none
  | _, _ => False
theorem PenAt.free {pa : PA} {G H : Hp} {p : Option Pn} (h : PenAt pa G H p) {a : Addr} (e : pen1 pa a) : G a = none := by
  obtain ⟨c, rfl⟩ := e
  cases p with
  | none => exact h.elim
  | some q => exact h.2.2.2
theorem PenAt.up {pa : PA} {G G' H : Hp} {p : Option Pn} (h : PenAt pa G H p) (gk : Sub G G') (n : ∀ a, pen1 pa a → G' a = none) : PenAt pa G' H p := by
  cases pa with
  | none => cases p with
    | none => trivial
    | some q => exact h.elim
  | some x =>
    obtain ⟨a, c⟩ := x
    cases p with
    | none => exact h.elim
    | some q => exact ⟨h.1, h.2.1, gk _ _ h.2.2.1, n a ⟨c, rfl⟩⟩
theorem PenAt.there {pa : PA} {G H : Hp} {p : Option Pn} (h : PenAt pa G H p) {a : Addr} (e : pen1 pa a) : ∃ o, H a = some o := by
  obtain ⟨c, rfl⟩ := e
  cases p with
  | none => exact h.elim
  | some q => exact ⟨_, h.2.1⟩

/-- the slot's own list stands at a -/
def OwnAt (σ : L2.St) (s : S) (a : Addr) : Prop := ∃ (i : Nat) (d : D), s.sl[i]? = some (some (d, true)) ∧ σ[i]? = some (some (V.ref a))

structure Sim (pa : PA) (H0 G0 G : Hp) (σ : L2.St) (H : Hp) (s : S) : Prop where
  len : σ.length = s.sl.length
  sub : Sub G H
  base : Sub G0 G
  new : ∀ a o, G a = some o → G0 a = some o ∨ H0 a = none
  kee : ∀ a o, H0 a = some o → ¬ pen1 pa a → H a = some o
  pen : PenAt pa G H s.pn
  fz : ∀ (i : Nat) (d : D), s.sl[i]? = some (some (d, false)) → ∃ v, σ[i]? = some (some v) ∧ Rp pa G v d
  ow : ∀ (i : Nat) (d : D), s.sl[i]? = some (some (d, true)) → ∃ a xs ds, σ[i]? = some (some (V.ref a)) ∧ d = .list ds ∧ H a = some (.lst xs) ∧ Rps pa G xs ds ∧ G a = none ∧ H0 a = none ∧ ¬ pen1 pa a
  dis : ∀ (i j : Nat) (d e : D) (a : Addr), s.sl[i]? = some (some (d, true)) → s.sl[j]? = some (some (e, true)) → σ[i]? = some (some (V.ref a)) → σ[j]? = some (some (V.ref a)) → i = j

structure Ext (pa : PA) (G G' H H' : Hp) (σ : L2.St) (s s' : S) : Prop where
  hk : ∀ a o, H a = some o → ¬ pen1 pa a → H' a = some o
  gk : Sub G G'
  gn : ∀ a o, G' a = some o → G a = some o ∨ H a = none ∨ OwnAt σ s a
  ln : s'.sl.length = s.sl.length
  sn : ∀ (i : Nat), s.sl[i]? = some none → s'.sl[i]? = some none
  sl : ∀ (i : Nat) (d : D) (f : Bool), s.sl[i]? = some (some (d, f)) → ∃ f', s'.sl[i]? = some (some (d, f')) ∧ (f' = true → f = true)

section
variable {pa : PA} {H0 G0 G G1 G2 H H1 H2 : Hp} {σ : L2.St} {s s1 s2 : S}
theorem Ext.refl : Ext pa G G H H σ s s := ⟨fun _ _ h _ => h, .refl, fun _ _ h => .inl h, rfl, fun _ h => h, fun _ _ f h => ⟨f, h, fun z => z⟩⟩
theorem Ext.own (e : Ext pa G G1 H H1 σ s s1) {a : Addr} (o : OwnAt σ s1 a) : OwnAt σ s a := by
  obtain ⟨i, d, h1, h2⟩ := o
  cases q : s.sl[i]? with
  | none =>
    have : s1.sl[i]? = none := by
      rw [List.getElem?_eq_none_iff] at q ⊢
      rw [e.ln]; exact q
    rw [this] at h1; cases h1
  | some x =>
    cases x with
    | none => rw [e.sn i q] at h1; cases h1
    | some p =>
      obtain ⟨d', f⟩ := p
      obtain ⟨f', h3, h4⟩ := e.sl i d' f q
      rw [h1] at h3
      cases h3
      exact ⟨i, d, by rw [q, h4 rfl], h2⟩
theorem Ext.trans (S2 : Sim pa H0 G0 G2 σ H2 s2) (e : Ext pa G G1 H H1 σ s s1) (e2 : Ext pa G1 G2 H1 H2 σ s1 s2) : Ext pa G G2 H H2 σ s s2 where
  hk := fun a o h n => e2.hk a o (e.hk a o h n) n
  gk := e.gk.trans e2.gk
  gn := fun a o h => by
    rcases e2.gn a o h with q | q | q
    · exact e.gn a o q
    · cases z : H a with
      | none => exact .inr (.inl rfl)
      | some u =>
        by_cases n : pen1 pa a
        · rw [S2.pen.free n] at h; cases h
        · rw [e.hk a u z n] at q; cases q
    · exact .inr (.inr (e.own q))
  ln := e2.ln.trans e.ln
  sn := fun i h => e2.sn i (e.sn i h)
  sl := fun i d f h => by
    obtain ⟨f1, h1, h2⟩ := e.sl i d f h
    obtain ⟨f2, h3, h4⟩ := e2.sl i d f1 h1
    exact ⟨f2, h3, fun z => h2 (h4 z)⟩

/-- how a value stands -/
def RT (pa : PA) (H0 G : Hp) (σ : L2.St) (H : Hp) (s : S) (v : V) (d : D) : Tg → Prop
  | .fz => Rp pa G v d
  | .fresh => ∃ a xs ds, v = .ref a ∧ d = .list ds ∧ H a = some (.lst xs) ∧ Rps pa G xs ds ∧ G a = none ∧ H0 a = none ∧ ¬ pen1 pa a ∧ ¬ OwnAt σ s a
  | .slot i => ∃ f, s.sl[i]? = some (some (d, f)) ∧ σ[i]? = some (some v)
/-- new since Hs -/
def NewT (Hs : Hp) (v : V) (t : Tg) : Prop := t = .fresh → ∀ a, v = .ref a → Hs a = none
/-- the top of a value in the whole heap, what is in it in G -/
def RpT (pa : PA) (G H : Hp) (v : V) (d : D) : Prop :=
  match d with
  | .list ds => ∃ a xs, v = .ref a ∧ H a = some (.lst xs) ∧ Rps pa G xs ds
  | d => Rp pa G v d
theorem RpT.of (u : Sub G H) {v : V} {d : D} (r : Rp pa G v d) : RpT pa G H v d := by
  cases r with
  | lst h r => exact ⟨_, _, rfl, u _ _ h, r⟩
  | non => exact .non
  | bl b => exact .bl b
  | int i => exact .int i
  | str x => exact .str x
  | tup h r => exact .tup h r
  | pen h => exact .pen h
  | exc h => exact .exc h
theorem RpT.all (u : Sub G H) {v : V} {d : D} (r : RpT pa G H v d) : Rp pa H v d := by
  cases d with
  | list ds =>
    obtain ⟨a, xs, rfl, h, r⟩ := r
    exact .lst h (r.mono u)
  | _ => exact Rp.mono u (show Rp pa G v _ from r)
theorem RT.top (S1 : Sim pa H0 G0 G σ H s) {v : V} {d : D} {t : Tg} (r : RT pa H0 G σ H s v d t) : RpT pa G H v d := by
  cases t with
  | fz => exact .of S1.sub r
  | fresh =>
    obtain ⟨a, xs, ds, rfl, rfl, h, r, _⟩ := r
    exact ⟨a, xs, rfl, h, r⟩
  | slot i =>
    obtain ⟨f, h1, h2⟩ := r
    cases f with
    | false =>
      obtain ⟨w, h3, r⟩ := S1.fz i d h1
      rw [h2] at h3
      cases h3
      exact .of S1.sub r
    | true =>
      obtain ⟨a, xs, ds, h3, rfl, h, r, _⟩ := S1.ow i d h1
      rw [h2] at h3
      cases h3
      exact ⟨a, xs, rfl, h, r⟩
theorem RT.ext (S2 : Sim pa H0 G0 G1 σ H1 s1) (e : Ext pa G G1 H H1 σ s s1) {v : V} {d : D} {t : Tg} (r : RT pa H0 G σ H s v d t) : RT pa H0 G1 σ H1 s1 v d t := by
  cases t with
  | fz => exact Rp.mono e.gk r
  | fresh =>
    obtain ⟨a, xs, ds, rfl, rfl, h, r, g, h0, n, o⟩ := r
    refine ⟨a, xs, ds, rfl, rfl, e.hk a _ h n, r.mono e.gk, ?_, h0, n, fun z => o (e.own z)⟩
    cases q : G1 a with
    | none => rfl
    | some u =>
      rcases e.gn a u q with z | z | z
      · rw [g] at z; cases z
      · rw [h] at z; cases z
      · exact (o z).elim
  | slot i =>
    obtain ⟨f, h1, h2⟩ := r
    obtain ⟨f', h3, _⟩ := e.sl i d f h1
    exact ⟨f', h3, h2⟩

theorem freeze_len (s : S) (i : Nat) : (s.freeze i).sl.length = s.sl.length := by simp [S.freeze]
theorem freeze_ne {s : S} {i j : Nat} (h : i ≠ j) : (s.freeze i).sl[j]? = s.sl[j]? := by
  simp only [S.freeze]
  rw [List.getElem?_modify]
  simp [h]
theorem freeze_at {s : S} {i : Nat} {d : D} {f : Bool} (h : s.sl[i]? = some (some (d, f))) : (s.freeze i).sl[i]? = some (some (d, false)) := by
  simp only [S.freeze]
  rw [List.getElem?_modify]
  simp [h]
theorem freeze_none {s : S} {i : Nat} (h : s.sl[i]? = some none) : (s.freeze i).sl[i]? = some none := by
  simp only [S.freeze]
  rw [List.getElem?_modify]
  simp [h]
/-- only flags change -/
theorem freeze_ext (i : Nat) (gn : ∀ a o, G1 a = some o → G a = some o ∨ H a = none ∨ OwnAt σ s a) (gk : Sub G G1) : Ext pa G G1 H H σ s (s.freeze i) where
  hk := fun _ _ h _ => h
  gk := gk
  gn := gn
  ln := freeze_len s i
  sn := fun j h => by
    by_cases z : i = j
    · subst z; exact freeze_none h
    · rw [freeze_ne z]; exact h
  sl := fun j d f h => by
    by_cases z : i = j
    · subst z; exact ⟨false, freeze_at h, fun q => by cases q⟩
    · exact ⟨f, by rw [freeze_ne z]; exact h, fun q => q⟩
/-- a list of our own comes into G -/
theorem Sim.take {a : Addr} {xs : List V} {ds : List D} (S1 : Sim pa H0 G0 G σ H s) (h : H a = some (.lst xs)) (g : G a = none) (h0 : H0 a = none) (n : ¬ pen1 pa a) (r : Rps pa G xs ds) (no : ¬ OwnAt σ s a) :
    Sim pa H0 G0 (upd G a (.lst xs)) σ H s ∧ Rp pa (upd G a (.lst xs)) (.ref a) (.list ds) := by
  have gk : Sub G (upd G a (.lst xs)) := .upd g
  refine ⟨⟨S1.len, fun b o e => ?_, S1.base.trans gk, fun b o e => ?_, S1.kee, ?_, fun i d e => ?_, fun i d e => ?_, S1.dis⟩, .lst upd_same (r.mono gk)⟩
  · by_cases z : b = a
    · subst z; rw [upd_same] at e; cases e; exact h
    · rw [upd_ne z] at e; exact S1.sub b o e
  · by_cases z : b = a
    · subst z; exact .inr h0
    · rw [upd_ne z] at e; exact S1.new b o e
  · have p := S1.pen
    refine p.up gk fun b hb => ?_
    rw [upd_ne]
    · exact p.free hb
    · rintro rfl; exact n hb
  · obtain ⟨v, e1, e2⟩ := S1.fz i d e
    exact ⟨v, e1, e2.mono gk⟩
  · obtain ⟨b, ys, es, e1, e2, e3, e4, e5, e6, e7⟩ := S1.ow i d e
    refine ⟨b, ys, es, e1, e2, e3, e4.mono gk, ?_, e6, e7⟩
    rw [upd_ne]
    · exact e5
    · rintro rfl; exact no ⟨i, d, e, e1⟩
/-- a value is kept for good -/
theorem RT.keep {Hs : Hp} {ss : S} {Gs : Hp} (S1 : Sim pa H0 G0 G σ H s) (E : Ext pa Gs G Hs H σ ss s) {v : V} {d : D} {t : Tg} (r : RT pa H0 G σ H s v d t) (nw : NewT Hs v t) :
    ∃ G', Sim pa H0 G0 G' σ H (s.keep t) ∧ Ext pa Gs G' Hs H σ ss (s.keep t) ∧ Sub G G' ∧ (∀ b o, G' b = some o → G b = some o ∨ v = .ref b) ∧ Rp pa G' v d := by
  cases t with
  | fz => exact ⟨G, S1, E, .refl, fun b o e => .inl e, r⟩
  | fresh =>
    obtain ⟨a, xs, ds, rfl, rfl, h, r, g, h0, n, o⟩ := r
    obtain ⟨S2, r2⟩ := S1.take h g h0 n r o
    refine ⟨_, S2, ⟨E.hk, E.gk.trans (.upd g), fun b u e => ?_, E.ln, E.sn, E.sl⟩, .upd g, fun b u e => ?_, r2⟩
    · by_cases z : b = a
      · subst z; exact .inr (.inl (nw rfl _ rfl))
      · rw [upd_ne z] at e; exact E.gn b u e
    · by_cases z : b = a
      · subst z; exact .inr rfl
      · rw [upd_ne z] at e; exact .inl e
  | slot i =>
    obtain ⟨f, h1, h2⟩ := r
    show ∃ G', Sim pa H0 G0 G' σ H (s.freeze i) ∧ _
    have sm : ∀ {G' : Hp}, Sim pa H0 G0 G' σ H s → (∀ a, σ[i]? = some (some (V.ref a)) → f = true → ∃ u, G' a = some u) → Rp pa G' v d → Sim pa H0 G0 G' σ H (s.freeze i) := fun {G'} S2 hg rv =>
      ⟨S2.len.trans (freeze_len s i).symm, S2.sub, S2.base, S2.new, S2.kee, S2.pen, fun j e q => by
        by_cases z : i = j
        · subst z
          rw [freeze_at h1] at q; cases q
          exact ⟨v, h2, rv⟩
        · rw [freeze_ne z] at q; exact S2.fz j e q, fun j e q => by
        by_cases z : i = j
        · subst z; rw [freeze_at h1] at q; cases q
        · rw [freeze_ne z] at q; exact S2.ow j e q, fun j k e e' a q q' => by
        by_cases z : i = j
        · subst z; rw [freeze_at h1] at q; cases q
        · by_cases z' : i = k
          · subst z'; rw [freeze_at h1] at q'; cases q'
          · rw [freeze_ne z] at q; rw [freeze_ne z'] at q'; exact S2.dis j k e e' a q q'⟩
    cases f with
    | false =>
      obtain ⟨w, h3, rw'⟩ := S1.fz i d h1
      rw [h2] at h3; cases h3
      refine ⟨G, sm S1 (fun a _ z => by cases z) rw', ?_, .refl, fun b o e => .inl e, rw'⟩
      have e2 : Ext pa G G H H σ s (s.freeze i) := freeze_ext i (fun _ _ h => .inl h) .refl
      exact ⟨E.hk, E.gk, E.gn, e2.ln.trans E.ln, fun j h => e2.sn j (E.sn j h), fun j d f h => by
        obtain ⟨f1, a1, a2⟩ := E.sl j d f h
        obtain ⟨f2, a3, a4⟩ := e2.sl j d f1 a1
        exact ⟨f2, a3, fun z => a2 (a4 z)⟩⟩
    | true =>
      obtain ⟨a, xs, ds, h3, rfl, h, r, g, h0, n⟩ := S1.ow i d h1
      rw [h2] at h3; cases h3
      have own : OwnAt σ s a := ⟨i, _, h1, h2⟩
      -- first the slot is frozen by hand, then the list is taken
      have gk : Sub G (upd G a (.lst xs)) := .upd g
      have rv : Rp pa (upd G a (.lst xs)) (.ref a) (.list ds) := .lst upd_same (r.mono gk)
      refine ⟨upd G a (.lst xs), ⟨S1.len.trans (freeze_len s i).symm, fun b o e => ?_, S1.base.trans gk, fun b o e => ?_, S1.kee, ?_, fun j e q => ?_, fun j e q => ?_, fun j k e e' b q q' p p' => ?_⟩, ?_, gk, fun b u e => ?_, rv⟩
      · by_cases z : b = a
        · subst z; rw [upd_same] at e; cases e; exact h
        · rw [upd_ne z] at e; exact S1.sub b o e
      · by_cases z : b = a
        · subst z; exact .inr h0
        · rw [upd_ne z] at e; exact S1.new b o e
      · have p := S1.pen
        show PenAt pa _ H s.pn
        refine p.up gk fun b hb => ?_
        rw [upd_ne]
        · exact p.free hb
        · rintro rfl; exact n hb
      · by_cases z : i = j
        · subst z
          rw [freeze_at h1] at q; cases q
          exact ⟨_, h2, rv⟩
        · rw [freeze_ne z] at q
          obtain ⟨w, e1, e2⟩ := S1.fz j e q
          exact ⟨w, e1, e2.mono gk⟩
      · by_cases z : i = j
        · subst z; rw [freeze_at h1] at q; cases q
        · rw [freeze_ne z] at q
          obtain ⟨b, ys, es, e1, e2, e3, e4, e5, e6, e7⟩ := S1.ow j e q
          refine ⟨b, ys, es, e1, e2, e3, e4.mono gk, ?_, e6, e7⟩
          rw [upd_ne]
          · exact e5
          · rintro rfl; exact z (S1.dis i j _ _ _ h1 q h2 e1)
      · by_cases z : i = j
        · subst z; rw [freeze_at h1] at q; cases q
        · by_cases z' : i = k
          · subst z'; rw [freeze_at h1] at q'; cases q'
          · rw [freeze_ne z] at q; rw [freeze_ne z'] at q'; exact S1.dis j k e e' b q q' p p'
      · have e2 : Ext pa G (upd G a (.lst xs)) H H σ s (s.freeze i) := freeze_ext i (fun b o e => by
          by_cases z : b = a
          · subst z; exact .inr (.inr own)
          · rw [upd_ne z] at e; exact .inl e) gk
        refine ⟨E.hk, E.gk.trans gk, fun b o e => ?_, e2.ln.trans E.ln, fun j h => e2.sn j (E.sn j h), fun j d f h => ?_⟩
        · by_cases z : b = a
          · subst z; exact .inr (.inr (E.own own))
          · rw [upd_ne z] at e; exact E.gn b o e
        · obtain ⟨f1, a1, a2⟩ := E.sl j d f h
          obtain ⟨f2, a3, a4⟩ := e2.sl j d f1 a1
          exact ⟨f2, a3, fun z => a2 (a4 z)⟩
      · by_cases z : b = a
        · subst z; exact .inr rfl
        · rw [upd_ne z] at e; exact .inl e
end
end Fs

set_option Elab.async false
set_option linter.all false
set_option maxRecDepth 100000
set_option maxHeartbeats 4000000
namespace Fs
open PySem L2

structure Em where
  ps : List Pos
  sc : List Scope
  st : List Stmt
def Em.p (E : Em) : Pos := E.ps.headD ⟨0, 0, 0, 0⟩
def Em.np (E : Em) : Em := { E with ps := E.ps.tail }
def noScope : Scope := { kind := .function, names := [], isGenerator := false, isCoroutine := false }
def Em.s (E : Em) : Scope := E.sc.headD noScope
def Em.ns (E : Em) : Em := { E with sc := E.sc.tail }
def nm (N : List Str) (i : Nat) : Str := N.getD i ""

def Ty5.name : Ty5 → Str
  | .int => "int" | .bool => "bool" | .tuple => "tuple" | .list => "list" | .str => "str"
def Ty5.ty : Ty5 → String
  | .int => "int" | .bool => "bool" | .tuple => "tuple" | .list => "list" | .str => "str"
def Bf.name : Bf → Str
  | .len => "len" | .all => "all" | .any => "any" | .sum => "sum" | .max => "max" | .min => "min"
  | .tuple => "tuple" | .list => "list" | .repr => "repr" | .int => "int" | .sset => "sorted" | .lrange => "list" | .rev1 => "" | .cnt => "" | .trange => "tuple" | .dnew => "" | .srt => "sorted" | .stp => "" | .stl => "" | .sth => "" | .st3 => "" | .idx => "" | .mth _ => ""

def emNames (N : List Str) : List Nat → Em → List Expr × Em
  | [], E => ([], E)
  | i :: is, E =>
    let r := emNames N is E.np
    (.Name (nm N i) E.p :: r.1, r.2)
def emTr (N : List Str) : Tr → Em → Expr × Em
  | .v i, E => (.Name (nm N i) E.p, E.np)
  | .t is, E =>
    let r := emNames N is E.np
    (.Tuple r.1 0 E.p, r.2)
  | .n i is, E =>
    let r := emNames N is E.np.np.np
    (.Tuple [.Name (nm N i) E.np.p, .Tuple r.1 0 E.np.np.p] 0 E.p, r.2)

mutual
def emE (N : List Str) : IE → Em → Expr × Em
  | .var i, E => (.Name (nm N i) E.p, E.np)
  | .int n, E => (.Constant (.int n) 0 E.p, E.np)
  | .bool b, E => (.Constant (.bool b) 0 E.p, E.np)
  | .non, E => (.Constant .none 0 E.p, E.np)
  | .str x, E => (.Constant (.str x) 0 E.p, E.np)
  | .glob x _, E => (.Name x E.p, E.np)
  | .bin op a b, E =>
    let r := emE N a E.np
    let q := emE N b r.2
    (.BinOp r.1 op q.1 E.p, q.2)
  | .neg a, E =>
    let r := emE N a E.np
    (.UnaryOp .USub r.1 E.p, r.2)
  | .not a, E =>
    let r := emE N a E.np
    (.UnaryOp .Not r.1 E.p, r.2)
  | .cmp op a b, E =>
    let r := emE N a E.np
    let q := emE N b r.2
    (.Compare r.1 [op] [q.1] E.p, q.2)
  | .isN a, E =>
    let r := emE N a E.np
    (.Compare r.1 [.Is] [.Constant .none 0 r.2.p] E.p, r.2.np)
  | .notN a, E =>
    let r := emE N a E.np
    (.Compare r.1 [.IsNot] [.Constant .none 0 r.2.p] E.p, r.2.np)
  | .cmp2 o p a b c, E =>
    let r := emE N a E.np
    let q := emE N b r.2
    let t := emE N c q.2
    (.Compare r.1 [o, p] [q.1, t.1] E.p, t.2)
  | .and es, E =>
    let r := emEs N es E.np
    (.BoolOp .And r.1 E.p, r.2)
  | .or es, E =>
    let r := emEs N es E.np
    (.BoolOp .Or r.1 E.p, r.2)
  | .ite c a b, E =>
    let r := emE N c E.np
    let q := emE N a r.2
    let t := emE N b q.2
    (.IfExp r.1 q.1 t.1 E.p, t.2)
  | .tup es, E =>
    let r := emEs N es E.np
    (.Tuple r.1 0 E.p, r.2)
  | .lst es, E =>
    let r := emEs N es E.np
    (.List r.1 E.p, r.2)
  | .ix a b, E =>
    let r := emE N a E.np
    let q := emE N b r.2
    (.Subscript r.1 q.1 E.p, q.2)
  | .sl a lo hi, E =>
    let r := emE N a E.np.np
    let q := emO N lo r.2
    let t := emO N hi q.2
    (.Subscript r.1 (.Slice q.1 t.1 none E.np.p) E.p, t.2)
  | .isi a t, E =>
    let r := emE N a E.np.np
    (.Call (.Name "isinstance" E.np.p) [r.1, .Name t.name r.2.p] [] E.p, r.2.np)
  | .blt .sset es, E =>
    let r := emEs N es E.np.np.np.np
    (.Call (.Name "sorted" E.np.p) [.Call (.Name "set" E.np.np.np.p) r.1 [] E.np.np.p] [] E.p, r.2)
  | .blt .lrange es, E =>
    let r := emEs N es E.np.np.np.np
    (.Call (.Name "list" E.np.p) [.Call (.Name "range" E.np.np.np.p) r.1 [] E.np.np.p] [] E.p, r.2)
  | .blt .trange es, E =>
    let r := emEs N es E.np.np.np.np
    (.Call (.Name "tuple" E.np.p) [.Call (.Name "range" E.np.np.np.p) r.1 [] E.np.np.p] [] E.p, r.2)
  | .blt .rev1 es, E =>
    let r := emEs N es E.np.np.np.np
    (.Subscript (r.1.headD (.Name "" E.p)) (.Slice none none (some (.UnaryOp .USub (.Constant (.int 1) 0 E.np.np.np.p) E.np.np.p)) E.np.p) E.p, r.2)
  | .blt .cnt es, E =>
    let r := emEs N es E.np.np
    (.Call (.Attribute (r.1.headD (.Name "" E.p)) "count" E.np.p) r.1.tail [] E.p, r.2)
  | .blt .idx es, E =>
    let r := emEs N es E.np.np
    (.Call (.Attribute (r.1.headD (.Name "" E.p)) "index" E.np.p) r.1.tail [] E.p, r.2)
  | .blt (.mth m) es, E =>
    let r := emEs N es E.np.np
    (.Call (.Attribute (r.1.headD (.Name "" E.p)) m E.np.p) r.1.tail [] E.p, r.2)
  | .blt .stp es, E =>
    let r := emEs N es E.np.np
    (.Tuple (.Starred (r.1.headD (.Name "" E.p)) E.np.p :: r.1.tail) 0 E.p, r.2)
  | .blt .stl es, E =>
    let r := emEs N es E.np.np
    (.List (.Starred (r.1.headD (.Name "" E.p)) E.np.p :: r.1.tail) E.p, r.2)
  | .blt .sth es, E =>
    let r := emEs N es E.np.np
    (.List [r.1.headD (.Name "" E.p), .Starred (r.1.tail.headD (.Name "" E.p)) E.np.p] E.p, r.2)
  | .blt .st3 es, E =>
    let r := emEs N es E.np.np.np
    (.Tuple [.Starred (r.1.headD (.Name "" E.p)) E.np.p, r.1.tail.headD (.Name "" E.p), .Starred (r.1.tail.tail.headD (.Name "" E.p)) E.np.np.p] 0 E.p, r.2)
  | .blt .dnew _, E => (.Dict [] [] E.p, E.np)
  | .blt f es, E =>
    let r := emEs N es E.np.np
    (.Call (.Name f.name E.np.p) r.1 [] E.p, r.2)
  | .call x _ es, E =>
    let r := emEs N es E.np.np
    (.Call (.Name x E.np.p) r.1 [] E.p, r.2)
  | .one x a b, E =>
    let r := emE N a E.np.np
    let q := emE N b r.2
    (.Call (.Name x E.np.p) [r.1, q.1] [] E.p, q.2)
  | .pix i j, E => (.Subscript (.Name (nm N i) E.np.p) (.Constant (.int j) 0 E.np.np.p) E.p, E.np.np.np)
  | .lc elt tg src ifs, E =>
    let t := emE N elt E.np.ns
    let g := emTr N tg t.2
    let r := emSr N src g.2
    let q := emEs N ifs r.2
    (.ListComp t.1 [⟨g.1, r.1, q.1, 0⟩] E.s E.p, q.2)
  | .isX x _ _ _ a, E =>
    let r := emE N a E.np.np
    (.Call (.Name "isinstance" E.np.p) [r.1, .Name x r.2.p] [] E.p, r.2.np)
  | .attr a m, E =>
    let r := emE N a E.np
    (.Attribute r.1 m E.p, r.2)
  | .cmp3 o p q a b c d, E =>
    let r := emE N a E.np
    let h := emE N b r.2
    let t := emE N c h.2
    let u := emE N d t.2
    (.Compare r.1 [o, p, q] [h.1, t.1, u.1] E.p, u.2)
  | .tab (.get n) x _ a, E =>
    let r := emE N a E.np.np.np
    (.Call (.Attribute (.Name x E.np.np.p) "get" E.np.p) [r.1, .Constant (.int n) 0 r.2.p] [] E.p, r.2.np)
  | .tab .mem x _ a, E =>
    let r := emE N a E.np
    (.Compare r.1 [.In] [.Name x r.2.p] E.p, r.2.np)
  | .tab .ix x _ a, E =>
    let r := emE N a E.np.np
    (.Subscript (.Name x E.np.p) r.1 E.p, r.2)
  | .calS x _ _ e, E =>
    let r := emE N e E.np.np.np
    (.Call (.Name x E.np.p) [.Starred r.1 E.np.np.p] [] E.p, r.2)
def emEs (N : List Str) : IEs → Em → List Expr × Em
  | .nil, E => ([], E)
  | .cons e es, E =>
    let r := emE N e E
    let q := emEs N es r.2
    (r.1 :: q.1, q.2)
def emO (N : List Str) : IO → Em → Option Expr × Em
  | .none, E => (none, E)
  | .some e, E =>
    let r := emE N e E
    (some r.1, r.2)
def emSr (N : List Str) : Sr → Em → Expr × Em
  | .seq e, E => emE N e E
  | .enum e, E =>
    let r := emE N e E.np.np
    (.Call (.Name "enumerate" E.np.p) [r.1] [] E.p, r.2)
  | .zip a b, E =>
    let r := emE N a E.np.np
    let q := emE N b r.2
    (.Call (.Name "zip" E.np.p) [r.1, q.1] [] E.p, q.2)
  | .rng a, E =>
    let r := emE N a E.np.np
    (.Call (.Name "range" E.np.p) [r.1] [] E.p, r.2)
  | .rng2 a b, E =>
    let r := emE N a E.np.np
    let q := emE N b r.2
    (.Call (.Name "range" E.np.p) [r.1, q.1] [] E.p, q.2)
  | .rng3 a b c, E =>
    let r := emE N a E.np.np
    let q := emE N b r.2
    let t := emE N c q.2
    (.Call (.Name "range" E.np.p) [r.1, q.1, t.1] [] E.p, t.2)
end

def meth (N : List Str) (i : Nat) (m : Str) (args : List Expr) (E : Em) : Expr := .Call (.Attribute (.Name (nm N i) E.np.np.p) m E.np.p) args [] E.p

mutual
def emS (N : List Str) : IS → Em → Stmt × Em
  | .set i e, E =>
    let r := emE N e E.np.np
    (.Assign [.Name (nm N i) E.np.p] r.1 E.p, r.2)
  | .setLc i elt tg src ifs, E =>
    let r := emE N (.lc elt tg src ifs) E.np.np
    (.Assign [.Name (nm N i) E.np.p] r.1 E.p, r.2)
  | .setT is e, E =>
    let g := emTr N (.t is) E.np
    let r := emE N e g.2
    (.Assign [g.1] r.1 E.p, r.2)
  | .set2 is es, E =>
    let g := emTr N (.t is) E.np
    let r := emEs N es g.2.np
    (.Assign [g.1] (.Tuple r.1 0 g.2.p) E.p, r.2)
  | .setIx i k e, E =>
    let q := emE N k E.np.np.np
    let r := emE N e q.2
    (.Assign [.Subscript (.Name (nm N i) E.np.np.p) q.1 E.np.p] r.1 E.p, r.2)
  | .pset i j e, E =>
    let r := emE N e E.np.np.np.np
    (.Assign [.Subscript (.Name (nm N i) E.np.np.p) (.Constant (.int j) 0 E.np.np.np.p) E.np.p] r.1 E.p, r.2)
  | .aug op i e, E =>
    let r := emE N e E.np.np
    (.AugAssign (.Name (nm N i) E.np.p) op r.1 E.p, r.2)
  | .app i e, E =>
    let r := emE N e E.np.np.np.np
    (.Expr (meth N i "append" [r.1] E.np) E.p, r.2)
  | .ins i k e, E =>
    let q := emE N k E.np.np.np.np
    let r := emE N e q.2
    (.Expr (meth N i "insert" [q.1, r.1] E.np) E.p, r.2)
  | .ext i e, E =>
    let r := emE N e E.np.np.np.np
    (.Expr (meth N i "extend" [r.1] E.np) E.p, r.2)
  | .rev i, E => (.Expr (meth N i "reverse" [] E.np) E.p, E.np.np.np.np)
  | .expr e, E =>
    let r := emE N e E.np
    (.Expr r.1 E.p, r.2)
  | .ite c a b, E =>
    let r := emE N c E.np
    let q := emSs N a r.2
    let t := emSs N b q.2
    (.If r.1 q.1 t.1 E.p, t.2)
  | .for tg src body, E =>
    let g := emTr N tg E.np
    let r := emSr N src g.2
    let q := emSs N body r.2
    (.For g.1 r.1 q.1 [] E.p, q.2)
  | .while _ c body, E =>
    let r := emE N c E.np
    let q := emSs N body r.2
    (.While r.1 q.1 [] E.p, q.2)
  | .ret e, E =>
    let r := emE N e E.np
    (.Return (some r.1) E.p, r.2)
  | .retN, E => (.Return none E.p, E.np)
  | .pass, E => (.Pass E.p, E.np)
  | .brk, E => (.Break E.p, E.np)
  | .cont, E => (.Continue E.p, E.np)
  | .never, E => (E.st.headD (.Pass ⟨0, 0, 0, 0⟩), { E with st := E.st.tail })
def emSs (N : List Str) : ISs → Em → List Stmt × Em
  | .nil, E => ([], E)
  | .cons s ss, E =>
    let r := emS N s E
    let q := emSs N ss r.2
    (r.1 :: q.1, q.2)
end

def visB (N : List Str) (sc : Scope) (i : Nat) : Bool :=
  match N[i]? with
  | some x => (match sc.names.lookup x with
    | some .local => true
    | some .cell => true
    | some .free => true
    | _ => false) && !(x == ("__debug__" : Str)) && !(x == ("__classdict__" : Str))
  | none => false
/-- a name that may be stored: a local, a cell of the def's own -/
def locB (N : List Str) (sc : Scope) (i : Nat) : Bool :=
  match N[i]? with
  | some x => (match sc.names.lookup x with
    | some .local => true
    | some .cell => true
    | _ => false)
  | none => false
/-- a name of a comprehension's own (a local, or a cell) -/
def glB (sc : Scope) (x : Str) : Bool := (match sc.names.lookup x with
    | some .globalImplicit => true
    | _ => false) && !(x == ("__debug__" : Str))
def ownOf (N : List Str) (is : List Nat) : List (Str × Nat) := is.map fun i => (nm N i, i)

def twoIE : IEs → Bool
  | .cons _ (.cons _ .nil) => true
  | _ => false
def threeIE : IEs → Bool
  | .cons _ (.cons _ (.cons _ .nil)) => true
  | _ => false
def oneIE : IEs → Bool
  | .cons _ .nil => true
  | _ => false
def noIE : IEs → Bool
  | .nil => true
  | _ => false
def varIE : IEs → Bool
  | .cons (.var _) (.cons _ .nil) => true
  | _ => false
mutual
def okE (N : List Str) (sc : Scope) : IE → Em → Bool
  | .var i, _ => visB N sc i
  | .int _, _ => true
  | .bool _, _ => true
  | .non, _ => true
  | .str _, _ => true
  | .glob x d, _ => glB sc x && scal d
  | .bin _ a b, E => okE N sc a E.np && okE N sc b (emE N a E.np).2
  | .neg a, E => okE N sc a E.np
  | .not a, E => okE N sc a E.np
  | .cmp _ a b, E => okE N sc a E.np && okE N sc b (emE N a E.np).2
  | .isN a, E => okE N sc a E.np
  | .notN a, E => okE N sc a E.np
  | .cmp2 _ _ a b c, E => okE N sc a E.np && (okE N sc b (emE N a E.np).2 && okE N sc c (emE N b (emE N a E.np).2).2)
  | .and es, E => okEs N sc es E.np
  | .or es, E => okEs N sc es E.np
  | .ite c a b, E => okE N sc c E.np && (okE N sc a (emE N c E.np).2 && okE N sc b (emE N a (emE N c E.np).2).2)
  | .tup es, E => okEs N sc es E.np && decide ((emEs N es E.np).1.length ≤ 1000)
  | .lst es, E => okEs N sc es E.np && decide ((emEs N es E.np).1.length ≤ 1000)
  | .ix a b, E => okE N sc a E.np && okE N sc b (emE N a E.np).2
  | .sl a lo hi, E => okE N sc a E.np.np && (okO N sc lo (emE N a E.np.np).2 && okO N sc hi (emO N lo (emE N a E.np.np).2).2)
  | .isi a t, E => okE N sc a E.np.np && (glB sc "isinstance" && glB sc t.name)
  | .blt .sset es, E => okEs N sc es E.np.np.np.np && (glB sc "sorted" && glB sc "set")
  | .blt .lrange es, E => okEs N sc es E.np.np.np.np && (glB sc "list" && glB sc "range")
  | .blt .trange es, E => okEs N sc es E.np.np.np.np && (glB sc "tuple" && glB sc "range")
  | .blt .rev1 es, E => okEs N sc es E.np.np.np.np && oneIE es
  | .blt .cnt es, E => okEs N sc es E.np.np && (varIE es && (E.np.p.endLine == E.p.line))
  | .blt .idx es, E => okEs N sc es E.np.np && (varIE es && (E.np.p.endLine == E.p.line))
  | .blt (.mth _) es, E => okEs N sc es E.np.np && (varIE es && (E.np.p.endLine == E.p.line))
  | .blt .stp es, E => okEs N sc es E.np.np && twoIE es
  | .blt .stl es, E => okEs N sc es E.np.np && twoIE es
  | .blt .sth es, E => okEs N sc es E.np.np && twoIE es
  | .blt .st3 es, E => okEs N sc es E.np.np.np && threeIE es
  | .blt .dnew es, _ => noIE es
  | .blt f es, E => okEs N sc es E.np.np && glB sc f.name
  | .call x _ es, E => okEs N sc es E.np.np && (glB sc x && !(emEs N es E.np.np).1.isEmpty)
  | .one x a b, E => okE N sc a E.np.np && (okE N sc b (emE N a E.np.np).2 && glB sc x)
  | .pix i _, _ => visB N sc i
  | .lc elt tg src ifs, E =>
    okE N (relS E.s sc) elt E.np.ns && ((!src.pairs || tg.isT) && blkC N sc E.s (ownOf N tg.slots) && ((tg.slots.all fun i => locB N E.s i) && (tg.slots.all fun i => decide (N[i]? = some (nm N i))) &&
      (okSr N sc src (emTr N tg (emE N elt E.np.ns).2).2 &&
        (okEs N (relS E.s sc) ifs (emSr N src (emTr N tg (emE N elt E.np.ns).2).2).2 && decide ((emEs N ifs (emSr N src (emTr N tg (emE N elt E.np.ns).2).2).2).1.length ≤ 1)))))
  | .isX x _ _ _ a, E => okE N sc a E.np.np && (glB sc "isinstance" && glB sc x)
  | .attr _ _, _ => true
  | .cmp3 _ _ _ a b c d, E => okE N sc a E.np && (okE N sc b (emE N a E.np).2 && (okE N sc c (emE N b (emE N a E.np).2).2 && okE N sc d (emE N c (emE N b (emE N a E.np).2).2).2))
  | .tab (.get _) x _ a, E => okE N sc a E.np.np.np && (glB sc x && (E.np.p.endLine == E.p.line))
  | .tab .mem x _ a, E => okE N sc a E.np && glB sc x
  | .tab .ix x _ a, E => okE N sc a E.np.np && glB sc x
  | .calS x _ _ e, E => okE N sc e E.np.np.np && glB sc x
def okEs (N : List Str) (sc : Scope) : IEs → Em → Bool
  | .nil, _ => true
  | .cons e es, E => okE N sc e E && okEs N sc es (emE N e E).2
def okO (N : List Str) (sc : Scope) : IO → Em → Bool
  | .none, _ => true
  | .some e, E => okE N sc e E
def okSr (N : List Str) (sc : Scope) : Sr → Em → Bool
  | .seq e, E => okE N sc e E
  | .enum e, E => okE N sc e E.np.np && glB sc "enumerate"
  | .zip a b, E => okE N sc a E.np.np && (okE N sc b (emE N a E.np.np).2 && glB sc "zip")
  | .rng a, E => okE N sc a E.np.np && glB sc "range"
  | .rng2 a b, E => okE N sc a E.np.np && (okE N sc b (emE N a E.np.np).2 && glB sc "range")
  | .rng3 a b c, E => okE N sc a E.np.np && (okE N sc b (emE N a E.np.np).2 && (okE N sc c (emE N b (emE N a E.np.np).2).2 && glB sc "range"))
end

/-- what the calls of a text ask -/
structure Ask where
  glob : Str → D → Prop
  call : Str → Fn → Nat → Prop
  one : Str → Prop
  isx : Str → (Str → Nat) → List Str → (Str → Bool) → Prop
  tab : Str → List (Str × Int) → Prop
def IEs.len : IEs → Nat
  | .nil => 0
  | .cons _ es => es.len + 1
mutual
def askE (P : Ask) : IE → Prop
  | .var _ => True
  | .int _ => True
  | .bool _ => True
  | .non => True
  | .str _ => True
  | .glob x d => P.glob x d
  | .bin _ a b => askE P a ∧ askE P b
  | .neg a => askE P a
  | .not a => askE P a
  | .cmp _ a b => askE P a ∧ askE P b
  | .isN a => askE P a
  | .notN a => askE P a
  | .cmp2 _ _ a b c => askE P a ∧ askE P b ∧ askE P c
  | .and es => askEs P es
  | .or es => askEs P es
  | .ite c a b => askE P c ∧ askE P a ∧ askE P b
  | .tup es => askEs P es
  | .lst es => askEs P es
  | .ix a b => askE P a ∧ askE P b
  | .sl a lo hi => askE P a ∧ askO P lo ∧ askO P hi
  | .isi a _ => askE P a
  | .blt _ es => askEs P es
  | .call x F es => P.call x F es.len ∧ askEs P es
  | .one x a b => P.one x ∧ askE P a ∧ askE P b
  | .pix _ _ => True
  | .lc elt _ src ifs => askE P elt ∧ askSr P src ∧ askEs P ifs
  | .isX x adr names sub a => P.isx x adr names sub ∧ askE P a
  | .attr _ _ => True
  | .cmp3 _ _ _ a b c d => askE P a ∧ askE P b ∧ askE P c ∧ askE P d
  | .tab _ x tb a => P.tab x tb ∧ askE P a
  | .calS x F n e => P.call x F n ∧ askE P e
def askEs (P : Ask) : IEs → Prop
  | .nil => True
  | .cons e es => askE P e ∧ askEs P es
def askO (P : Ask) : IO → Prop
  | .none => True
  | .some e => askE P e
def askSr (P : Ask) : Sr → Prop
  | .seq e => askE P e
  | .enum e => askE P e
  | .zip a b => askE P a ∧ askE P b
  | .rng a => askE P a
  | .rng2 a b => askE P a ∧ askE P b
  | .rng3 a b c => askE P a ∧ askE P b ∧ askE P c
end
mutual
def askS (P : Ask) : IS → Prop
  | .set _ e => askE P e
  | .setLc _ elt tg src ifs => askE P elt ∧ askSr P src ∧ askEs P ifs
  | .setT _ e => askE P e
  | .set2 _ es => askEs P es
  | .setIx _ k e => askE P k ∧ askE P e
  | .pset _ _ e => askE P e
  | .aug _ _ e => askE P e
  | .app _ e => askE P e
  | .ins _ k e => askE P k ∧ askE P e
  | .ext _ e => askE P e
  | .rev _ => True
  | .expr e => askE P e
  | .ite c a b => askE P c ∧ askSs P a ∧ askSs P b
  | .for _ src body => askSr P src ∧ askSs P body
  | .while _ c body => askE P c ∧ askSs P body
  | .ret e => askE P e
  | .retN => True
  | .pass => True
  | .brk => True
  | .cont => True
  | .never => True
def askSs (P : Ask) : ISs → Prop
  | .nil => True
  | .cons s ss => askS P s ∧ askSs P ss
end
end Fs

set_option Elab.async false
set_option linter.all false
set_option maxRecDepth 100000
set_option maxHeartbeats 4000000
namespace Fs
open PySem PySem.Spec PyProof.Rows L2
section
variable (l : Addr) (its : Array Value) (n : Nat) (dd : Option Addr) (sl : Array (Option Value)) (x : Int) (u : Tok)
theorem tmul_same (z0 : (decide (x < -(2 ^ 63)) || decide (x ≥ 2 ^ 63)) = false) (z1 : (its.isEmpty || x == 1) = true) :
    Meets (Builtin.«tuple.__mul__» ⟨[.ref l, .int x u], []⟩) (fun _ R s => s.heap.get? l = some { cls := .type "tuple", dict := dd, data := .seq its n, slots := sl } ∧ R (.ok (.ret (Value.ref l))) s) := by
  refine .of_wp fun prog w A R s h => ?_
  obtain ⟨hp, g, d, tk, os⟩ := s
  obtain ⟨hl, h⟩ := h
  have f1 := AutoSeq1.idx_int
  wp_walk using wpAny_loadPart' hl
  all_goals try (refine wpAny_ite_false (decide_eq_false (by rw [z0]; exact Bool.false_ne_true)) ?_; wp_walk using wpAny_loadPart' hl)
  all_goals try (refine wpAny_ite_true (decide_eq_true z1) ?_; wp_walk using wpAny_loadPart' hl)
  all_goals exact ⟨_, rfl, h⟩
theorem tmul_none (z0 : (decide (x < -(2 ^ 63)) || decide (x ≥ 2 ^ 63)) = false) (z1 : (its.isEmpty || x == 1) = false) (z2 : (decide (x ≤ 0) || its.isEmpty) = true) :
    Meets (Builtin.«tuple.__mul__» ⟨[.ref l, .int x u], []⟩) (fun _ R s => s.heap.get? l = some { cls := .type "tuple", dict := dd, data := .seq its n, slots := sl } ∧
      R (.ok (.ret (Value.ref s.heap.objs.size))) { s with heap := s.heap.push { cls := Value.type "tuple", data := Data.seq #[] }, toks := s.toks }) := by
  refine .of_wp fun prog w A R s h => ?_
  obtain ⟨hp, g, d, tk, os⟩ := s
  obtain ⟨hl, h⟩ := h
  have f1 := AutoSeq1.idx_int
  wp_walk using wpAny_loadPart' hl
  all_goals try (refine wpAny_ite_false (decide_eq_false (by rw [z0]; exact Bool.false_ne_true)) ?_; wp_walk using wpAny_loadPart' hl)
  all_goals try (refine wpAny_ite_false (decide_eq_false (by rw [z1]; exact Bool.false_ne_true)) ?_; wp_walk using wpAny_loadPart' hl)
  all_goals try (refine wpAny_ite_true (decide_eq_true z2) ?_; wp_walk using wpAny_loadPart' hl)
  all_goals exact ⟨_, rfl, h⟩
end
abbrev obT (us : List Value) : Obj := { cls := .type "tuple", data := .seq us.toArray }
section
variable {X : Cx} {pins : List (Addr × Obj)} {σ : L2.St} {H : Hp} {s : Shared}
theorem tup_new {us : List Value} {xs : List V} {Q : VK} (I : Inv X pins σ H s) (r : Vals xs us) (small : xs.length ≤ sizeLine) (q : mkT H Q xs) : EP X pins σ Q (.ref s.heap.objs.size) { s with heap := s.heap.push (obT us) } := by
  have isnew : H s.heap.objs.size = none := I.hok.fresh (Nat.le_refl _)
  have ob : ObjOk X.prog X.w (upd H s.heap.objs.size (.frz (obT us) (.tup xs))) (s.heap.push (obT us)) s.heap.objs.size (.frz (obT us) (.tup xs)) :=
    ⟨Heap.get?_push_size _ rfl, small, us, r, IsTup.new _ _⟩
  exact ⟨.ref _, _, I.laid (t' := s.toks) (fun c o z => Heap.get?_push_of_some _ z) (Nat.le_refl _) ob, rfl, q _ _ isnew rfl⟩
/-- a display -/
def tTupF (t : TA) : TE := fun σ H Q => t σ H fun xs H1 => xs.length ≤ sizeLine ∧ mkT H1 Q xs
theorem pe_tupF {es : List Expr} {t : TA} {k : Nat} {pos : Pos} (h : L2.PA X es t) : PE X (.Tuple es k pos) (tTupF t) :=
  ⟨fun ps0 s σ H Q I q => wpAny_Tuple_spliced (thn (h.run pos ps0 s σ H _ I q) fun us s1 ⟨xs, H1, I1, r, small, q1⟩ => ⟨r.length ▸ small, tup_new I1 r small q1⟩)⟩
/-- t + u -/
def rCatF (K : PySem.W.Frag) : R2 := fun x y H Q => ∃ a b xs ys, x = .ref a ∧ y = .ref b ∧ SqT K H a xs ∧ SqT K H b ys ∧ xs.length + ys.length ≤ sizeLine ∧
  (xs = [] → Q (.ref b) H) ∧ (ys = [] → Q (.ref a) H) ∧ mkT H Q (xs ++ ys)
theorem op_catF : OpR X (binaryOp .Add) (rCatF X.K) := by
  intro ps0 s σ H x y v u Q I rx ry ⟨a, b, xs, ys, ex, ey, ha, hb, small, q0, q1, q2⟩
  subst ex ey
  by_cases e0 : xs = []
  · exact op_catA ps0 s σ H _ _ v u Q I rx ry ⟨a, b, xs, ys, rfl, rfl, ha, hb, small, q0, fun n => absurd e0 n, fun n => absurd e0 n⟩
  · cases rx
    cases ry
    obtain ⟨us, ru, hu, -⟩ := I.tuple ha
    obtain ⟨ws, rw', hw, -⟩ := I.tuple hb
    have len := ru.append rw'
    refine HT.cat_tup hu hw (fun z => e0 (by subst z; cases ru; rfl)) (fun z => ?_) (fun _ => ?_) (by rw [← ru.length, ← rw'.length]; exact small)
    · refine ⟨.ref a, H, I, rfl, q1 ?_⟩
      subst z; cases rw'; rfl
    · exact tup_new I len (by rw [List.length_append]; exact small) q2
/-- t[lo:hi] -/
def rSlF (K : PySem.W.Frag) : V → Option Int → Option Int → Hp → VK → Prop := fun x lo hi H Q => ∃ a xs, x = .ref a ∧ SqT K H a xs ∧
  (HT.sIx xs.length 0 lo = 0 ∧ HT.sIx xs.length xs.length hi = xs.length → Q (.ref a) H) ∧ mkT H Q (cutV xs lo hi)
theorem sl_tupF : SlR X (rSlF X.K) := by
  intro ps0 s σ H x v vl vu lo hi sl Q I rx hs pl pu ⟨a, xs, ex, ha, q1, q2⟩
  by_cases whole : HT.sIx xs.length 0 lo = 0 ∧ HT.sIx xs.length xs.length hi = xs.length
  · exact sl_tupA ps0 s σ H x v vl vu lo hi sl Q I rx hs pl pu ⟨a, xs, ex, ha, q1, fun n => absurd whole n⟩
  · subst ex
    cases rx
    obtain ⟨us, ru, hu, small⟩ := I.tuple ha
    have size1 : us.toArray.size = xs.length := ru.length.symm
    refine ⟨"tuple", _, PyProof.Rows.slot_tuple_getitem.lookup, hu.typeIs, ?_⟩
    refine HT.getItem_tuple_cut hu hs pl pu (by rwa [size1]) ?_ (by rwa [size1])
    rw [size1]
    exact tup_new I ((ru.drop _).take _) (Nat.le_trans (cutV_length xs lo hi) small) q2
/-- tuple(l), tuple(t) -/
def rTupF (K : PySem.W.Frag) : List V → Hp → VK → Prop := fun vs H Q => ∃ p ys, vs = [.ref p] ∧ ((SqL K H p ys ∧ mkT H Q ys) ∨ (SqT K H p ys ∧ Q (.ref p) H))
theorem call_tupF : CallR X (.type "tuple") (rTupF X.K) := by
  intro ps0 s σ H vs us Q I r ⟨p, ys, ex, h⟩
  rcases h with ⟨hq, q⟩ | ⟨hq, q⟩
  · subst ex
    obtain ⟨u, rfl, ru⟩ := vals1 r
    cases ru
    obtain ⟨its, ri, hl, small⟩ := I.list hq
    refine call_tuple_list hl.isList (fun h' kept => ?_) (by rw [List.size_toArray, ← ri.length]; exact small)
    exact tup_new (s := { s with heap := h' }) (I.kept (t' := s.toks) kept) ri small q
  · exact call_tuple_of ps0 s σ H vs us Q I r ⟨p, ys, ex, .inr ⟨hq, q⟩⟩
/-- tuple(range(..)) -/
def tTupRgF (te : L2.St → Hp → (Int → Int → Hp → Prop) → Prop) : TE := fun σ H Q => te σ H fun a b H1 => RgOk a b ∧ mkT H1 Q (rgV a b)
theorem pe_tupRgF {e : Expr} {te : L2.St → Hp → (Int → Int → Hp → Prop) → Prop} {p pos : Pos} (calm : X.calm = true) (hg : Gl X "tuple") (hm : X.mg "tuple" = none) (he : PRg X e te)
    (na : starEach [e] X.env = (false, eval e X.env) :: starEach [] X.env) : PE X (.Call (.Name "tuple" p) [e] [] pos) (tTupRgF te) := by
  refine ⟨fun ps0 s σ H Q I h => Call_ (ld_blt I hg hm boot_tuple (PyProof.Rows.callWith_type1 (args_cons (thn (he ps0 s σ H _ I h) fun x s1 got => args_nil ?_) na) na))⟩
  obtain ⟨r, a, b, t, u, v, H1, rfl, hr, I1, ⟨b1, b2, b3, b4, b5⟩, q⟩ := got
  refine call_tuple_range (n := (b - a).toNat) (I1.ok.hd calm) hr (small_one b1 b2 b3 b4) (rangeSize_nat a b) b5 fun h' tk acc kept il => ?_
  have vals := vals_rg il
  have z := tup_new (s := { s1 with heap := h', toks := tk }) (I1.kept kept) vals (by rw [rgV_length, sizeLine_eq]; omega) q
  have e : obT acc.toList = { cls := .type "tuple", data := .seq acc } := by unfold obT; rw [Array.toArray_toList]
  rw [e] at z
  exact z
end
/-- t * k -/
def rRepF (K : PySem.W.Frag) : R2 := fun x y H Q => ∃ l k xs, x = .ref l ∧ y = .int k ∧ SqT K H l xs ∧ (-(2 ^ 63) ≤ k ∧ k ≤ 1000 ∧ xs.length ≤ 1000) ∧
  ((xs = [] ∨ k = 1) → Q (.ref l) H) ∧ mkT H Q (List.replicate k.toNat xs).flatten
theorem op_repF {X : Cx} : OpR X (binaryOp .Mult) (rRepF X.K) := by
  intro ps0 s σ H x y v u Q I rx ry ⟨l, k, xs, ex, ey, hT, ⟨h1, h2, h3⟩, q1, q2⟩
  subst ex ey
  cases rx
  obtain ⟨t, rfl⟩ := ry
  obtain ⟨its, r, ⟨⟨cls, dd, data, sl⟩, ho, hc, n, hd⟩, hs⟩ := I.tuple hT
  simp only at hc hd
  subst hc hd
  have len := r.length
  have z0 : (decide (k < -(2 ^ 63)) || decide (k ≥ 2 ^ 63)) = false := by
    rw [Bool.or_eq_false_iff]
    exact ⟨decide_eq_false (by omega), decide_eq_false (by omega)⟩
  have small : (List.replicate k.toNat xs).flatten.length ≤ 1000000 := by
    rw [PyProof.Rows.lm_len_rep_flat]
    have := Nat.mul_le_mul (show k.toNat ≤ 1000 by omega) h3
    omega
  refine wpAny_binaryOp_repeat_ref (U := "int") (T := "tuple") (by decide) ⟨_, ho, rfl⟩ (fun s' => typeIs_int s' k t) noFill_tuple_mul F.fills_int_mul F.slot_int_rmul repeat_tuple F.slot_int_index.lookup ?_
  refine call_meets F.slot_int_rmul (typeIs_int s k t) F.entry_int_rmul (F.args_int_rmul_2 _ _) (int_rmul_tuple k t l its.toArray n dd sl) ⟨ho, rfl, ⟨_, ho, rfl⟩, ?_⟩
  have same : ((its.toArray.isEmpty || k == 1) = true) → (xs = [] ∨ k = 1) := fun z => by
    cases its with
    | nil => cases r; exact .inl rfl
    | cons _ _ => exact .inr (by simpa using z)
  by_cases z1 : (its.toArray.isEmpty || k == 1) = true
  · exact call_meets F.slot_tuple_mul ⟨_, ho, rfl⟩ F.entry_tuple_mul (F.args_tuple_mul_2 _ _) (tmul_same l its.toArray n dd sl k t z0 z1) ⟨ho, .ref l, H, I, rfl, q1 (same z1)⟩
  · have z1 : (its.toArray.isEmpty || k == 1) = false := by simpa using z1
    obtain ⟨ne, k1⟩ := Bool.or_eq_false_iff.mp z1
    by_cases k0 : k ≤ 0
    · refine call_meets F.slot_tuple_mul ⟨_, ho, rfl⟩ F.entry_tuple_mul (F.args_tuple_mul_2 _ _) (tmul_none l its.toArray n dd sl k t z0 z1 (by rw [decide_eq_true k0]; rfl)) ⟨ho, ?_⟩
      rw [show k.toNat = 0 by omega] at q2
      exact tup_new I .nil (Nat.zero_le _) q2
    · have few : ((its.toArray.size : Nat) : Int) * k ≤ 1000000 := by
        rw [List.size_toArray, ← len]
        have := Int.mul_le_mul_of_nonneg_right (show (xs.length : Int) ≤ 1000 by omega) (show 0 ≤ k by omega)
        omega
      refine call_meets F.slot_tuple_mul ⟨_, ho, rfl⟩ F.entry_tuple_mul (F.args_tuple_mul_2 _ _) (tuple_mulW l its.toArray n dd sl k t z0 z1 (by rw [ne, decide_eq_false k0]; rfl) (by omega) (by
        unfold Builtin.Tuple.tupleTooMany
        rw [sizeLine_eq]
        exact decide_eq_false (by omega)) (by
        rw [size_rep, List.size_toArray, PyProof.Rows.lm_len_rep_flat, ← len, sizeLine_eq, ← PyProof.Rows.lm_len_rep_flat]
        omega)) ⟨ho, ?_⟩
      rw [size_rep]
      exact tup_new I (r.rep k.toNat) (by rw [sizeLine_eq]; omega) q2
end Fs

set_option Elab.async false
set_option linter.all false
set_option maxRecDepth 100000
set_option maxHeartbeats 4000000
namespace Fs
open PySem L2

/-- what an operation gave: an old value, a new tuple, a new list -/
def Res (pa : PA) (G H : Hp) (v : V) (d : D) (fr : Bool) (H1 : Hp) : Prop :=
  Sub H H1 ∧ ((fr = false ∧ (Rp pa G v d ∨ ∃ a xs ds, v = .ref a ∧ d = .tuple ds ∧ H a = none ∧ TupAt H1 a xs ∧ Rps pa G xs ds)) ∨
    (fr = true ∧ ∃ a xs ds, v = .ref a ∧ d = .list ds ∧ H a = none ∧ H1 a = some (.lst xs) ∧ Rps pa G xs ds))
section
variable {pa : PA} {H0 G0 G G1 H H1 : Hp} {σ : L2.St} {s s1 : S} {v : V} {d : D}
theorem Res.old (r : Rp pa G v d) : Res pa G H v d false H := ⟨.refl, .inl ⟨rfl, .inl r⟩⟩
theorem Res.tup {Q : VK} {xs : List V} {ds : List D} (k : ∀ v H1, Res pa G H v (.tuple ds) false H1 → Q v H1) (r : Rps pa G xs ds) : mkT H Q xs :=
  fun a _ h b => k _ _ ⟨.upd h, .inl ⟨rfl, .inr ⟨a, xs, ds, rfl, rfl, h, .here b, r⟩⟩⟩
theorem Res.lst {a : Addr} {xs : List V} {ds : List D} (h : H a = none) (r : Rps pa G xs ds) : Res pa G H (.ref a) (.list ds) true (upd H a (.lst xs)) :=
  ⟨.upd h, .inr ⟨rfl, a, xs, ds, rfl, rfl, h, upd_same, r⟩⟩

theorem PenAt.heap {p : Option Pn} (h : PenAt pa G H p) (k : Sub H H1) : PenAt pa G H1 p := by
  cases pa with
  | none => cases p with
    | none => trivial
    | some q => exact h.elim
  | some x =>
    obtain ⟨a, c⟩ := x
    cases p with
    | none => exact h.elim
    | some q => exact ⟨h.1, k _ _ h.2.1, h.2.2⟩
theorem Sim.none0 (S1 : Sim pa H0 G0 G σ H s) {a : Addr} (h : H a = none) : H0 a = none ∧ G a = none ∧ ¬ pen1 pa a ∧ ¬ OwnAt σ s a := by
  have np : ¬ pen1 pa a := fun n => by
    obtain ⟨o, e⟩ := S1.pen.there n
    rw [h] at e; cases e
  refine ⟨?_, ?_, np, ?_⟩
  · cases z : H0 a with
    | none => rfl
    | some o => have := S1.kee a o z np; rw [h] at this; cases this
  · cases z : G a with
    | none => rfl
    | some o => have := S1.sub a o z; rw [h] at this; cases this
  · rintro ⟨i, d, e1, e2⟩
    obtain ⟨b, xs, ds, e3, _, e4, _⟩ := S1.ow i d e1
    rw [e2] at e3; cases e3
    rw [h] at e4; cases e4
/-- the heap grows -/
theorem Sim.grow (S1 : Sim pa H0 G0 G σ H s) (k : Sub H H1) : Sim pa H0 G0 G σ H1 s where
  len := S1.len
  sub := S1.sub.trans k
  base := S1.base
  new := S1.new
  kee := fun a o h n => k _ _ (S1.kee a o h n)
  pen := S1.pen.heap k
  fz := S1.fz
  ow := fun i d h => by
    obtain ⟨a, xs, ds, e1, e2, e3, e4⟩ := S1.ow i d h
    exact ⟨a, xs, ds, e1, e2, k _ _ e3, e4⟩
  dis := S1.dis
/-- something new comes into G -/
theorem Sim.newG (S1 : Sim pa H0 G0 G σ H s) {a : Addr} {o : HO} (h : H a = some o) (g : G a = none) (h0 : H0 a = none) (n : ¬ pen1 pa a) (no : ¬ OwnAt σ s a) : Sim pa H0 G0 (upd G a o) σ H s := by
  have gk : Sub G (upd G a o) := .upd g
  refine ⟨S1.len, fun b u e => ?_, S1.base.trans gk, fun b u e => ?_, S1.kee, ?_, fun i d e => ?_, fun i d e => ?_, S1.dis⟩
  · by_cases z : b = a
    · subst z; rw [upd_same] at e; cases e; exact h
    · rw [upd_ne z] at e; exact S1.sub b u e
  · by_cases z : b = a
    · subst z; exact .inr h0
    · rw [upd_ne z] at e; exact S1.new b u e
  · have p := S1.pen
    refine p.up gk fun b hb => ?_
    rw [upd_ne]
    · exact p.free hb
    · rintro rfl; exact n hb
  · obtain ⟨v, e1, e2⟩ := S1.fz i d e
    exact ⟨v, e1, e2.mono gk⟩
  · obtain ⟨b, ys, es, e1, e2, e3, e4, e5, e6, e7⟩ := S1.ow i d e
    refine ⟨b, ys, es, e1, e2, e3, e4.mono gk, ?_, e6, e7⟩
    rw [upd_ne]
    · exact e5
    · rintro rfl; exact no ⟨i, d, e, e1⟩
/-- an operation's result, taken over -/
theorem Sim.res {fr : Bool} (S1 : Sim pa H0 G0 G σ H s) (r : Res pa G H v d fr H1) :
    ∃ G1, Sim pa H0 G0 G1 σ H1 s ∧ Ext pa G G1 H H1 σ s s ∧ RT pa H0 G1 σ H1 s v d (if fr then .fresh else .fz) ∧ NewT H v (if fr then .fresh else .fz) := by
  obtain ⟨k, r⟩ := r
  have S2 := S1.grow k
  rcases r with ⟨rfl, r | ⟨a, xs, ds, rfl, rfl, h, h1, r⟩⟩ | ⟨rfl, a, xs, ds, rfl, rfl, h, h1, r⟩
  · exact ⟨G, S2, ⟨fun a o h _ => k a o h, .refl, fun _ _ h => .inl h, rfl, fun _ h => h, fun _ _ f h => ⟨f, h, fun z => z⟩⟩, r, fun z => by cases z⟩
  · obtain ⟨n1, n2, n3, n4⟩ := S1.none0 h
    obtain ⟨o, h1, bare⟩ := h1
    refine ⟨upd G a (.frz o (.tup xs)), S2.newG h1 n2 n1 n3 n4, ⟨fun a o h _ => k a o h, .upd n2, fun b u e => ?_, rfl, fun _ h => h, fun _ _ f h => ⟨f, h, fun z => z⟩⟩, .tup (.here bare) (r.mono (.upd n2)), fun z => by cases z⟩
    by_cases z : b = a
    · subst z; exact .inr (.inl h)
    · rw [upd_ne z] at e; exact .inl e
  · obtain ⟨n1, n2, n3, n4⟩ := S1.none0 h
    exact ⟨G, S2, ⟨fun a o h _ => k a o h, .refl, fun _ _ h => .inl h, rfl, fun _ h => h, fun _ _ f h => ⟨f, h, fun z => z⟩⟩, ⟨a, xs, ds, rfl, rfl, h1, r, n2, n1, n3, n4⟩, fun _ b e => by cases e; exact h⟩
end

section
variable {pa : PA} {G H : Hp} {v : V}
theorem RpT.int {i : Int} (r : RpT pa G H v (.int i)) : v = .int i := by cases (show Rp pa G v (.int i) from r); rfl
theorem RpT.bl {i : Bool} (r : RpT pa G H v (.bool i)) : v = .bl i := by cases (show Rp pa G v (.bool i) from r); rfl
theorem RpT.str {i : Str} (r : RpT pa G H v (.str i)) : v = .str i := by cases (show Rp pa G v (.str i) from r); rfl
theorem RpT.non (r : RpT pa G H v .none) : v = .non := by cases (show Rp pa G v .none from r); rfl
theorem RpT.lst {ds : List D} (r : RpT pa G H v (.list ds)) : ∃ a xs, v = .ref a ∧ H a = some (.lst xs) ∧ Rps pa G xs ds := r
theorem RpT.tup {ds : List D} (r : RpT pa G H v (.tuple ds)) : ∃ a xs, v = .ref a ∧ TupAt G a xs ∧ Rps pa G xs ds := by
  cases (show Rp pa G v (.tuple ds) from r) with
  | tup h r => exact ⟨_, _, rfl, h, r⟩
theorem RpT.dicR {kvs : List (D × D)} (r : RpT pa G H v (.dict kvs)) : ∃ a, v = .ref a := by
  cases (show Rp pa G v (.dict kvs) from r) with
  | pen h => exact ⟨_, rfl⟩
  | exc h => exact ⟨_, rfl⟩
theorem RpT.exc {C : Int} {c : Str} (r : RpT pa G H v (.dict [(.int C, .str c)])) : ∃ (a : Addr) (D : Addr), v = .ref a ∧ C = (D : Nat) ∧ G a = some (exT (.ref D) none a) := by
  cases (show Rp pa G v (.dict [(.int C, .str c)]) from r) with
  | exc h => exact ⟨_, _, rfl, rfl, h⟩
theorem RpT.dp (u : Sub G H) (K : PySem.W.Frag) {d : D} {n : Nat} (g : good n d = true) (r : RpT pa G H v d) : Dp K H v d := (r.all u).dp K g
end

def rD2 (op : Operator) : R2 := fun x y H Q => ∃ pa G d1 d2 d fr, Sub G H ∧ RpT pa G H x d1 ∧ RpT pa G H y d2 ∧ binD op d1 d2 = some (d, fr) ∧ ∀ v H1, Res pa G H v d fr H1 → Q v H1
section
variable {X : Cx}
theorem op_bin (op : Operator) : OpR X (binaryOp op) (rD2 op) := by
  intro pins s σ H x y v u Q I rx ry h
  obtain ⟨pa, G, d1, d2, d, fr, gh, r1, r2, e, k⟩ := h
  cases op with
  | Add =>
    change addD d1 d2 = some (d, fr) at e
    unfold addD at e
    split at e
    · cases e; rw [r1.int] at rx; rw [r2.int] at ry
      exact op_add pins s σ H _ _ v u Q I rx ry ⟨_, _, rfl, rfl, k _ _ (.old (.int _))⟩
    · split at e
      · rename_i hz
        cases e
        obtain ⟨a, xs, rfl, ha, ra⟩ := r1.tup
        obtain ⟨b, ys, rfl, hb, rb⟩ := r2.tup
        refine op_catF pins s σ H _ _ v u Q I rx ry ⟨a, b, xs, ys, rfl, rfl, (ha.up gh).sq, (hb.up gh).sq, by rw [ra.len, rb.len]; exact hz, fun z => ?_, fun z2 => ?_, ?_⟩
        · subst z; cases ra
          exact k _ _ (.old (.tup hb rb))
        · subst z2; cases rb
          rw [List.append_nil] at k
          exact k _ _ (.old (.tup ha ra))
        · exact Res.tup k (ra.app rb)
      · cases e
    · split at e
      · rename_i hz
        cases e
        obtain ⟨a, xs, rfl, ha, ra⟩ := r1.lst
        obtain ⟨b, ys, rfl, hb, rb⟩ := r2.lst
        exact op_cat pins s σ H _ _ v u Q I rx ry ⟨a, b, xs, ys, rfl, rfl, ha, hb, by rw [ra.len, rb.len]; exact hz, fun p hp => k _ _ (.lst hp (ra.app rb))⟩
      · cases e
    · split at e
      · rename_i hz
        cases e; rw [r1.str] at rx; rw [r2.str] at ry
        exact op_add_str pins s σ H _ _ v u Q I rx ry ⟨_, _, rfl, rfl, hz, k _ _ (.old (.str _))⟩
      · cases e
    · cases e
  | Sub =>
    simp only [binD] at e
    split at e
    · cases e; rw [r1.int] at rx; rw [r2.int] at ry
      exact op_sub pins s σ H _ _ v u Q I rx ry ⟨_, _, rfl, rfl, k _ _ (.old (.int _))⟩
    · cases e
  | Mult =>
    change mulD d1 d2 = some (d, fr) at e
    unfold mulD at e
    split at e
    · split at e
      · rename_i hz
        cases e; rw [r1.int] at rx; rw [r2.int] at ry
        exact op_mul pins s σ H _ _ v u Q I rx ry ⟨_, _, rfl, rfl, hz, k _ _ (.old (.int _))⟩
      · cases e
    · split at e
      · rename_i hz
        cases e; rw [r2.int] at ry
        obtain ⟨a, xs, rfl, ha, ra⟩ := r1.lst
        exact op_rep pins s σ H _ _ v u Q I rx ry ⟨a, _, xs, rfl, rfl, ha, hz.1, hz.2.1, by rw [ra.len]; exact hz.2.2, fun p hp => k _ _ (.lst hp (ra.rep _))⟩
      · cases e
    · split at e
      · rename_i a1 k1 hz
        cases e; rw [r2.int] at ry
        obtain ⟨a, xs, rfl, ha, ra⟩ := r1.tup
        have rel : RelV (.int _) u := ry
        refine op_repF pins s σ H _ _ v u Q I rx ry ⟨a, _, xs, rfl, rfl, (ha.up gh).sq, ⟨hz.1, hz.2.1, by rw [ra.len]; exact hz.2.2⟩, fun z => ?_, Res.tup k (ra.rep _)⟩
        have : (List.replicate k1.toNat a1).flatten = a1 := by
          rcases z with rfl | rfl
          · cases ra; simp
          · simp
        rw [this] at k
        exact k _ _ (.old (.tup ha ra))
      · cases e
    · cases e
  | FloorDiv =>
    simp only [binD] at e
    split at e
    · split at e
      · rename_i hz
        cases e; rw [r1.int] at rx; rw [r2.int] at ry
        exact op_fdiv pins s σ H _ _ v u Q I rx ry ⟨_, _, rfl, rfl, hz, k _ _ (.old (.int _))⟩
      · cases e
    · cases e
  | Mod =>
    simp only [binD] at e
    split at e
    · split at e
      · rename_i hz
        cases e; rw [r1.int] at rx; rw [r2.int] at ry
        exact op_mod pins s σ H _ _ v u Q I rx ry ⟨_, _, rfl, rfl, hz, k _ _ (.old (.int _))⟩
      · cases e
    · cases e
  | Pow =>
    simp only [binD] at e
    split at e
    · split at e
      · rename_i hz
        cases e; rw [r1.int] at rx; rw [r2.int] at ry
        exact op_pow pins s σ H _ _ v u Q I rx ry ⟨_, _, rfl, rfl, hz, k _ _ (.old (.int _))⟩
      · cases e
    · cases e
  | _ => cases e

def rC2 (op : CmpOp) : R2 := fun x y H Q => ∃ pa G d1 d2 b, Sub G H ∧ RpT pa G H x d1 ∧ RpT pa G H y d2 ∧ cmpD op d1 d2 = some b ∧ Q (.bl b) H
theorem okEq_cases {x y : D} (h : okEq x y = true) : (∃ a b, x = .str a ∧ y = .str b) ∨ (good 60 x = true ∧ good 60 y = true) := by
  unfold okEq at h
  split at h
  · exact .inl ⟨_, _, rfl, rfl⟩
  · exact .inr (by simpa using h)
theorem eqv_str {a b : Str} : PyData.eqv (.str a) (.str b) = decide (V.str a = V.str b) := by
  rw [dec_str]
  first | rfl | simp [PyData.eqv]
theorem op_cmp (op : CmpOp) (hu : X.A.units + 65 < cLine) : OpR X (compareOp op) (rC2 op) := by
  intro pins s σ H x y v u Q I rx ry h
  obtain ⟨pa, G, d1, d2, b, gh, r1, r2, e, k⟩ := h
  have hu2 : X.A.units + 64 < cLine := by omega
  cases op with
  | Eq =>
    simp only [cmpD] at e
    split at e
    · rename_i hz
      cases e
      rcases okEq_cases hz with ⟨a, b, rfl, rfl⟩ | ⟨g1, g2⟩
      · rw [r1.str] at rx; rw [r2.str] at ry
        rw [eqv_str] at k
        exact op_eq pins s σ H _ _ v u Q I rx ry ⟨rfl, k⟩
      · exact op_eqD hu2 pins s σ H x y v u Q I rx ry ⟨d1, d2, r1.dp gh _ g1, r2.dp gh _ g2, good_shaped g1, good_shaped g2, k⟩
    · cases e
  | NotEq =>
    simp only [cmpD] at e
    split at e
    · rename_i hz
      cases e
      rcases okEq_cases hz with ⟨a, b, rfl, rfl⟩ | ⟨g1, g2⟩
      · rw [r1.str] at rx; rw [r2.str] at ry
        rw [eqv_str] at k
        exact op_ne pins s σ H _ _ v u Q I rx ry ⟨rfl, k⟩
      · exact op_neD hu2 pins s σ H x y v u Q I rx ry ⟨d1, d2, r1.dp gh _ g1, r2.dp gh _ g2, good_shaped g1, good_shaped g2, k⟩
    · cases e
  | Lt =>
    simp only [cmpD] at e
    split at e
    · cases e; rw [r1.int] at rx; rw [r2.int] at ry
      exact op_lt pins s σ H _ _ v u Q I rx ry ⟨_, _, rfl, rfl, k⟩
    · cases e
  | LtE =>
    simp only [cmpD] at e
    split at e
    · cases e; rw [r1.int] at rx; rw [r2.int] at ry
      exact op_le pins s σ H _ _ v u Q I rx ry ⟨_, _, rfl, rfl, k⟩
    · cases e
  | Gt =>
    simp only [cmpD] at e
    split at e
    · cases e; rw [r1.int] at rx; rw [r2.int] at ry
      exact op_gt pins s σ H _ _ v u Q I rx ry ⟨_, _, rfl, rfl, k⟩
    · cases e
  | GtE =>
    simp only [cmpD] at e
    split at e
    · cases e; rw [r1.int] at rx; rw [r2.int] at ry
      exact op_ge pins s σ H _ _ v u Q I rx ry ⟨_, _, rfl, rfl, k⟩
    · cases e
  | In =>
    simp only [cmpD] at e
    cases d2 with
    | list ds =>
      simp only [itemsD, Option.bind_some] at e
      split at e
      · rename_i hz
        cases e
        rcases okEq_cases hz with ⟨a, b, _, z⟩ | ⟨g1, g2⟩
        · cases z
        · exact op_inD hu pins s σ H x y v u Q I rx ry ⟨d1, ds, r1.dp gh _ g1, r2.dp gh _ g2, good_shaped g1, good_shaped g2, k⟩
      · cases e
    | tuple ds =>
      simp only [itemsD, Option.bind_some] at e
      split at e
      · rename_i hz
        cases e
        rcases okEq_cases hz with ⟨a, b, _, z⟩ | ⟨g1, g2⟩
        · cases z
        · obtain ⟨as, q1⟩ := Dp.reads I d1 x v (r1.dp gh _ g1) rx
          obtain ⟨bs, q2⟩ := Dp.reads I (.tuple ds) y u (r2.dp gh _ g2) ry
          have sd := good_shaped g1
          exact SeqAt.in_tuple_reads q2 q1 (SeqAt.canLay_of_shaped (good_shaped g2)) (SeqAt.canLay_of_shaped sd) (by
            have h1 := SeqAt.depth_of_shaped sd
            have h2 : min (PyData.depthAll ds) d1.depth ≤ d1.depth := Nat.min_le_right _ _
            omega) ⟨.bl _, H, I, rfl, k⟩
      · cases e
    | _ => cases e
  | NotIn =>
    simp only [cmpD] at e
    cases d2 with
    | list ds =>
      simp only [itemsD, Option.bind_some] at e
      split at e
      · rename_i hz
        cases e
        rcases okEq_cases hz with ⟨a, b, _, z⟩ | ⟨g1, g2⟩
        · cases z
        · exact op_notInD hu pins s σ H x y v u Q I rx ry ⟨d1, ds, r1.dp gh _ g1, r2.dp gh _ g2, good_shaped g1, good_shaped g2, k⟩
      · cases e
    | tuple ds =>
      simp only [itemsD, Option.bind_some] at e
      split at e
      · rename_i hz
        cases e
        rcases okEq_cases hz with ⟨a, b, _, z⟩ | ⟨g1, g2⟩
        · cases z
        · obtain ⟨as, q1⟩ := Dp.reads I d1 x v (r1.dp gh _ g1) rx
          obtain ⟨bs, q2⟩ := Dp.reads I (.tuple ds) y u (r2.dp gh _ g2) ry
          have sd := good_shaped g1
          exact SeqAt.notIn_tuple_reads q2 q1 (SeqAt.canLay_of_shaped (good_shaped g2)) (SeqAt.canLay_of_shaped sd) (by
            have h1 := SeqAt.depth_of_shaped sd
            have h2 : min (PyData.depthAll ds) d1.depth ≤ d1.depth := Nat.min_le_right _ _
            omega) ⟨.bl _, H, I, rfl, k⟩
      · cases e
    | _ => cases e
  | _ => cases e

def rIxD : R2 := fun x y H Q => ∃ pa G d1 d2 d, Sub G H ∧ RpT pa G H x d1 ∧ RpT pa G H y d2 ∧ ixD d1 d2 = some d ∧ ∀ v, Rp pa G v d → Q v H
theorem Rps.atI {pa : PA} {G : Hp} {xs : List V} {ds : List D} {i : Int} {d : D} (r : Rps pa G xs ds) (h : L2.atI ds i = some d) : ∃ v, L2.atI xs i = some v ∧ Rp pa G v d := by
  unfold L2.atI at h ⊢
  rw [r.len]
  cases z : ixN ds.length i with
  | none => rw [z] at h; cases h
  | some j =>
    rw [z, Option.bind_some] at h
    obtain ⟨v, e, q⟩ := r.get h
    exact ⟨v, by rw [Option.bind_some]; exact e, q⟩
theorem ix_D : IxR X rIxD := by
  intro value slice pins s σ H x y v u Q I rx ry h hs
  obtain ⟨pa, G, d1, d2, d, gh, r1, r2, e, k⟩ := h
  unfold ixD at e
  split at e
  · rw [r2.int] at ry
    obtain ⟨a, xs, rfl, ha, ra⟩ := r1.lst
    obtain ⟨w, e1, q⟩ := ra.atI e
    exact ix_list value slice pins s σ H _ _ v u Q I rx ry ⟨a, xs, _, w, rfl, rfl, .of ha, e1, k w q⟩ hs
  · rw [r2.int] at ry
    obtain ⟨a, xs, rfl, ha, ra⟩ := r1.tup
    obtain ⟨w, e1, q⟩ := ra.atI e
    exact ix_tup value slice pins s σ H _ _ v u Q I rx ry ⟨a, xs, _, w, rfl, rfl, (ha.up gh).sq, e1, k w q⟩ hs
  · cases e
def rSlD : V → Option Int → Option Int → Hp → VK → Prop := fun x lo hi H Q => ∃ pa G d1 d fr, Sub G H ∧ RpT pa G H x d1 ∧ slD d1 (lo.map .int) (hi.map .int) = some (d, fr) ∧ ∀ v H1, Res pa G H v d fr H1 → Q v H1
theorem cut_rps {pa : PA} {G : Hp} {xs : List V} {ds : List D} (r : Rps pa G xs ds) (lo hi : Option Int) : Rps pa G (cutV xs lo hi) (cutD ds lo hi) := by
  unfold cutV cutD
  rw [r.len]
  exact (r.drop _).take _
theorem optI_map (o : Option Int) : optI (o.map .int) = some o := by cases o <;> rfl
theorem sl_D : SlR X rSlD := by
  intro pins s σ H x v vl vu lo hi sl Q I rx hs pl pu h
  obtain ⟨pa, G, d1, d, fr, gh, r1, e, k⟩ := h
  unfold slD at e
  rw [optI_map, optI_map, Option.bind_some, Option.bind_some] at e
  split at e
  · cases e
    obtain ⟨a, xs, rfl, ha, ra⟩ := r1.lst
    exact sl_list pins s σ H _ v vl vu lo hi sl Q I rx hs pl pu ⟨a, xs, rfl, .of ha, fun p hp => k _ _ (.lst hp (cut_rps ra lo hi))⟩
  · cases e
    obtain ⟨a, xs, rfl, ha, ra⟩ := r1.tup
    refine sl_tupF pins s σ H _ v vl vu lo hi sl Q I rx hs pl pu ⟨a, xs, rfl, (ha.up gh).sq, fun z => ?_, Res.tup k (cut_rps ra lo hi)⟩
    refine k _ _ (.old ?_)
    rename_i ds
    have : cutD ds lo hi = ds := by
      unfold cutD
      rw [← ra.len, z.1, z.2, List.drop_zero, Nat.sub_zero, ra.len, List.take_length]
    rw [this]
    exact .tup ha ra
  · cases e
end
end Fs

set_option Elab.async false
set_option linter.all false
set_option maxRecDepth 100000
set_option maxHeartbeats 4000000
namespace Fs
open PySem PySem.Spec PyProof.Rows L2

section
variable {P : Program} {w : World} {A : Around} {E : Value → Shared → Prop} {s : Shared}
abbrev bare0 (w : World) : Obj := { cls := .type "set", dict := none, data := .set #[] 0 (.fresh 0 0 (!w.params.followText "set-order")) }
abbrev heap1 (w : World) (s : Shared) : Heap := s.heap.push (bare0 w)
set_option maxHeartbeats 3200000 in
theorem set_of_ints {l : Addr} {items : Array Value} (ns : List Int) {Q : Value → Shared → Prop} (hh : A.handled = none)
    (hl : s.heap.IsList l items) (hit : IntsAre items.toList ns) (hb : ns.length + 1 < scanBound)
    (h : ∀ (h' : Heap) (tk c : Nat), SetR w h' s.heap.objs.size (fun j => decide (j ∈ ns)) c → c ≤ ns.length →
      (∀ b o, s.heap.get? b = some o → h'.get? b = some o) → Q (.ref s.heap.objs.size) { s with heap := h', toks := tk }) :
    wpAny (model P w) A (call (.type "set") [.ref l]) Q E s := by
  have size_eq : items.size = ns.length := by
    have q := IntsAre.length hit
    rwa [Array.length_toList] at q
  obtain ⟨c, tl, the_mro⟩ := F.called_set.mro
  have is_made := F.called_set.made
  have is_sub := F.called_set.sub
  refine wpAny_call (codeAny_of_tree ?_)
  show wpAny _ _ (callAny (.type "set") _) _ _ _
  refine wpAny_pure ⟨Code.quiet_builtin _ (by decide +kernel), codeAny_builtin F.entry_type_call ?_⟩
  rw [Around.under_plain (weight_type_call_type "set" [.ref l] []) rfl]
  have no_type := F.called_set.notType
  have may_make := F.called_set.canCreate
  have checked := F.typeCall_set_1 (.ref l)
  repeat (any_goals (first | assumption | wp_step))
  refine codeAny_mono (code_set_led1 (.ref l) (E := E)
    (Q₁ := fun obj s₁ => obj = .ref s.heap.objs.size ∧ s₁ = { s with heap := heap1 w s }) ⟨rfl, rfl⟩) fun r s₁ got => ?_
  cases r with
  | error e => exact got
  | ok fl =>
    cases fl with
    | ret obj =>
      obtain ⟨rfl, rfl⟩ := got
      have at0 : (heap1 w s).get? s.heap.objs.size = some (bare0 w) := Heap.get?_push_size _ rfl
      have type0 : Shared.TypeIs { s with heap := heap1 w s } (.ref s.heap.objs.size) "set" := ⟨_, at0, rfl⟩
      have look0 := F.called_set.init.lookup
      have bind0 := F.called_set.init.bind (.ref s.heap.objs.size)
      repeat (any_goals (first | assumption | wp_step))
      refine codeAny_mono (codeAny_call_builtin (R := wants (fun r s₂ => r = .none ∧ ∃ h' tk c, s₂ = { s with heap := h', toks := tk } ∧
          SetR w h' s.heap.objs.size (fun j => decide (j ∈ ns)) c ∧ c ≤ ns.length ∧ (∀ b o, s.heap.get? b = some o → h'.get? b = some o)) E)
          F.called_set.init.plain F.entry_set_init (check_set_init_1 type0 ?_)) fun r₂ s₂ got2 => ?_
      · obtain ⟨ol, at1, cls1, n1, dat1⟩ := hl
        obtain ⟨ocls, odict, odata, oslots⟩ := ol
        simp only at cls1 dat1
        subst cls1; subst dat1
        have at2 : (heap1 w s).get? l = some { cls := .type "list", dict := odict, data := .seq items n1, slots := oslots } := Heap.get?_push_of_some _ at1
        have no_set := F.sub_list_set
        have no_froz := F.sub_list_frozenset
        have no_dict : (Value.type "list" == Value.type "dict") = false := by decide
        have lst1 : (heap1 w s).IsList l items := ⟨_, at2, rfl, n1, rfl⟩
        unfold Builtin.«set.__init__» noKeywords Builtin.Frozenset.updateFrom
        generalize the_iter : pyIter = PI
        wp_walk
        subst the_iter
        refine wpAny_pyIter_list lst1 ?_
        refine wpAny_bind (wpAny_runValue ?_)
        have below : l < s.heap.objs.size := Heap.lt_size at1
        have hd3 : A.in1.in1.in1.handled = none := by simp [hh]
        have sz1 : (heap1 w s).objs.size = s.heap.objs.size + 1 := Heap.size_push ..
        have l_ne : l ≠ (heap1 w s).objs.size := by
          rw [sz1]; exact Nat.ne_of_lt (Nat.lt_succ_of_lt below)
        have not_in : s.heap.objs.size ∉ [(heap1 w s).objs.size, l] := by
          rw [sz1]
          simp only [List.mem_cons, List.mem_singleton, List.not_mem_nil, or_false, not_or]
          exact ⟨Nat.ne_of_lt (Nat.lt_succ_self _), Nat.ne_of_gt below⟩
        have vals1 : ∀ (i : Nat) (v : Value), items[i]? = some v → ∃ k t, ns[i]? = some k ∧ v = .int k t := fun i v hv => by
          have hi : i < ns.length := by rw [← size_eq]; exact (Array.getElem?_eq_some_iff.mp hv).1
          obtain ⟨t, e⟩ := PyProof.Rows.IntsAre.int_at hit i v (by rw [Array.getElem?_toList]; exact hv)
          exact ⟨ns[i], t, List.getElem?_eq_getElem hi, by rw [e, List.getD_eq_getElem?_getD, List.getElem?_eq_getElem hi] <;> rfl⟩
        refine set_update_ints ((Walks.list hd3 _ l l_ne items).toS) s.heap.objs.size
          not_in ns size_eq hb vals1 (items.size - 0) 0 _ (by omega) (Nat.zero_le _)
          ⟨⟨_, Heap.get?_push_size _ rfl, rfl, rfl⟩, (lst1.push _)⟩ ?first ?last
        case first =>
          exact ⟨0, Nat.le_refl 0, setR_new_at (Heap.get?_push_of_some _ at0)⟩
        case last =>
          intro s' c' mv le' set'
          obtain ⟨h', g2, d', tk', os'⟩ := s'
          have eg : g2 = s.gens := mv.gens
          have ed : d' = s.drawn := mv.drawn
          have eo : os' = s.os := mv.os
          subst eg; subst ed; subst eo
          show wpAny _ _ _ _ _ _
          refine wpAny_pure ?_
          show wpAny _ _ (ret Value.none) _ _ _
          rw [size_eq] at le'
          refine wpAny_pure ⟨rfl, h', tk', c', rfl, set', le', fun b o e => ?_⟩
          have b0 : b < s.heap.objs.size := Heap.lt_size e
          refine mv.heap b o ?_ (Heap.get?_push_of_some _ (Heap.get?_push_of_some _ e))
          simp only [List.mem_cons, List.mem_singleton, List.not_mem_nil, or_false, not_or]
          exact ⟨Nat.ne_of_lt b0, by rw [Heap.size_push]; exact Nat.ne_of_lt (Nat.lt_succ_of_lt b0)⟩
      · cases r₂ with
        | error e => exact got2
        | ok fl₂ =>
          cases fl₂ with
          | ret r =>
            obtain ⟨rfl, h', tk, c', rfl, set', le', kept'⟩ := got2
            repeat (any_goals (first | assumption | wp_step))
            exact h _ _ _ set' le' kept'
          | _ => exact got2.elim
    | _ => exact got.elim
end

end Fs

set_option Elab.async false
set_option linter.all false
set_option maxRecDepth 100000
set_option maxHeartbeats 4000000
namespace Fs
open PySem PySem.Spec PyProof.Rows L2

section
variable {P : Program} {w : World} {A : Around} {E : Value → Shared → Prop} {s : Shared}
set_option maxHeartbeats 3200000 in
theorem set_of_intsT {l : Addr} {items : Array Value} (ns : List Int) {Q : Value → Shared → Prop} (hh : A.handled = none)
    (hl : s.heap.IsTuple l items) (hit : IntsAre items.toList ns) (hb : ns.length + 1 < scanBound)
    (h : ∀ (h' : Heap) (tk c : Nat), SetR w h' s.heap.objs.size (fun j => decide (j ∈ ns)) c → c ≤ ns.length →
      (∀ b o, s.heap.get? b = some o → h'.get? b = some o) → Q (.ref s.heap.objs.size) { s with heap := h', toks := tk }) :
    wpAny (model P w) A (call (.type "set") [.ref l]) Q E s := by
  have size_eq : items.size = ns.length := by
    have q := IntsAre.length hit
    rwa [Array.length_toList] at q
  obtain ⟨c, tl, the_mro⟩ := F.called_set.mro
  have is_made := F.called_set.made
  have is_sub := F.called_set.sub
  refine wpAny_call (codeAny_of_tree ?_)
  show wpAny _ _ (callAny (.type "set") _) _ _ _
  refine wpAny_pure ⟨Code.quiet_builtin _ (by decide +kernel), codeAny_builtin F.entry_type_call ?_⟩
  rw [Around.under_plain (weight_type_call_type "set" [.ref l] []) rfl]
  have no_type := F.called_set.notType
  have may_make := F.called_set.canCreate
  have checked := F.typeCall_set_1 (.ref l)
  repeat (any_goals (first | assumption | wp_step))
  refine codeAny_mono (code_set_led1 (.ref l) (E := E)
    (Q₁ := fun obj s₁ => obj = .ref s.heap.objs.size ∧ s₁ = { s with heap := heap1 w s }) ⟨rfl, rfl⟩) fun r s₁ got => ?_
  cases r with
  | error e => exact got
  | ok fl =>
    cases fl with
    | ret obj =>
      obtain ⟨rfl, rfl⟩ := got
      have at0 : (heap1 w s).get? s.heap.objs.size = some (bare0 w) := Heap.get?_push_size _ rfl
      have type0 : Shared.TypeIs { s with heap := heap1 w s } (.ref s.heap.objs.size) "set" := ⟨_, at0, rfl⟩
      have look0 := F.called_set.init.lookup
      have bind0 := F.called_set.init.bind (.ref s.heap.objs.size)
      repeat (any_goals (first | assumption | wp_step))
      refine codeAny_mono (codeAny_call_builtin (R := wants (fun r s₂ => r = .none ∧ ∃ h' tk c, s₂ = { s with heap := h', toks := tk } ∧
          SetR w h' s.heap.objs.size (fun j => decide (j ∈ ns)) c ∧ c ≤ ns.length ∧ (∀ b o, s.heap.get? b = some o → h'.get? b = some o)) E)
          F.called_set.init.plain F.entry_set_init (check_set_init_1 type0 ?_)) fun r₂ s₂ got2 => ?_
      · obtain ⟨ol, at1, cls1, n1, dat1⟩ := hl
        obtain ⟨ocls, odict, odata, oslots⟩ := ol
        simp only at cls1 dat1
        subst cls1; subst dat1
        have at2 : (heap1 w s).get? l = some { cls := .type "tuple", dict := odict, data := .seq items n1, slots := oslots } := Heap.get?_push_of_some _ at1
        have no_set := F.sub_tuple_set
        have no_froz := F.sub_tuple_frozenset
        have no_dict : (Value.type "tuple" == Value.type "dict") = false := by decide
        have lst1 : (heap1 w s).IsTuple l items := ⟨_, at2, rfl, n1, rfl⟩
        unfold Builtin.«set.__init__» noKeywords Builtin.Frozenset.updateFrom
        generalize the_iter : pyIter = PI
        wp_walk
        subst the_iter
        refine wpAny_pyIter_tuple lst1 ?_
        refine wpAny_bind (wpAny_runValue ?_)
        have below : l < s.heap.objs.size := Heap.lt_size at1
        have hd3 : A.in1.in1.in1.handled = none := by simp [hh]
        have sz1 : (heap1 w s).objs.size = s.heap.objs.size + 1 := Heap.size_push ..
        have l_ne : l ≠ (heap1 w s).objs.size := by
          rw [sz1]; exact Nat.ne_of_lt (Nat.lt_succ_of_lt below)
        have not_in : s.heap.objs.size ∉ [(heap1 w s).objs.size, l] := by
          rw [sz1]
          simp only [List.mem_cons, List.mem_singleton, List.not_mem_nil, or_false, not_or]
          exact ⟨Nat.ne_of_lt (Nat.lt_succ_self _), Nat.ne_of_gt below⟩
        have vals1 : ∀ (i : Nat) (v : Value), items[i]? = some v → ∃ k t, ns[i]? = some k ∧ v = .int k t := fun i v hv => by
          have hi : i < ns.length := by rw [← size_eq]; exact (Array.getElem?_eq_some_iff.mp hv).1
          obtain ⟨t, e⟩ := PyProof.Rows.IntsAre.int_at hit i v (by rw [Array.getElem?_toList]; exact hv)
          exact ⟨ns[i], t, List.getElem?_eq_getElem hi, by rw [e, List.getD_eq_getElem?_getD, List.getElem?_eq_getElem hi] <;> rfl⟩
        refine set_update_ints ((Walks.tuple hd3 _ l l_ne items).toS) s.heap.objs.size
          not_in ns size_eq hb vals1 (items.size - 0) 0 _ (by omega) (Nat.zero_le _)
          ⟨⟨_, Heap.get?_push_size _ rfl, rfl, rfl⟩, (lst1.push _)⟩ ?first ?last
        case first =>
          exact ⟨0, Nat.le_refl 0, setR_new_at (Heap.get?_push_of_some _ at0)⟩
        case last =>
          intro s' c' mv le' set'
          obtain ⟨h', g2, d', tk', os'⟩ := s'
          have eg : g2 = s.gens := mv.gens
          have ed : d' = s.drawn := mv.drawn
          have eo : os' = s.os := mv.os
          subst eg; subst ed; subst eo
          show wpAny _ _ _ _ _ _
          refine wpAny_pure ?_
          show wpAny _ _ (ret Value.none) _ _ _
          rw [size_eq] at le'
          refine wpAny_pure ⟨rfl, h', tk', c', rfl, set', le', fun b o e => ?_⟩
          have b0 : b < s.heap.objs.size := Heap.lt_size e
          refine mv.heap b o ?_ (Heap.get?_push_of_some _ (Heap.get?_push_of_some _ e))
          simp only [List.mem_cons, List.mem_singleton, List.not_mem_nil, or_false, not_or]
          exact ⟨Nat.ne_of_lt b0, by rw [Heap.size_push]; exact Nat.ne_of_lt (Nat.lt_succ_of_lt b0)⟩
      · cases r₂ with
        | error e => exact got2
        | ok fl₂ =>
          cases fl₂ with
          | ret r =>
            obtain ⟨rfl, h', tk, c', rfl, set', le', kept'⟩ := got2
            repeat (any_goals (first | assumption | wp_step))
            exact h _ _ _ set' le' kept'
          | _ => exact got2.elim
    | _ => exact got.elim
end

end Fs

set_option Elab.async false
set_option linter.all false
set_option maxRecDepth 100000
set_option maxHeartbeats 4000000
namespace Fs
open PySem PySem.Spec PyProof.Rows L2
theorem mem_ins {n m : Int} : ∀ {l : List Int}, m ∈ ins n l ↔ m = n ∨ m ∈ l
  | [] => by simp [ins]
  | k :: r => by
    unfold ins
    split
    · simp
    · split
      · rename_i h; subst h; simp
      · simp only [List.mem_cons, mem_ins (l := r)]
        constructor
        · rintro (h | h | h)
          · exact .inr (.inl h)
          · exact .inl h
          · exact .inr (.inr h)
        · rintro (h | h | h)
          · exact .inr (.inl h)
          · exact .inl h
          · exact .inr (.inr h)
theorem ins_sorted {n : Int} : ∀ {l : List Int}, l.Pairwise (· < ·) → (ins n l).Pairwise (· < ·)
  | [], _ => by simp [ins]
  | k :: r, h => by
    obtain ⟨h1, h2⟩ := List.pairwise_cons.mp h
    unfold ins
    split
    · rename_i z
      refine List.pairwise_cons.mpr ⟨fun y hy => ?_, h⟩
      rcases List.mem_cons.mp hy with rfl | hy
      · exact z
      · exact Int.lt_trans z (h1 y hy)
    · split
      · exact h
      · refine List.pairwise_cons.mpr ⟨fun y hy => ?_, ins_sorted h2⟩
        rcases mem_ins.mp hy with rfl | hy
        · omega
        · exact h1 y hy
theorem ssetI_sorted : ∀ ns : List Int, (ssetI ns).Pairwise (· < ·)
  | [] => List.Pairwise.nil
  | n :: r => ins_sorted (ssetI_sorted r)
theorem mem_ssetI {m : Int} : ∀ {ns : List Int}, m ∈ ssetI ns ↔ m ∈ ns
  | [] => Iff.rfl
  | n :: r => by
    show m ∈ ins n (ssetI r) ↔ _
    rw [mem_ins, mem_ssetI (ns := r), List.mem_cons]
theorem sorted_uniq : ∀ {l m : List Int}, l.Pairwise (· < ·) → m.Pairwise (· < ·) → (∀ k, k ∈ l ↔ k ∈ m) → l = m
  | [], [], _, _, _ => rfl
  | [], b :: m, _, _, h => absurd ((h b).2 (by simp)) (by simp)
  | a :: l, [], _, _, h => absurd ((h a).1 (by simp)) (by simp)
  | a :: l, b :: m, h1, h2, h => by
    obtain ⟨p1, p2⟩ := List.pairwise_cons.mp h1
    obtain ⟨q1, q2⟩ := List.pairwise_cons.mp h2
    have e : a = b := by
      rcases List.mem_cons.mp ((h a).1 (by simp)) with z | z
      · exact z
      · rcases List.mem_cons.mp ((h b).2 (by simp)) with y | y
        · exact y.symm
        · have := p1 b y; have := q1 a z; omega
    subst e
    have : l = m := sorted_uniq p2 q2 fun k => by
      have hk := h k
      simp only [List.mem_cons] at hk
      constructor
      · intro hm
        rcases hk.1 (.inr hm) with rfl | z
        · exact absurd (p1 _ hm) (by omega)
        · exact z
      · intro hm
        rcases hk.2 (.inr hm) with rfl | z
        · exact absurd (q1 _ hm) (by omega)
        · exact z
    rw [this]

theorem nodup_len {l m : List Int} (hl : l.Nodup) (h : ∀ k, k ∈ l → k ∈ m) : l.length ≤ m.length := by
  induction l generalizing m with
  | nil => simp
  | cons x r ih =>
    obtain ⟨h1, h2⟩ := List.nodup_cons.mp hl
    have hx := h x (List.mem_cons_self ..)
    have := ih (m := m.erase x) h2 fun k hk => (List.mem_erase_of_ne (fun z => h1 (by rw [← z]; exact hk))).mpr (h k (List.mem_cons_of_mem _ hk))
    rw [List.length_erase_of_mem hx] at this
    have := List.length_pos_of_mem hx
    rw [List.length_cons]; omega
theorem setR_len {w : World} {h : Heap} {a : Addr} {ns : List Int} {c : Nat} (hS : SetR w h a (fun j => decide (j ∈ ns)) c) : c = (ssetI ns).length := by
  obtain ⟨o, es, ep, t, _, _, _, _, nd, hm, _, _, hn, _⟩ := hS
  have e : c = (es.toList.map keyOf).length := by rw [List.length_map, Array.length_toList, hn]
  have nd2 : (ssetI ns).Nodup := (ssetI_sorted ns).imp fun h => by omega
  have hmem : ∀ k, k ∈ es.toList.map keyOf ↔ k ∈ ssetI ns := fun k => by rw [← hm k, mem_ssetI, decide_eq_true_eq]
  have h1 := nodup_len nd fun k hk => (hmem k).mp hk
  have h2 := nodup_len nd2 fun k hk => (hmem k).mpr hk
  omega
def rSortSet (K : PySem.W.Frag) (te : TE) : TE := fun σ H Q => te σ H fun x H1 => ∃ (l : Addr) (ns : List Int), x = .ref l ∧ (SqL K H1 l (ns.map V.int) ∨ SqT K H1 l (ns.map V.int)) ∧ (ns.length ≤ 4000 ∧ (ssetI ns).length < 64) ∧ ∀ p, H1 p = none → Q (.ref p) (upd H1 p (.lst ((ssetI ns).map V.int)))
theorem pe_sortSet {X : Cx} {a : Expr} {ta : TE} {p p2 q pos : Pos} (hc : X.calm = true) (hg : Gl X "sorted") (hm : X.mg "sorted" = none) (hg2 : Gl X "set") (hm2 : X.mg "set" = none) (ha : PE X a ta)
    (na : starEach [a] X.env = (false, eval a X.env) :: starEach [] X.env) :
    PE X (.Call (.Name "sorted" p) [.Call (.Name "set" p2) [a] [] q] [] pos) (rSortSet X.K ta) := by
  refine ⟨fun pins s σ H Q I h => ?_⟩
  refine Call_ (ld_blt I hg hm PyProof.Rows.boot_sorted ?_)
  refine callWith_builtin1 (args_cons ?_ rfl) rfl rfl
  refine Call_ (ld_blt I hg2 hm2 PyProof.Rows.boot_set ?_)
  refine callWith_type1 (args_cons (thn (ha.run pins s σ H _ I h) fun v s1 ⟨x, H1, I1, r1, q1⟩ => args_nil ?_) na) na rfl
  obtain ⟨l, ns, rfl, hq, hl, q1⟩ := q1
  cases r1
  have both : ∀ {Q' : Value → Shared → Prop}, (∀ (h' : Heap) (tk c : Nat), SetR X.w h' s1.heap.objs.size (fun j => decide (j ∈ ns)) c → c ≤ ns.length →
      (∀ b o, s1.heap.get? b = some o → h'.get? b = some o) → Q' (.ref s1.heap.objs.size) { s1 with heap := h', toks := tk }) → wpAny (model X.prog X.w) X.A (call (.type "set") [.ref l]) Q' X.xe s1 := fun {Q'} fin => by
    rcases hq with hq | hq
    · obtain ⟨its, r, pl, hz⟩ := I1.list hq
      exact set_of_ints ns (I1.ok.hd hc) pl.isList (by simpa using r.ints) (by unfold scanBound; omega) fin
    · obtain ⟨its, r, pl, hz⟩ := I1.tuple hq
      exact set_of_intsT ns (I1.ok.hd hc) pl (by simpa using r.ints) (by unfold scanBound; omega) fin
  refine both fun h' tk c hS hcn hk => ?_
  refine args_nil ?_
  have I2 : Inv X pins σ H1 { s1 with heap := h', toks := tk } := I1.kept hk
  have hcl : c = (ssetI ns).length := setR_len hS
  refine sorted_set hS (I1.ok.hd hc) (by omega) fun s' p out cc ms k2 g2 o2 hp2 hout hints hpw hmem hlen => ?_
  have e : ms = ssetI ns := sorted_uniq hpw (ssetI_sorted ns) fun k => by
    rw [hmem k, mem_ssetI, decide_eq_true_eq]
  subst e
  have lim : ((ssetI ns).map V.int).length ≤ sizeLine := by rw [List.length_map, hlen]; exact small64 (by omega)
  have hn : H1 p = none := I2.hok.fresh hp2
  exact ⟨.ref p, _, I2.call' (ch := []) o2 (Un.laid k2 hp2 hn) (I2.hok.laid k2 hp2 (show ObjOk X.prog X.w _ _ _ (.lst ((ssetI ns).map V.int)) from ⟨lim, out.toList, cc, vals_of_ints hints, hout⟩)) (by rw [g2]; exact I2.bare) (fun _ z => nomatch z), rfl, q1 p hn⟩
theorem imp {X : Cx} {e : Expr} {t t' : TE} (h : PE X e t) (k : ∀ σ H Q, t' σ H Q → t σ H Q) : PE X e t' := ⟨fun pins s σ H Q I q => h.run pins s σ H Q I (k σ H Q q)⟩

def RpTs (pa : PA) (G H : Hp) : List V → List D → Prop
  | [], [] => True
  | v :: vs, d :: ds => RpT pa G H v d ∧ RpTs pa G H vs ds
  | _, _ => False
theorem RpTs.one {pa : PA} {G H : Hp} {vs : List V} {d : D} (h : RpTs pa G H vs [d]) : ∃ v, vs = [v] ∧ RpT pa G H v d := by
  match vs, h with
  | [v], h => exact ⟨v, rfl, h.1⟩
theorem RpTs.two {pa : PA} {G H : Hp} {vs : List V} {d e : D} (h : RpTs pa G H vs [d, e]) : ∃ v w, vs = [v, w] ∧ RpT pa G H v d ∧ RpT pa G H w e := by
  match vs, h with
  | [v, w], h => exact ⟨v, w, rfl, h.1, h.2.1⟩
def rBlt (f : Bf) : List V → Hp → VK → Prop := fun vs H Q => ∃ pa G ds d fr, Sub G H ∧ RpTs pa G H vs ds ∧ bltD f ds = some (d, fr) ∧ ∀ v H1, Res pa G H v d fr H1 → Q v H1
theorem maxI_is : ∀ {ns : List Int} {m : Int}, m ∈ ns → (∀ y, y ∈ ns → y ≤ m) → m = maxI ns
  | [], _, h, _ => by simp at h
  | [n], m, h, _ => by simpa [maxI] using h
  | n :: k :: r, m, h, u => by
    show m = max n (maxI (k :: r))
    by_cases z : m ∈ k :: r
    · have ih := maxI_is z fun y hy => u y (List.mem_cons_of_mem _ hy)
      have := u n (by simp)
      omega
    · rcases List.mem_cons.mp h with rfl | h
      · have : ∀ l : List Int, (∀ y, y ∈ l → y ≤ m) → l ≠ [] → maxI l ≤ m := by
          intro l
          induction l with
          | nil => intro _ z; exact absurd rfl z
          | cons a l ih =>
            intro hy _
            cases l with
            | nil => exact hy a (by simp)
            | cons b l =>
              have := ih (fun y h => hy y (List.mem_cons_of_mem _ h)) (by simp)
              have := hy a (by simp)
              show max a (maxI (b :: l)) ≤ m
              omega
        have := this (k :: r) (fun y hy => u y (List.mem_cons_of_mem _ hy)) (by simp)
        omega
      · exact absurd h z
theorem minI_is : ∀ {ns : List Int} {m : Int}, m ∈ ns → (∀ y, y ∈ ns → m ≤ y) → m = minI ns
  | [], _, h, _ => by simp at h
  | [n], m, h, _ => by simpa [minI] using h
  | n :: k :: r, m, h, u => by
    show m = min n (minI (k :: r))
    by_cases z : m ∈ k :: r
    · have ih := minI_is z fun y hy => u y (List.mem_cons_of_mem _ hy)
      have := u n (by simp)
      omega
    · rcases List.mem_cons.mp h with rfl | h
      · have : ∀ l : List Int, (∀ y, y ∈ l → m ≤ y) → l ≠ [] → m ≤ minI l := by
          intro l
          induction l with
          | nil => intro _ z; exact absurd rfl z
          | cons a l ih =>
            intro hy _
            cases l with
            | nil => exact hy a (by simp)
            | cons b l =>
              have := ih (fun y h => hy y (List.mem_cons_of_mem _ h)) (by simp)
              have := hy a (by simp)
              show m ≤ min a (minI (b :: l))
              omega
        have := this (k :: r) (fun y hy => u y (List.mem_cons_of_mem _ hy)) (by simp)
        omega
      · exact absurd h z
section
variable {X : Cx}
theorem b_len : CallR X (.builtin "len") (rBlt .len) := by
  intro pins s σ H vs us Q I r h
  obtain ⟨pa, G, ds, d, fr, gh, rs, e, k⟩ := h
  unfold bltD at e
  split at e
  all_goals try (first | (cases e; done) | (rename_i z _; cases z; done) | (rename_i z; cases z; done))
  · split at e
    · rename_i hz
      cases e
      obtain ⟨v, rfl, rv⟩ := rs.one
      rw [rv.str] at r
      exact call_len_str pins s σ H _ us Q I r ⟨_, rfl, hz, k _ _ (.old (.int _))⟩
    · cases e
  · cases e
    obtain ⟨v, rfl, rv⟩ := rs.one
    obtain ⟨a, xs, rfl, ha, ra⟩ := rv.lst
    refine call_len_seq pins s σ H _ us Q I r ⟨a, xs, rfl, .inl (.of ha), ?_⟩
    rw [ra.len]
    exact k _ _ (.old (.int _))
  · cases e
    obtain ⟨v, rfl, rv⟩ := rs.one
    obtain ⟨a, xs, rfl, ha, ra⟩ := rv.tup
    refine call_len_seq pins s σ H _ us Q I r ⟨a, xs, rfl, .inr (ha.up gh).sq, ?_⟩
    rw [ra.len]
    exact k _ _ (.old (.int _))
theorem b_all (hc : X.calm = true) : CallR X (.builtin "all") (rBlt .all) := by
  intro pins s σ H vs us Q I r h
  obtain ⟨pa, G, ds, d, fr, gh, rs, e, k⟩ := h
  unfold bltD at e
  split at e
  all_goals try (first | (cases e; done) | (rename_i z _; cases z; done) | (rename_i z; cases z; done))
  obtain ⟨bs, eb, e⟩ := Option.map_eq_some_iff.mp e
  cases e
  obtain ⟨v, rfl, rv⟩ := rs.one
  obtain ⟨a, xs, rfl, ha, ra⟩ := rv.lst
  rw [ra.bools eb] at ha
  exact cr_all hc pins s σ H _ us Q I r ⟨a, bs, rfl, .of ha, k _ _ (.old (.bl _))⟩
theorem b_any (hc : X.calm = true) : CallR X (.builtin "any") (rBlt .any) := by
  intro pins s σ H vs us Q I r h
  obtain ⟨pa, G, ds, d, fr, gh, rs, e, k⟩ := h
  unfold bltD at e
  split at e
  all_goals try (first | (cases e; done) | (rename_i z _; cases z; done) | (rename_i z; cases z; done))
  obtain ⟨bs, eb, e⟩ := Option.map_eq_some_iff.mp e
  cases e
  obtain ⟨v, rfl, rv⟩ := rs.one
  obtain ⟨a, xs, rfl, ha, ra⟩ := rv.lst
  rw [ra.bools eb] at ha
  exact cr_any hc pins s σ H _ us Q I r ⟨a, bs, rfl, .of ha, k _ _ (.old (.bl _))⟩
theorem b_sum (hc : X.calm = true) : CallR X (.builtin "sum") (rBlt .sum) := by
  intro pins s σ H vs us Q I r h
  obtain ⟨pa, G, ds, d, fr, gh, rs, e, k⟩ := h
  unfold bltD at e
  split at e
  all_goals try (first | (cases e; done) | (rename_i z _; cases z; done) | (rename_i z; cases z; done))
  obtain ⟨ns, eb, e⟩ := Option.map_eq_some_iff.mp e
  cases e
  obtain ⟨v, rfl, rv⟩ := rs.one
  obtain ⟨a, xs, rfl, ha, ra⟩ := rv.lst
  rw [ra.ints eb] at ha
  exact cr_sum hc pins s σ H _ us Q I r ⟨a, ns, rfl, .of ha, k _ _ (.old (.int _))⟩
/-- what a pair in the heap says -/
def keyP (G : Hp) : V → Int × Int
  | .ref t => match G t with
    | some (.frz _ (.tup [.int a, .int b])) => (a, b)
    | _ => (0, 0)
  | _ => (0, 0)
theorem rp_pair {pa : PA} {G : Hp} {v : V} {p : Int × Int} (r : Rp pa G v (pairD p)) : ∃ t, v = .ref t ∧ TupAt G t [.int p.1, .int p.2] ∧ keyP G v = p := by
  cases r with
  | tup h r =>
    rename_i a xs
    obtain rfl : xs = [p.1, p.2].map V.int := Rps.ints r (by rfl)
    refine ⟨a, rfl, h, ?_⟩
    obtain ⟨o, h, _⟩ := h
    unfold keyP
    have h : G a = some (.frz o (.tup [.int p.1, .int p.2])) := h
    simp only [h]
theorem rps_mem {pa : PA} {G : Hp} : ∀ {xs : List V} {ps : List (Int × Int)}, Rps pa G xs (ps.map pairD) → (∀ x ∈ xs, Rp pa G x (pairD (keyP G x))) ∧ xs.map (keyP G) = ps
  | [], ps, r => by
    have := r.len
    cases ps with
    | nil => exact ⟨fun x hx => (by cases hx), rfl⟩
    | cons _ _ => simp at this
  | x :: xs, [], r => by have := r.len; simp at this
  | x :: xs, p :: ps, r => by
    cases r with
    | cons r1 r2 =>
      obtain ⟨_, _, _, e⟩ := rp_pair r1
      obtain ⟨h1, h2⟩ := rps_mem r2
      refine ⟨fun y hy => ?_, by rw [List.map_cons, e, h2]⟩
      rcases List.mem_cons.mp hy with rfl | hy
      · rw [e]; exact r1
      · exact h1 y hy
theorem rps_of {pa : PA} {G : Hp} : ∀ {ys : List V}, (∀ y ∈ ys, Rp pa G y (pairD (keyP G y))) → Rps pa G ys ((ys.map (keyP G)).map pairD)
  | [], _ => .nil
  | y :: ys, h => .cons (h y (List.mem_cons_self ..)) (rps_of fun z hz => h z (List.mem_cons_of_mem _ hz))
theorem intsOf_eq : ∀ {xs : List D} {ks : List Int}, intsOf xs = some ks → xs = ks.map .int
  | [], ks, h => by rw [intsOf] at h; cases h; rfl
  | x :: xs, ks, h => by
    cases x with
    | int i =>
      rw [intsOf] at h
      obtain ⟨js, e, h⟩ := Option.map_eq_some_iff.mp h
      subst h
      rw [List.map_cons, ← intsOf_eq e]
    | _ => cases h
theorem rowOf_some {d : D} {x : Int × List Int} (h : rowOf d = some x) : d = rowE x := by
  unfold rowOf at h
  split at h
  · rename_i a ds
    obtain ⟨l, e, rfl⟩ := Option.map_eq_some_iff.mp h
    unfold rowE
    rw [intsOf_eq e]
  · cases h
theorem rowsOf_some : ∀ {xs : List D} {rs : List (Int × List Int)}, rowsOf xs = some rs → xs = rs.map rowE
  | [], rs, h => by cases h; rfl
  | d :: xs, rs, h => by
    unfold rowsOf at h
    obtain ⟨x, e1, h⟩ := Option.bind_eq_some_iff.mp h
    obtain ⟨r, e2, rfl⟩ := Option.map_eq_some_iff.mp h
    rw [rowOf_some e1, rowsOf_some e2]; rfl
def RowR (pa : PA) (G : Hp) (v : Value) (b : Int × List Int) : Prop := ∃ t, v = .ref t ∧ Rp pa G (.ref t) (rowE b)
theorem rowR_of {pa : PA} {G : Hp} : ∀ {its : List Value} {rs : List (Int × List Int)}, Rps pa G (its.map backV) (rs.map rowE) → (∀ w ∈ its, ∃ t, w = Value.ref t) → PySem.W.EachIs (RowR pa G) its rs
  | [], [], _, _ => .nil
  | [], _ :: _, r, _ => by cases r
  | _ :: _, [], r, _ => by cases r
  | w :: its, b :: rs, r, h => by
    cases r with
    | cons r1 r2 =>
      obtain ⟨t, rfl⟩ := h w (List.mem_cons_self ..)
      exact .cons ⟨t, rfl, r1⟩ (rowR_of r2 fun w hw => h w (List.mem_cons_of_mem _ hw))
theorem rowR_back {pa : PA} {G : Hp} : ∀ {out : List Value} {rs : List (Int × List Int)}, PySem.W.EachIs (RowR pa G) out rs → Rps pa G (out.map backV) (rs.map rowE) ∧ ∀ w ∈ out, ∃ t, w = Value.ref t
  | _, _, .nil => ⟨.nil, fun w hw => by cases hw⟩
  | _, _, .cons ⟨t, e, r⟩ h => by
    obtain ⟨h1, h2⟩ := rowR_back h
    subst e
    exact ⟨.cons r h1, fun w hw => by
      rcases List.mem_cons.mp hw with rfl | hw
      · exact ⟨t, rfl⟩
      · exact h2 w hw⟩
theorem b_srt (hu : X.A.units + 65 < cLine) : CallR X (.builtin "sorted") (rBlt .srt) := by
  intro pins s σ H vs us Q I r h
  obtain ⟨pa, G, ds, d, fr, gh, rs, e, k⟩ := h
  unfold bltD at e
  split at e
  all_goals try (first | (cases e; done) | (rename_i z _; cases z; done) | (rename_i z; cases z; done))
  · obtain ⟨ys, eb, e⟩ := Option.map_eq_some_iff.mp e
    cases e
    obtain ⟨v, rfl, rv⟩ := rs.one
    obtain ⟨a, xs, rfl, ha, ra⟩ := rv.lst
    unfold srtD at eb
    split at eb
    · rename_i ns en
      cases eb
      rw [ra.ints en] at ha
      refine cr_sortedI pins s σ H _ us Q I r ⟨a, ns, rfl, .of ha, fun ns' p h1 h2 h3 => ?_⟩
      rw [srt_of h1 h2]
      exact k _ _ (.lst h3 (Rps.ofInts _))
    · split at eb
      · rename_i ps ep
        cases eb
        rw [pairsOf_some ep] at ra
        obtain ⟨hm, hk⟩ := rps_mem ra
        obtain ⟨u, rfl, ru⟩ := vals1 r
        cases ru
        obtain ⟨its, rv, hl, small⟩ := I.list (.of ha)
        obtain ⟨ex, refs⟩ := refs_back rv fun x hx => (rp_pair (hm x hx)).imp fun _ z => z.1
        refine SrtO.sorted_pairsO (k := fun w => keyP G (backV w)) hl.isList (rv.length ▸ small) (fun w hw => ?_) fun h' b out sorted stable kept new at' => ?_
        · obtain ⟨t, rfl⟩ := refs w hw
          obtain ⟨t', e, ⟨o, h1, _⟩, h2⟩ := rp_pair (hm (backV (.ref t)) (by rw [ex]; exact List.mem_map.mpr ⟨_, hw, rfl⟩))
          cases e
          obtain ⟨_, _, its2, r2, ob, e1, e2, n, e3⟩ := I.hok _ _ (gh _ _ h1)
          obtain ⟨w1, w2, rfl, ⟨t1, rfl⟩, ⟨t2, rfl⟩⟩ := vals2 r2
          exact ⟨_, ob, t1, t2, n, rfl, e1, e2, e3⟩
        · have refs2 : ∀ w ∈ out, ∃ t, w = Value.ref t := fun w hw => refs w (stable.perm.mem_iff.mp hw)
          obtain ⟨n, at'⟩ := at'
          have perm : (out.map backV).Perm xs := by rw [ex]; exact stable.perm.map _
          have hz : (out.map backV).map (keyP G) = srtP ps := by
            refine srtP_of (by rw [← hk]; exact perm.map _) (List.pairwise_map.mpr (List.pairwise_map.mpr (sorted.imp fun {x y} q => ?_)))
            have q := SrtO.lexB_no.mp q
            rw [leP_iff]
            omega
          have all := rps_of (pa := pa) (G := G) (ys := out.map backV) fun y hy => hm y (perm.mem_iff.mp hy)
          rw [hz] at all
          refine ⟨.ref b, _, I.laid (t' := s.toks) (o := .lst (out.map backV)) kept new ⟨?_, out, n, vals_back refs2, at'⟩, rfl, k _ _ (.lst (I.hok.fresh new) all)⟩
          rw [perm.length_eq]; exact small
      · obtain ⟨rws, er, eb⟩ := Option.bind_eq_some_iff.mp eb
        split at eb
        · rename_i g60
          cases eb
          have ex0 := rowsOf_some er
          obtain ⟨u, rfl, ru⟩ := vals1 r
          obtain ⟨as, rd'⟩ := Dp.reads I (.list _) _ u (rv.dp gh _ g60) ru
          cases ru
          obtain ⟨its, rvs, hlst, small⟩ := I.list (.of ha)
          cases rd' with
          | list h1 h2 h3 h4 =>
            rename_i arr _ as0
            have ev : arr = its.toArray := by
              obtain ⟨o, e1, e2, n, e3⟩ := hlst.isList
              rw [h1] at e1
              cases e1
              rw [h3] at e3
              cases e3; rfl
            subst ev
            subst ex0
            have h4 : ReadsAll s.heap its (rws.map rowE) as0 := by simpa using h4
            have hxr : ∀ x ∈ xs, ∃ t, x = V.ref t := fun x hx => by
              obtain ⟨i, hi⟩ := List.mem_iff_getElem?.mp hx
              obtain ⟨d, hd, rx⟩ := ra.getV hi
              obtain ⟨b, _, rfl⟩ := List.mem_map.mp (List.mem_of_getElem? hd)
              cases rx with
              | tup h r => exact ⟨_, rfl⟩
            obtain ⟨ex, refs⟩ := refs_back rvs hxr
            rw [ex] at ra
            have hR := rowR_of ra refs
            refine PySem.W.sorted_data (enc := rowE) hlst.isList hR (PySem.W.readsAll_each rowE h4) (PySem.W.AllAlike.of fun b b' => ?_) (PySem.W.Sortable.tuples fun b => ⟨_, _, rfl⟩) (by rw [← hR.length]; exact rvs.length ▸ small) (fun b _ => ?_) fun out hlen hRo => ?_
            · exact PySem.W.alike_ints (b.1 :: b.2) (b'.1 :: b'.2)
            · have : (rowE b).depth = PyData.depthAll ((b.1 :: b.2).map PyData.int) + 1 := by simp [rowE, PyData.depth]
              rw [this, PySem.W.depth_ints]
              omega
            · obtain ⟨all, refs2⟩ := rowR_back hRo
              have kept : ∀ b o, s.heap.get? b = some o → (PyProof.Rows.sortedAll s.heap its out.toArray).get? b = some o := fun _ _ => PyProof.Rows.sortedAll_old
              have new : s.heap.objs.size ≤ s.heap.objs.size + 1 := Nat.le_succ _
              obtain ⟨n, at'⟩ := PyProof.Rows.sortedAll_at s.heap its out.toArray
              refine ⟨.ref _, _, I.laid (t' := s.toks) (o := .lst (out.map backV)) kept new ⟨?_, out, n, vals_back refs2, at'⟩, rfl, k _ _ (.lst (I.hok.fresh new) all)⟩
              rw [List.length_map, hlen, ← hR.length]
              exact rvs.length ▸ small
        · cases eb
  · obtain ⟨ns, eb, e⟩ := Option.map_eq_some_iff.mp e
    cases e
    obtain ⟨v, rfl, rv⟩ := rs.one
    obtain ⟨a, xs, rfl, ha, ra⟩ := rv.tup
    rw [ra.ints eb] at ha
    refine cr_sortedTI pins s σ H _ us Q I r ⟨a, ns, rfl, (ha.up gh).sq, fun ns' p h1 h2 h3 => ?_⟩
    rw [srt_of h1 h2]
    exact k _ _ (.lst h3 (Rps.ofInts _))
theorem b_max (hc : X.calm = true) : CallR X (.builtin "max") (rBlt .max) := by
  intro pins s σ H vs us Q I r h
  obtain ⟨pa, G, ds, d, fr, gh, rs, e, k⟩ := h
  unfold bltD at e
  split at e
  all_goals try (first | (cases e; done) | (rename_i z _; cases z; done) | (rename_i z; cases z; done))
  · obtain ⟨ns, eb, e⟩ := Option.bind_eq_some_iff.mp e
    split at e
    · rename_i hz
      cases e
      obtain ⟨v, rfl, rv⟩ := rs.one
      obtain ⟨a, xs, rfl, ha, ra⟩ := rv.lst
      rw [ra.ints eb] at ha
      exact cr_max hc pins s σ H _ us Q I r ⟨a, ns, rfl, .of ha, hz, fun m h1 h2 => by rw [maxI_is h1 h2]; exact k _ _ (.old (.int _))⟩
    · cases e
  · cases e
    obtain ⟨v, w, rfl, rv, rw'⟩ := rs.two
    rw [rv.int, rw'.int] at r
    exact call_max2 hc pins s σ H _ us Q I r ⟨_, _, rfl, k _ _ (.old (.int _))⟩
theorem alikeB_all {xs : List D} (h : alikeB xs = true) : PySem.W.AlikeAll xs := by
  unfold alikeB at h
  rw [Bool.and_eq_true, List.all_eq_true, List.all_eq_true] at h
  refine ⟨fun x hx y hy => List.all_eq_true.mp (h.1 x hx) y hy, fun x hx e => ?_⟩
  have := h.2 x hx
  rw [e] at this
  cases this
theorem min_list_at {prog : Program} {w : World} {A : Around} {E : Value → Shared → Prop} {s : Shared} {l : Addr} {vs : Array Value} {x : PyData} {xs : List PyData} {as : List Addr} {Q : Value → Shared → Prop} (hh : A.handled = none) (hl : s.heap.IsList l vs) (hr : ReadsAll s.heap vs.toList (x :: xs) as) (ha : PySem.W.AlikeAll (x :: xs)) (hu : A.units + 1 + PyData.depthAll (x :: xs) < cLine)
    (h : ∀ (i : Nat) v h' tk, vs[i]? = some v → i < (x :: xs).length → (x :: xs).getD i .none = PySem.W.minD x xs → (∀ b o, s.heap.get? b = some o → h'.get? b = some o) → Q v { s with heap := h', toks := tk }) :
    wpAny (model prog w) A (call (.builtin "min") [.ref l]) Q E s := by
  have hn : vs.size = xs.length + 1 := PySem.W.readsAll_len hr
  refine call_min_walkH (PySem.W.iter_listW (A := A.in1) hh hl fun s₂ e W st hfp hw hk => ?_)
  refine ⟨_, _, _, _, _, _, _, s.heap, _, rfl, W, st, hfp, by omega, hw, hk, PySem.W.cmpIn_lt (A := A.in1) hr ha (by show A.units + 1 + _ < _; exact hu), fun v s' hP m => ?_⟩
  obtain ⟨h', tk, rfl, hk'⟩ := PySem.W.moved_old e rfl m
  have e1 : vs.size - 1 = xs.length := by omega
  obtain ⟨e0, e2⟩ := PySem.W.argBest_fold PySem.W.dataLt PyData.none x xs xs.length (Nat.le_refl _)
  rw [List.take_length] at e2
  rw [e1] at hP
  exact h _ v h' tk hP (by simp only [List.length_cons]; omega) e2 hk'
theorem b_min (hc : X.calm = true) (hu : X.A.units + 65 < cLine) : CallR X (.builtin "min") (rBlt .min) := by
  intro pins s σ H vs us Q I r h
  obtain ⟨pa, G, ds, d, fr, gh, rs, e, k⟩ := h
  unfold bltD at e
  split at e
  all_goals try (first | (cases e; done) | (rename_i z _; cases z; done) | (rename_i z; cases z; done))
  · rename_i xs0 _
    unfold minLD at e
    cases eb : intsOf xs0 with
    | some ns =>
      rw [eb] at e
      dsimp only at e
      split at e
      · rename_i hz
        cases e
        obtain ⟨v, rfl, rv⟩ := rs.one
        obtain ⟨a, xs, rfl, ha, ra⟩ := rv.lst
        rw [ra.ints eb] at ha
        exact cr_min hc pins s σ H _ us Q I r ⟨a, ns, rfl, .of ha, hz, fun m h1 h2 => by rw [minI_is h1 h2]; exact k _ _ (.old (.int _))⟩
      · cases e
    | none =>
      rw [eb] at e
      dsimp only at e
      cases xs0 with
      | nil => cases e
      | cons x0 r0 =>
        dsimp only at e
        split at e
        · rename_i hz
          obtain ⟨g60, hal⟩ := Bool.and_eq_true_iff.mp hz
          cases e
          obtain ⟨v, rfl, rv⟩ := rs.one
          obtain ⟨u, rfl, ru⟩ := vals1 r
          obtain ⟨as, rd'⟩ := Dp.reads I (.list (x0 :: r0)) v u (rv.dp gh _ g60) ru
          have lay := (good_lay 60).1 _ g60
          obtain ⟨a, xs, rfl, ha, ra⟩ := rv.lst
          obtain ⟨its, rvs, hlst, _⟩ := I.list (.of ha)
          cases ru
          cases rd' with
          | list h1 h2 h3 h4 =>
            rename_i arr _ _
            have ev : arr = its.toArray := by
              obtain ⟨o, e1, e2, n, e3⟩ := hlst.isList
              rw [h1] at e1
              cases e1
              rw [h3] at e3
              cases e3; rfl
            subst ev
            have dep : PyData.depthAll (x0 :: r0) ≤ 60 := by
              have := lay.2
              simp only [PyData.depth] at this
              omega
            refine min_list_at (I.ok.hd hc) ⟨_, h1, h2, _, h3⟩ h4 (alikeB_all hal) (by omega) fun i v h' tk hv hi hd hk => ?_
            have hdi : (x0 :: r0)[i]? = some (PySem.W.minD x0 r0) := by
              rw [List.getElem?_eq_getElem hi, ← hd, List.getD_eq_getElem?_getD, List.getElem?_eq_getElem hi]; rfl
            obtain ⟨xv, hxv, rp⟩ := ra.get hdi
            obtain ⟨u, hu1, ru⟩ := rvs.get hxv
            have : u = v := by
              have e1 : its[i]? = some v := by simpa using hv
              rw [hu1] at e1
              exact Option.some.inj e1
            subst this
            exact ⟨xv, H, I.kept (t' := tk) hk, ru, k _ _ (.old rp)⟩
        · cases e
  · cases e
    obtain ⟨v, w, rfl, rv, rw'⟩ := rs.two
    rw [rv.int, rw'.int] at r
    exact call_min2 hc pins s σ H _ us Q I r ⟨_, _, rfl, k _ _ (.old (.int _))⟩
theorem b_tuple : CallR X (.type "tuple") (rBlt .tuple) := by
  intro pins s σ H vs us Q I r h
  obtain ⟨pa, G, ds, d, fr, gh, rs, e, k⟩ := h
  unfold bltD at e
  split at e
  all_goals try (first | (cases e; done) | (rename_i z _; cases z; done) | (rename_i z; cases z; done))
  · cases e
    obtain ⟨v, rfl, rv⟩ := rs.one
    obtain ⟨a, xs, rfl, ha, ra⟩ := rv.lst
    exact call_tupF pins s σ H _ us Q I r ⟨a, xs, rfl, .inl ⟨.of ha, Res.tup k ra⟩⟩
  · cases e
    obtain ⟨v, rfl, rv⟩ := rs.one
    obtain ⟨a, xs, rfl, ha, ra⟩ := rv.tup
    exact call_tupF pins s σ H _ us Q I r ⟨a, xs, rfl, .inr ⟨(ha.up gh).sq, k _ _ (.old (.tup ha ra))⟩⟩
theorem b_list : CallR X (.type "list") (rBlt .list) := by
  intro pins s σ H vs us Q I r h
  obtain ⟨pa, G, ds, d, fr, gh, rs, e, k⟩ := h
  unfold bltD at e
  split at e
  all_goals try (first | (cases e; done) | (rename_i z _; cases z; done) | (rename_i z; cases z; done))
  · cases e
    obtain ⟨v, rfl, rv⟩ := rs.one
    obtain ⟨a, xs, rfl, ha, ra⟩ := rv.lst
    exact call_list_of pins s σ H _ us Q I r ⟨a, xs, rfl, .inl (.of ha), fun p hp => k _ _ (.lst hp ra)⟩
  · cases e
    obtain ⟨v, rfl, rv⟩ := rs.one
    obtain ⟨a, xs, rfl, ha, ra⟩ := rv.tup
    exact call_list_of pins s σ H _ us Q I r ⟨a, xs, rfl, .inr (ha.up gh).sq, fun p hp => k _ _ (.lst hp ra)⟩
theorem b_int : CallR X (.type "int") (rBlt .int) := by
  intro pins s σ H vs us Q I r h
  obtain ⟨pa, G, ds, d, fr, gh, rs, e, k⟩ := h
  unfold bltD at e
  split at e
  all_goals try (first | (cases e; done) | (rename_i z _; cases z; done) | (rename_i z; cases z; done))
  · cases e
    obtain ⟨v, rfl, rv⟩ := rs.one
    rw [rv.int] at r
    exact call_int1 pins s σ H _ us Q I r (.inl ⟨_, rfl, k _ _ (.old (.int _))⟩)
  · cases e
    obtain ⟨v, rfl, rv⟩ := rs.one
    rw [rv.bl] at r
    exact call_int1 pins s σ H _ us Q I r (.inr ⟨_, rfl, k _ _ (.old (.int _))⟩)
theorem b_repr (hu : X.A.units + 65 < cLine) (hg : X.A.guards = some []) : CallR X (.builtin "repr") (rBlt .repr) := by
  intro pins s σ H vs us Q I r h
  obtain ⟨pa, G, ds, d, fr, gh, rs, e, k⟩ := h
  unfold bltD at e
  split at e
  all_goals try (first | (cases e; done) | (rename_i z _; cases z; done) | (rename_i z; cases z; done))
  rename_i d' _
  split at e
  · rename_i hz
    simp only [Bool.and_eq_true, decide_eq_true_eq] at hz
    obtain ⟨⟨g60, hs⟩, hl⟩ := hz
    cases e
    obtain ⟨v, rfl, rv⟩ := rs.one
    have k' := k _ _ (.old (.str _))
    obtain ⟨u, rfl, ru⟩ := vals1 r
    have lay := (good_lay 60).1 d' g60
    have big : ∀ a, v = .ref a → wpAny (model X.prog X.w) X.A (call (.builtin "repr") [u]) (EP X pins σ Q) X.xe s := fun a ea => by
      obtain ⟨as, rd'⟩ := Dp.reads I d' v u (rv.dp gh _ g60) ru
      subst ea
      cases ru
      exact repr_of_reads' rd' hs (PyData.noDict_hsm (PyData.hasDict_of_canLay d' lay.1)) hg (by omega) (fun _ _ e => e)
        (fun h' u tk hk => ⟨.str _, H, I.kept hk, ⟨u, rfl⟩, k'⟩) hl
    cases d' with
    | none =>
      rw [rv.non] at ru
      cases ru
      exact PySem.P.repr_of_none ⟨.str _, H, I.tok _, ⟨_, rfl⟩, k'⟩
    | bool b =>
      rw [rv.bl] at ru
      cases ru
      exact PySem.P.repr_of_bool ⟨.str _, H, I.tok _, ⟨_, rfl⟩, k'⟩
    | int i =>
      rw [rv.int] at ru
      obtain ⟨t, rfl⟩ := ru
      exact PySem.P.repr_of_int (by simpa [PyData.showable] using hs) ⟨.str _, H, I.tok _, ⟨_, rfl⟩, k'⟩
    | str x =>
      rw [rv.str] at ru
      obtain ⟨t, rfl⟩ := ru
      exact PySem.P.repr_of_str ⟨.str _, H, I.tok _, ⟨_, rfl⟩, k'⟩ hl
    | list xs =>
      obtain ⟨a, _, ea, _⟩ := rv.lst
      exact big a ea
    | tuple xs =>
      obtain ⟨a, _, ea, _⟩ := rv.tup
      exact big a ea
    | dict xs => simp [good] at g60
  · cases e
def rIs5 (t : Ty5) : List V → Hp → VK → Prop := fun vs H Q => ∃ pa G v d b, vs = [v, .ty t.ty] ∧ Sub G H ∧ RpT pa G H v d ∧ isiD t d = some b ∧ Q (.bl b) H
theorem b_isi (t : Ty5) : CallR X (.builtin "isinstance") (rIs5 t) := by
  intro pins s σ H vs us Q I r h
  obtain ⟨pa, G, v, d, b, rfl, gh, rv, e, k⟩ := h
  have go : ∀ (T : String), L2.TyOf X.K H v (.type T) → kitB T t.ty = some b → wpAny (model X.prog X.w) X.A (call (.builtin "isinstance") us) (EP X pins σ Q) X.xe s := fun T ty kb =>
    call_isi pins s σ H _ us Q I r ⟨v, .ty t.ty, .type T, .type t.ty, b, rfl, .ty _, .base ty, kit_ty kb, k⟩
  cases d with
  | none => rw [rv.non] at go; exact go "NoneType" .non (by cases t <;> (cases e; decide +kernel))
  | bool x => rw [rv.bl] at go; exact go "bool" (.bl _) (by cases t <;> (cases e; decide +kernel))
  | int x => rw [rv.int] at go; exact go "int" (.int _) (by cases t <;> (cases e; decide +kernel))
  | str x => rw [rv.str] at go; exact go "str" (.str _) (by cases t <;> (cases e; decide +kernel))
  | list x =>
    obtain ⟨a, xs, rfl, ha, ra⟩ := rv.lst
    exact go "list" (.lst ha) (by cases t <;> (cases e; decide +kernel))
  | tuple x =>
    obtain ⟨a, xs, rfl, ⟨o, ha, _⟩, ra⟩ := rv.tup
    have kb : kitB "tuple" t.ty = some b := by cases t <;> (cases e; decide +kernel)
    obtain ⟨u, c, rfl, ru, rc⟩ := vals2 r
    cases ru
    have ec := (ClsV.ty t.ty).eq rc
    subst ec
    obtain ⟨_, _, _, _, ob, h1, h2, _⟩ := I.hok a _ (gh _ _ ha)
    exact PySem.W.kia_one PySem.W.kitx_tuple I.kIn ⟨ob, h1, h2⟩ (kit_ty kb) (fun z => nomatch z) fun tk => ⟨.bl b, H, I.tok tk, rfl, k⟩
  | dict x => cases t <;> cases e
end
end Fs

set_option Elab.async false
set_option linter.all false
set_option maxRecDepth 100000
set_option maxHeartbeats 4000000
namespace Fs
open PySem PySem.Spec PyProof.Rows L2

abbrev GSp := List V → Hp → VK → Prop
def GR (outer : List Env) (P : Program) (w : World) (H : Hp) (s : Shared) (Q : VK) : Result → Shared → Prop
  | .ok (.ret u), s' => CE outer P w H s Q u s'
  | _, _ => False
/-- what stays the same through the law -/
structure Wd where
  P : Program
  w : World
  K : PySem.W.Frag
  mg : Str → Option Value
  base : Heap
structure GFn (W : Wd) (k : Nat) (f : Addr) (fd : FuncData) (ps : List Str) (sp : GSp) : Prop where
  len : ∀ vs H Q, sp vs H Q → vs.length = ps.length
  run : ∀ (A : Around) (outer : List Env) (s : Shared) (H : Hp) (args : Args) (us : List Value) (vs : List V) (Q : VK),
    Room k A → A.guards = some [] → Env0 W.P W.w W.K W.mg W.base A outer s H → BindsTo s fd args (ps.zip us) → Vals vs us → sp vs H Q →
    codeAny (model W.P W.w) A (.call (.ref f) args) (GR outer W.P W.w H s Q) s
theorem GFn.mono {W : Wd} {j k : Nat} {f : Addr} {fd : FuncData} {ps : List Str} {sp : GSp} (F : GFn W j f fd ps sp) (h : j ≤ k) : GFn W k f fd ps sp :=
  ⟨F.len, fun A outer s H args us vs Q hr => F.run A outer s H args us vs Q (hr.mono h)⟩
theorem GFn.imp {W : Wd} {k : Nat} {f : Addr} {fd : FuncData} {ps : List Str} {sp sp' : GSp} (F : GFn W k f fd ps sp) (h : ∀ vs H Q, sp' vs H Q → sp vs H Q) : GFn W k f fd ps sp' :=
  ⟨fun vs H Q z => F.len vs H Q (h vs H Q z), fun A outer s H args us vs Q hr hg e0 b rv z => F.run A outer s H args us vs Q hr hg e0 b rv (h vs H Q z)⟩
def wdOf (X : Cx) : Wd := ⟨X.prog, X.w, X.K, X.mg, X.base⟩

/-- the context of a def's body -/
def gx (W : Wd) (N : List Str) (qual : Str) (scope : Scope) (f : Addr) (cd : Value) (A : Around) (outer : List Env) (s : Shared) (H : Hp) : Cx :=
  { cxOf (fun _ _ _ _ _ _ => False) W.P W.w W.K W.mg W.base N qual scope f cd A outer s H (fun _ _ _ => False) with xe := fun _ _ => False }
theorem inv_xe {X : Cx} {pins : List (Addr × Obj)} {σ : L2.St} {H : Hp} {s : Shared} (E : Value → Shared → Prop) (I : Inv X pins σ H s) : Inv { X with xe := E } pins σ H s := I.wish E

/-- a def of the text, by its body -/
theorem gfn_of {W : Wd} {k : Nat} {f : Addr} {name qual : Str} {params : Arguments} {body : List Stmt} {scope : Scope} {dV kV doc pm cdv ct oc : Value} {an od : Option Addr} {osl : Array (Option Value)} {N ps : List Str} {sp : GSp}
    (lk : W.K.lookup f = some ⟨oc, od, .func (PySem.W.fnOf name qual params body scope dV kV doc pm an cdv ct), osl⟩)
    (hcd : PySem.W.codeIn W.K cdv qual = true) (S : FnScope N ps scope) (len : ∀ vs H Q, sp vs H Q → vs.length = ps.length)
    (hbody : ∀ (A : Around) (outer : List Env) (s : Shared) (H : Hp) (vs : List V) (Q : VK), Room k (A.deeper (envOfC qual scope s.heap.objs.size f cdv)) → A.guards = some [] → sp vs H Q →
      ∃ t, PSs (gx W N qual scope f cdv A outer s H) body t ∧ t { nx := fun _ H' => Q .non H', rt := Q } (L2.start N vs) H) :
    GFn W (k + 1) f (PySem.W.fnOf name qual params body scope dV kV doc pm an cdv ct) ps sp := by
  refine ⟨len, fun A outer s H args us vs Q room hgd e0 binds rv promise => ?_⟩
  have same_len := len _ _ _ promise
  have inK : W.K.In s.heap := e0.mod.kin.keeps fun b o e => (e0.bs b o e).1
  have nolim : s.heap.NoLimit := e0.mod.nolimit.keeps fun b o e => (e0.bs b o e).1
  have kinds : ∀ y ∈ ps.zip us, scope.names.lookup y.1 = some .local ∨
      (scope.names.lookup y.1 = some .cell ∧ ((cellsFrom (s.heap.objs.size + 1) scope.names []).lookup y.1).isSome = true) := by
    rintro ⟨n, v⟩ hy
    rcases S.par n (List.of_mem_zip hy).1 with z | z
    · exact .inl z
    · exact .inr ⟨z, PySem.W.cellsFrom_some _ _ _ (.inl z)⟩
  refine codeAny_call_function room.depth (inK _ _ lk) rfl S.co S.gen rfl (PySem.W.codeRec_of inK hcd) (binds _ _ _ _ ?_)
  refine wpAny_newFunctionEnv_cells S.kind kinds fun env henv s1 entered => ?_
  subst henv
  refine ⟨nolim.keeps entered.toInCall.keep, codeAny_func ?_⟩
  obtain ⟨t, ht, hq⟩ := hbody A outer s H vs Q (room.deeper _) hgd promise
  have J0 : Inv (gx W N qual scope f cdv A outer s H) [] (L2.start N vs) H s1 := inv_xe _ (inv_start S room.hd e0 same_len rv entered)
  refine wpAny_mono (ht.run [] s1 (L2.start N vs) H _ J0 hq) (fun fl s' got => ?_) fun e s' no => no.elim
  have done : ∀ {σ' : L2.St} {H' : Hp} {v : V} {u : Value}, Inv (gx W N qual scope f cdv A outer s H) [] σ' H' s' → RelV v u → Q v H' → CE outer W.P W.w H s Q u s' := by
    intro σ' H' v u J r q
    exact ⟨v, H', J.os, J.bare, J.base, J.hok, r, q⟩
  cases fl with
  | ret u =>
    obtain ⟨v, σ', H', J, r, q⟩ := got
    exact done J r q
  | next =>
    obtain ⟨σ', H', J, q⟩ := got
    exact done (v := V.non) (u := Value.none) J rfl q
  | brk => exact got.elim fun _ h => h.elim fun _ h => False.elim h.2
  | cont => exact got.elim fun _ h => h.elim fun _ h => False.elim h.2

/-- a call of a def -/
theorem pe_gcall {X : Cx} {k : Nat} {f : Addr} {fd : FuncData} {ps : List Str} {sp : GSp} {x : Str} {p pos : Pos} {e : Expr} {es : List Expr} {t : TA}
    (F : GFn (wdOf X) k f fd ps sp) (hr : Room k X.A) (hgd : X.A.guards = some []) (hg : Gl X x) (hm : X.mg x = some (.ref f)) (hk : PySem.W.keepIn X.K (.ref f) = true) (hb : Binds X.K fd ps []) (ha : L2.PA X (e :: es) t)
    (hdb : (x == ("__debug__" : Str)) = false) (he : starEach (e :: es) X.env = (false, eval e X.env) :: starEach es X.env) (hpl : (backTo pos (starEach es X.env)).any (·.1) = false) :
    PE X (.Call (.Name x p) (e :: es) [] pos) (fun σ H Q => t σ H fun vs H1 => sp vs H1 Q) := by
  refine ⟨fun pins s σ H Q I h => ?_⟩
  refine wpAny_Call_Name_kw (ld_glob I hg hm ?_ hdb)
  refine PySem.W.callWith_K (h₀ := X.base) I.ok.mod.kin hk (thn (ha.run pos pins s σ H _ I h) fun us s1 ⟨vs, H1, I1, r, q⟩ => ⟨I1.kIn, ?_⟩) he hpl
  have n1 : (us ++ ([] : List Value)).length = ps.length := by rw [List.append_nil, ← r.length]; exact F.len _ _ _ q
  have b1 := hb s1 us I1.kIn n1
  rw [List.append_nil] at b1
  refine wpAny_call (codeAny_mono (F.run X.A X.stack s1 H1 ⟨us, []⟩ us vs Q hr hgd I1.env0 b1 r q) fun r s' got => ?_)
  match r, got with
  | .ok (.ret u), got => exact I1.after got

/-- the law's call -/
theorem glaw_call {P : Program} {w : World} {K : PySem.W.Frag} {mg mb : Str → Option Value} {k : Nat} {fa a : Addr} {fd : FuncData} {x : Str} {sp : GSp} {s₁ : Shared} {vs : List Value} {ns : List Int}
    (inK : K.In s₁.heap) (glob : s₁.heap.Ns mainGlobals mg) (blts : s₁.heap.Ns builtinsNs mb) (boot : ∀ x : Str, x ≠ "__name__" → mb x = bootBuiltins x) (nolim : s₁.heap.NoLimit) (nogens : s₁.gens = #[])
    (script : s₁.heap.get? a = some { cls := .type "list", data := .seq vs.toArray }) (hnums : IntsAre vs ns) (len1 : ns.length ≤ sizeLine) (room : Room k callerA) (hgd : callerA.guards = some [])
    (F : ∀ base : Heap, K.In base → base.Ns mainGlobals mg → GFn ⟨P, w, K, mg, base⟩ k fa fd [x] sp) (binds : ∀ (s : Shared) (u : Value), BindsTo s fd ⟨[u], []⟩ [(x, u)])
    (hsp : ∀ H : Hp, Only H → SqL K H a (ns.map V.int) → sp [.ref a] H (fun v _ => v = .bl true)) :
    codeAny (model P w) callerA (.call (.ref fa) ⟨[.ref a], []⟩) (fun r s' => r = .ok (.ret (.bool true)) ∧ OldK s₁.heap s'.heap ∧ s'.os = s₁.os ∧ AllBare s'.gens) s₁ := by
  have rv := vals_ints hnums
  have len2 := hnums.length
  have main : ∀ H : Hp, Only H → SqL K H a (ns.map V.int) → HOk P w H s₁.heap → (∀ b, H b ≠ none → b = a) → (H a ≠ none → K.lookup a = none) →
      codeAny (model P w) callerA (.call (.ref fa) ⟨[.ref a], []⟩) (fun r s' => r = .ok (.ret (.bool true)) ∧ OldK s₁.heap s'.heap ∧ s'.os = s₁.os ∧ AllBare s'.gens) s₁ := by
    intro H only hS ok onlyA freeK
    have to : ∀ {b : Addr} {o : Obj}, s₁.heap.get? b = some o → H b = none → (hidT s₁.heap H).get? b = some o := fun e n => hidT_get e n
    have dictFree : ∀ {b : Addr} {o : Obj} {es : Array DictEntry} {ep : Nat}, s₁.heap.get? b = some o → o.data = .dict es ep → H b = none := by
      intro b o es ep e d
      cases q : H b with
      | none => rfl
      | some u =>
        have : b = a := onlyA b (by rw [q]; simp)
        subst this
        rw [script] at e; cases e
        cases (show Data.seq vs.toArray _ = Data.dict es ep from d)
    have toNs : ∀ {b : Addr} {m : Str → Option Value}, s₁.heap.Ns b m → (hidT s₁.heap H).Ns b m := by
      rintro b m ⟨o, es, ep, e, d, r⟩
      exact ⟨o, es, ep, to e (dictFree e d), d, r⟩
    have inB : K.In (hidT s₁.heap H) := by
      intro b o e
      refine to (inK b o e) ?_
      cases q : H b with
      | none => rfl
      | some u =>
        have : b = a := onlyA b (by rw [q]; simp)
        subst this
        rw [freeK (by rw [q]; simp)] at e; cases e
    have modB : Mod K mg (hidT s₁.heap H) := by
      obtain ⟨mc, c1, c2⟩ := nolim
      exact ⟨inB, toNs glob, ⟨mb, toNs blts, boot⟩, ⟨mc, toNs c1, c2⟩⟩
    have env0 : Env0 P w K mg (hidT s₁.heap H) callerA [] s₁ H := by
      refine ⟨rfl, modB, fun b o e => of_hidT e, Nat.le_of_eq (hidT_size _ _), trivial, fun b hb => ?_, ok, .of_eq nogens⟩
      exact absurd (show b ∈ ([] : List Addr) from hb) (by simp)
    refine codeAny_mono ((F _ inB (toNs glob)).run callerA [] s₁ H ⟨[.ref a], []⟩ [.ref a] [.ref a] _ room hgd env0 (binds s₁ (.ref a)) (.cons rfl .nil) (hsp H only hS)) fun r s' got => ?_
    match r, got with
    | .ok (.ret u), got =>
      obtain ⟨v, H', os, bare, un, ok', r', q⟩ := got
      have q' : v = .bl true := q
      subst q'
      obtain rfl : u = Value.bool true := r'
      refine ⟨rfl, OldK.of_keep fun b o e => ?_, os, bare⟩
      cases q : H b with
      | none => exact un.keep b o e q (fun z => absurd (show b ∈ ([] : List Addr) from z) (by simp)) (by simp)
      | some u =>
        rcases only b with z | ⟨ob, xs, z⟩
        · rw [q] at z; cases z
        · obtain ⟨e1, _⟩ := ok b _ z
          obtain ⟨e2, _⟩ := ok' b _ (un.frzs b ob _ z)
          rw [e] at e1; cases e1
          exact e2
  cases hk : K.lookup a with
  | some o =>
    have e := inK a o hk
    rw [script] at e
    cases e
    refine main (fun _ => none) (fun _ => .inl rfl) (.inr ⟨_, vs.toArray, _, hk, rfl, rfl, rfl, ?_, by simpa using rv⟩) (fun b u z => ?_) (fun b z => absurd rfl z) fun z => absurd rfl z
    · rw [List.size_toArray, len2]; exact len1
    · cases (show (none : Option HO) = some u from z)
  | none =>
    let o1 : Obj := { cls := .type "list", data := .seq vs.toArray }
    let H1 : Hp := fun b => if b = a then some (.frz o1 (.lst (ns.map V.int))) else none
    have at1 : H1 a = some (.frz o1 (.lst (ns.map V.int))) := if_pos rfl
    have at2 : ∀ b, b ≠ a → H1 b = none := fun b hb => if_neg hb
    refine main H1 (fun b => ?_) (.inl (.inr ⟨o1, at1⟩)) (fun b u z => ?_) (fun b z => ?_) fun _ => hk
    · by_cases hb : b = a
      · subst hb; exact .inr ⟨_, _, at1⟩
      · exact .inl (at2 b hb)
    · by_cases hb : b = a
      · subst hb
        rw [at1] at z; cases z
        exact ⟨script, by rw [List.length_map]; exact len1, vs, _, rv, script⟩
      · rw [at2 b hb] at z; cases z
    · by_cases hb : b = a
      · exact hb
      · exact absurd (at2 b hb) z
theorem gwalk_of {l : PySem.W.OpenLaw} {n k : Nat} {q : Program} {loose : List Str} {XP : (Str → Option Value) → Heap → Prop} {YP : World → Heap → Prop} {d : DefRec} {K : Params → PySem.W.Frag} {sp : World → GSp} {x : Str}
    (hn : l.most = some n) (hn2 : n ≤ sizeLine) (hdf : d.params.defaults = []) (room : Room k callerA) (hgd : callerA.guards = some [])
    (hY : ∀ (w : World) (h : Heap), YP w h → (K w.params).In h)
    (F : ∀ (w : World) (mg : Str → Option Value) (fa : Addr) (h : Heap), (K w.params).In h → h.Ns mainGlobals mg → mg d.name = some (.ref fa) →
      ∃ fd : FuncData, (∀ (s : Shared) (u : Value), BindsTo s fd ⟨[u], []⟩ [(x, u)]) ∧
        ∀ base : Heap, (K w.params).In base → base.Ns mainGlobals mg → GFn ⟨l.prog, w, K w.params, mg, base⟩ k fa fd [x] (sp w))
    (hsp : ∀ (w : World) (H : Hp) (a : Addr) (ns : List Int), ns.length ≤ n → Only H → SqL (K w.params) H a (ns.map V.int) → sp w [.ref a] H (fun v _ => v = .bl true)) :
    PySem.W.WalkO q loose XP YP l.row.toRowW d [] (fun f vs => PySem.call f vs) := by
  refine Att.attach_call hn hdf fun w s₀ s₁ mg mb fa o pm cd doc a vs ns G Y ho hd hcd hmg hobj hints hlen hg => ?_
  have inK := hY w _ Y
  obtain ⟨fd, hb, hF⟩ := F w mg fa _ inK G.T.g hmg
  exact glaw_call inK G.T.g G.T.b G.T.builtins G.T.nolimit hg hobj hints (Nat.le_trans hlen hn2) room hgd hF hb fun H hO hS => hsp w H a ns hlen hO hS
end Fs

set_option Elab.async false
set_option linter.all false
set_option maxRecDepth 100000
set_option maxHeartbeats 4000000
namespace Fs
open PySem PySem.Spec PyProof.Rows L2
open Sem (wp)
open AutoSeq1 (wpAny_loadPart')

abbrev tit0 (l : Addr) : Obj := { cls := .type "tuple_iterator", data := .fields #[.ref l, .int 0 0] }
abbrev enu0 (it : Addr) : Obj := { cls := .type "enumerate", data := .fields #[.none, .bool false, .ref it, rawInt 0, .none, .none] }
theorem meets_enum_tup (l : Addr) (items : Array Value) (n : Nat) (dct : Option Addr) (sl : Array (Option Value)) :
    Meets (Builtin.«enumerate.__new__» ⟨[.type "enumerate", .ref l], []⟩) (fun _ R s =>
      s.heap.get? l = some { cls := .type "tuple", dict := dct, data := .seq items n, slots := sl } ∧
      R (.ok (.ret (.ref (s.heap.push (tit0 l)).objs.size))) { s with heap := (s.heap.push (tit0 l)).push (enu0 s.heap.objs.size) }) :=
  .of_wp fun prog w A R s both => by
    obtain ⟨hp, g, d, tk, os⟩ := s
    obtain ⟨at0, fin⟩ := both
    have self_sub := sub_enumerate
    have isT : Heap.IsTuple (Shared.heap ⟨hp, g, d, tk, os⟩) l items := ⟨_, at0, rfl, n, rfl⟩
    wp_walk using wpAny_loadPart' at0
    refine wpAny_stack_any fun st => wpAny_pure ?_
    split
    · rename_i c _ _ _ _ _
      cases (c == Value.type "enumerate")
      · wp_walk using wpAny_loadPart' at0, wpAny_pyIter_tuple isT
        exact ⟨_, rfl, fin⟩
      · wp_walk using wpAny_loadPart' at0, wpAny_pyIter_tuple isT
        exact ⟨_, rfl, fin⟩
    · wp_walk using wpAny_loadPart' at0, wpAny_pyIter_tuple isT
      exact ⟨_, rfl, fin⟩
section
variable {prog : Program} {w : World} {A : Around} {E : Value → Shared → Prop} {s : Shared}
theorem call_enum_tup {l : Addr} {items : Array Value} {Q : Value → Shared → Prop} (isT : s.heap.IsTuple l items)
    (fin : ∀ h', IsEnum h' (s.heap.objs.size + 1) s.heap.objs.size 0 .none → h'.IsTupleIter s.heap.objs.size l 0 →
      (∀ b o, s.heap.get? b = some o → h'.get? b = some o) → Q (.ref (s.heap.objs.size + 1)) { s with heap := h' }) :
    wpAny (model prog w) A (call (.type "enumerate") [.ref l]) Q E s := by
  obtain ⟨⟨c, dct, dt, sl⟩, at0, cls0, n, dat0⟩ := isT
  simp only at cls0 dat0
  subst cls0 dat0
  refine callType_new F.called_enumerate (by decide) (F.typeCall_enumerate_1 _) (F.newCall_enumerate_1 _) (fun obj => F.args_object_init_2 obj _)
    F.entry_enumerate_new (meets_enum_tup l items n dct sl) ⟨at0, ?_⟩
  have z1 : (s.heap.push (tit0 l)).objs.size = s.heap.objs.size + 1 := Heap.size_push ..
  show _ ∧ _
  rw [z1]
  have en : IsEnum ((s.heap.push (tit0 l)).push (enu0 s.heap.objs.size)) (s.heap.objs.size + 1) s.heap.objs.size 0 .none := by
    have q := Heap.get?_push_size (s.heap.push (tit0 l)) (o := enu0 s.heap.objs.size) rfl
    rw [z1] at q
    exact q
  exact ⟨⟨_, en, rfl⟩, fin _ en ⟨_, Heap.get?_push_of_some _ (Heap.get?_push_size _ rfl), rfl, rfl⟩ fun b o x => Heap.get?_push_of_some _ (Heap.get?_push_of_some _ x)⟩
theorem enum_tup_end {e it l : Addr} {i : Nat} {items : Array Value} {old : Value} {Q : Option Value → Shared → Prop} (hd0 : A.handled = none) (en : IsEnum s.heap e it i old) (hit : s.heap.IsTupleIter it l i)
    (isT : s.heap.IsTuple l items) (past : items[i]? = none) (fin : ∀ h', Heap.ExtBut it s.heap h' → Q none { s with heap := h' }) : wpAny (model prog w) A (pyNext (.ref e)) Q E s := by
  have ty : s.TypeIs (.ref e) "enumerate" := ⟨_, en, rfl⟩
  have hd1 : A.in1.handled = none := hd0
  unfold pyNext
  refine wpAny_bind (wpAny_attempt (wpAny_callSpecial?_slot (name := Str.ofString "__next__") ty F.slot_enumerate_next ?_))
  refine wpAny_call_entry F.slot_enumerate_next ty F.entry_enumerate_next ?_ (F.args_enumerate_next_1 _)
  show wpAny _ _ (field (.ref e) 2 >>= _) _ _ _
  refine wpAny_bind (wpAny_field en rfl (x := .ref it) rfl ?_)
  refine wpAny_bind (wpAny_nextOf_tuple_end hd1 hit isT past fun h' x eb hx' => ?_)
  obtain ⟨o, ho, hc⟩ := hx'
  exact wpAny_bind (wpAny_isInstance (T := "StopIteration") (b := true) ⟨o, ho, hc⟩ isSubtype_stop (wpAny_pure (fin _ eb)))
end

/-- the tuple at a, each item in a new pair -/
def ItE (K : PySem.W.Frag) (a : Addr) : It :=
  ⟨fun i H => ∃ (xs : List V) (x : V), SqT K H a xs ∧ xs[i]? = some x,
   fun i H v H' => ∃ T x, v = .ref T ∧ H T = none ∧ H' = upd H T (.tup [.int (i : Nat), x]) ∧ ∀ xs, SqT K H a xs → xs[i]? = some x,
   fun i H => ∃ xs : List V, SqT K H a xs ∧ xs.length ≤ i⟩
theorem turn_enumT {P : Program} {w : World} {K : PySem.W.Frag} {elts : List Expr} {kk : Nat} {tpos : Pos} (a e it : Addr) :
    Turn P w K (.Tuple elts kk tpos) (ItE K a) [e, it] e (fun i h => (∃ old, IsEnum h e it ((i : Nat) : Int) old) ∧ h.IsTupleIter it a i ∧ e ≠ it ∧ a ≠ it ∧ a ≠ e) where
  mem := by simp
  obj := fun i h st b hb => by
    obtain ⟨⟨old, en⟩, ⟨o, ho, hc, hd⟩, _⟩ := st
    rcases (show b = e ∨ b = it by simpa using hb) with rfl | rfl
    · exact ⟨_, en, fun v q => nomatch q⟩
    · exact ⟨o, ho, fun v q => by rw [hd] at q; cases q⟩
  keep := fun i h h' st k => by
    obtain ⟨⟨old, en⟩, hi, ne⟩ := st
    exact ⟨⟨old, k e (by simp) _ en⟩, hi.at fun o q => k it (by simp) o q, ne⟩
  item := by
    intro X hP hw hK hc i pins s σ H E I hf st hg
    subst hP hw hK
    obtain ⟨⟨old, en⟩, hit, n1, n2, n3⟩ := st
    obtain ⟨xs, x, hq, hx⟩ := hg
    obtain ⟨its, rv, p, _⟩ := I.tuple hq
    obtain ⟨u, hu, ru⟩ := rv.get hx
    have l1 : e < s.heap.objs.size := Heap.lt_size en
    have l2 : it < s.heap.objs.size := by obtain ⟨_, q, _⟩ := hit; exact Heap.lt_size q
    have hd0 : X.A.in1.handled = none := I.ok.hd hc
    have dr := Draws.tuple (prog := X.prog) (w := X.w) hd0 it a n2 its.toArray
    have ilt : i < its.toArray.size := by
      rw [List.size_toArray]
      exact (List.getElem?_eq_some_iff.mp hu).1
    refine wpAny_pyNext_enum_itemD dr en ⟨hit, show s.heap.IsTuple a its.toArray from p⟩ ilt n1 (by simp only [List.mem_cons, List.not_mem_nil, or_false, not_or]; exact ⟨n1, Ne.symm n3⟩) fun y h' tk hy ho st' hT hsz hk => ?_
    have ey : y = u := by
      have e1 : its[i]? = some y := by simpa using hy
      rw [hu] at e1; exact (Option.some.inj e1).symm
    subst ey
    refine ⟨_, rfl, wpAny_letOwnedTupleGo_enum (s := { s with heap := h', toks := tk + 1 }) ho fun h'' he' sb => ?_⟩
    have at2 : h''.get? s.heap.objs.size = some { cls := .type "tuple", data := .seq #[.int i tk, y] } := (sb.2 _ (Nat.ne_of_gt l1)).trans hT
    have new : ObjOk X.prog X.w (upd H s.heap.objs.size (.tup [.int (i : Nat), x])) h'' s.heap.objs.size (.tup [.int (i : Nat), x]) := by
      refine ⟨by show 2 ≤ sizeLine; decide, [.int i tk, y], .cons ⟨_, rfl⟩ (.cons ru .nil), ⟨_, at2, rfl, _, rfl⟩⟩
    have I1 : Inv X pins σ (upd H s.heap.objs.size (.tup [.int (i : Nat), x])) { s with heap := h'', toks := tk + 1 } := by
      refine I.turnedNew (ch := [e, it]) (fun b ob hb q => ?_) hf (Nat.le_refl _) new
      exact (sb.2 b (fun z => hb (by simp [z]))).trans (hk b ob (fun z => hb (by simp [z])) (fun z => hb (by simp [z])) q)
    refine ⟨.ref s.heap.objs.size, _, I1, rfl, ⟨_, x, rfl, I.hok.fresh (Nat.le_refl _), rfl, fun ys hy => by rw [I.tuple_inj hy hq]; exact hx⟩, ⟨⟨y, ?_⟩, st'.1.at fun o q => (sb.2 it (Ne.symm n1)).trans q, n1, n2, n3⟩, fun b hb => ?_⟩
    · have e1 : ((i + 1 : Nat) : Int) = (i : Int) + 1 := by omega
      rw [e1]; exact he'
    · have below : b < s.heap.objs.size := by
        rcases (show b = e ∨ b = it by simpa using hb) with z | z <;> (rw [z]; assumption)
      rw [upd_ne (Nat.ne_of_lt below)]
      exact (hf b hb).1
  done := by
    intro X hP hw hK hc i pins s σ H E I hf st hg
    subst hP hw hK
    obtain ⟨⟨old, en⟩, hit, n1, n2, n3⟩ := st
    obtain ⟨xs, hq, hx⟩ := hg
    obtain ⟨its, rv, p, _⟩ := I.tuple hq
    obtain ⟨f0, f1, f2, f3, f4, f5⟩ := hf it (by simp)
    have hl := rv.length
    have hd0 : X.A.handled = none := I.ok.hd hc
    refine enum_tup_end hd0 en hit (show s.heap.IsTuple a its.toArray from p) (by simp; omega) fun h' eb => ?_
    exact ⟨rfl, I.turned (t' := s.toks) (fun b o hb q => eb b o hb q) f0 f1 f3 f4 f5⟩
  self := fun A i s Q E st h => let ⟨⟨_, en⟩, _⟩ := st; wpAny_pyIter_enum en h
def iEnA (K : PySem.W.Frag) (ta : TA) : TI := fun σ H R => ta σ H fun vs H1 => ∃ a xs, vs = [.ref a] ∧ ((SqL K H1 a xs ∧ R (Ite K a) H1) ∨ (SqT K H1 a xs ∧ R (ItE K a) H1))
theorem pi_enA {X : Cx} {e : Expr} {ta : TA} {p pos tpos : Pos} {elts : List Expr} {kk : Nat} (hg : Gl X "enumerate") (hm : X.mg "enumerate" = none) (ha : L2.PA X [e] ta)
    (hs : starEach [e] X.env = (false, eval e X.env) :: starEach [] X.env) : PI X (.Tuple elts kk tpos) (.Call (.Name "enumerate" p) [e] [] pos) (iEnA X.K ta) := by
  refine ⟨fun pins s σ H R I h => ?_⟩
  refine Call_ (ld_blt I hg hm boot_enumerate (PyProof.Rows.callWith_type1 (thn (ha.run pos pins s σ H _ I h) fun us s1 ⟨vs, H1, I1, r1, q1⟩ => ?_) hs rfl))
  obtain ⟨a, xs, ex, q1⟩ := q1
  subst ex
  obtain rfl : us = [.ref a] := r1.ref1
  have fresh2 : ∀ b, b ∈ [s1.heap.objs.size + 1, s1.heap.objs.size] → FpOk X pins H1 b := fun b hb => by
    have le : s1.heap.objs.size ≤ b := by
      rcases (show b = s1.heap.objs.size + 1 ∨ b = s1.heap.objs.size by simpa using hb) with z | z <;> omega
    exact I1.fpOk le (I1.hok.fresh le)
  rcases q1 with ⟨hq, q⟩ | ⟨hq, q⟩
  · obtain ⟨its, rv, p', _⟩ := I1.list hq
    refine call_enumerate_list p'.isList fun h' en hit _ hk => wpAny_pyIter_enum en ?_
    have I2 : Inv X pins σ H1 { s1 with heap := h' } := I1.kept (t' := s1.toks) hk
    exact ⟨s1.heap.objs.size + 1, [s1.heap.objs.size + 1, s1.heap.objs.size], _, _, H1, rfl, I2, turn_enum a _ _, ⟨⟨.none, en⟩, hit, Nat.succ_ne_self _⟩, fresh2, q⟩
  · obtain ⟨its, rv, p', _⟩ := I1.tuple hq
    have la : a < s1.heap.objs.size := by obtain ⟨o, z, _⟩ := id p'; exact Heap.lt_size z
    refine call_enum_tup (show s1.heap.IsTuple a its.toArray from p') fun h' en hit hk => wpAny_pyIter_enum en ?_
    have I2 : Inv X pins σ H1 { s1 with heap := h' } := I1.kept (t' := s1.toks) hk
    exact ⟨s1.heap.objs.size + 1, [s1.heap.objs.size + 1, s1.heap.objs.size], _, _, H1, rfl, I2, turn_enumT a _ _, ⟨⟨.none, en⟩, hit, Nat.succ_ne_self _, Nat.ne_of_lt la, Nat.ne_of_lt (Nat.lt_succ_of_lt la)⟩, fresh2, q⟩
theorem walk_enumT {K : PySem.W.Frag} {a : Addr} {xs : List V} : Walk (ItE K a) xs.length (fun H => SqT K H a xs) (YPair (fun i => some (.int (i : Nat))) (fun i => xs[i]?)) := by
  refine ⟨fun i _ hi q => ⟨xs, xs[i], q, by simp [hi]⟩, fun _ q => ⟨xs, q, Nat.le_refl _⟩, fun i H v H' _ q y => ?_⟩
  obtain ⟨T, x, h1, h2, h3, h4⟩ := y
  exact ⟨T, .int (i : Nat), x, h1, h2, h3, rfl, h4 xs q⟩
theorem walk_zipT {K : PySem.W.Frag} {a b : Addr} {xs ys : List V} {n : Nat} (hn : n = min xs.length ys.length) : Walk (RZ.ItzT K a b) n (fun H => SqT K H a xs ∧ SqT K H b ys) (YPair (fun i => xs[i]?) (fun i => ys[i]?)) := by
  subst hn
  refine ⟨fun i _ hi q => ?_, fun _ q => ⟨xs, ys, q.1, q.2, by omega⟩, fun i H v H' _ q y => ?_⟩
  · have h1 : i < xs.length := by omega
    have h2 : i < ys.length := by omega
    exact ⟨xs, ys, xs[i], ys[i], q.1, q.2, by simp [h1], by simp [h2]⟩
  · obtain ⟨T, x, z, h1, h2, h3, h4, h5⟩ := y
    exact ⟨T, x, z, h1, h2, h3, h4 xs q.1, h5 ys q.2⟩
end Fs

set_option Elab.async false
set_option linter.all false
set_option maxRecDepth 100000
set_option maxHeartbeats 4000000
namespace Fs
open PySem L2

section
variable {pa : PA} {H0 G0 G G1 G2 H H1 H2 : Hp} {σ : L2.St} {s s1 s2 : S} {v w : V} {d : D} {t : Tg}

theorem Ext.back (e : Ext pa G G1 H H1 σ s s1) {a : Addr} (h : H1 a = none) (S1 : Sim pa H0 G0 G1 σ H1 s1) : H a = none := by
  cases z : H a with
  | none => rfl
  | some o =>
    have np : ¬ pen1 pa a := (S1.none0 h).2.2.1
    rw [e.hk a o z np] at h; cases h
/-- a fresh list is no other value -/
theorem RT.apart (S1 : Sim pa H0 G0 G σ H s) {a : Addr} (g : G a = none) (n : ¬ pen1 pa a) (o : ¬ OwnAt σ s a) (r : RT pa H0 G σ H s v d t) (e : v = .ref a) : t = .fresh := by
  subst e
  cases t with
  | fresh => rfl
  | fz =>
    exfalso
    cases (show Rp pa G _ d from r) with
    | lst h _ => rw [g] at h; cases h
    | tup h _ => exact h.there g
    | pen h => exact n ⟨_, h⟩
    | exc h => rw [g] at h; cases h
  | slot i =>
    exfalso
    obtain ⟨f, h1, h2⟩ := r
    cases f with
    | true => exact o ⟨i, d, h1, h2⟩
    | false =>
      obtain ⟨w, h3, r⟩ := S1.fz i d h1
      rw [h2] at h3; cases h3
      cases r with
      | lst h _ => rw [g] at h; cases h
      | tup h _ => exact h.there g
      | pen h => exact n ⟨_, h⟩
      | exc h => rw [g] at h; cases h

/-- several values -/
def RTs (pa : PA) (H0 G : Hp) (σ : L2.St) (H : Hp) (s : S) (Hs : Hp) : List V → List (D × Tg) → Prop
  | [], [] => True
  | v :: vs, x :: xs => RT pa H0 G σ H s v x.1 x.2 ∧ NewT Hs v x.2 ∧ (x.2 = .fresh → ∀ p ∈ vs.zip xs, p.2.2 = .fresh → p.1 ≠ v) ∧ RTs pa H0 G σ H s Hs vs xs
  | _, _ => False
theorem RTs.len : ∀ {vs : List V} {xs : List (D × Tg)} {Hs : Hp}, RTs pa H0 G σ H s Hs vs xs → vs.length = xs.length
  | [], [], _, _ => rfl
  | _ :: _, _ :: _, _, h => by simp [RTs.len h.2.2.2]
  | [], _ :: _, _, h => h.elim
  | _ :: _, [], _, h => h.elim
theorem RTs.weak {Hs Hs' : Hp} (k : ∀ a, Hs' a = none → Hs a = none) : ∀ {vs : List V} {xs : List (D × Tg)}, RTs pa H0 G σ H s Hs' vs xs → RTs pa H0 G σ H s Hs vs xs
  | [], [], _ => trivial
  | _ :: _, _ :: _, h => ⟨h.1, fun z a e => k a (h.2.1 z a e), h.2.2.1, RTs.weak k h.2.2.2⟩
  | [], _ :: _, h => h.elim
  | _ :: _, [], h => h.elim
theorem RTs.tops (S1 : Sim pa H0 G0 G σ H s) : ∀ {vs : List V} {xs : List (D × Tg)} {Hs : Hp}, RTs pa H0 G σ H s Hs vs xs → RpTs pa G H vs (xs.map (·.1))
  | [], [], _, _ => trivial
  | _ :: _, _ :: _, _, h => ⟨h.1.top S1, RTs.tops S1 h.2.2.2⟩
  | [], _ :: _, _, h => h.elim
  | _ :: _, [], _, h => h.elim
theorem RTs.new : ∀ {vs : List V} {xs : List (D × Tg)} {Hs : Hp}, RTs pa H0 G σ H s Hs vs xs → ∀ p ∈ vs.zip xs, NewT Hs p.1 p.2.2 ∧ RT pa H0 G σ H s p.1 p.2.1 p.2.2
  | [], [], _, _, p, hp => by simp at hp
  | v :: vs, x :: xs, _, h, p, hp => by
    rcases List.mem_cons.mp hp with rfl | hp
    · exact ⟨h.2.1, h.1⟩
    · exact RTs.new h.2.2.2 p hp
  | [], _ :: _, _, h, _, _ => h.elim
  | _ :: _, [], _, h, _, _ => h.elim
theorem keep_ext (t : Tg) : Ext pa G G H H σ s (s.keep t) := by
  cases t with
  | fz => exact .refl
  | fresh => exact .refl
  | slot i => exact freeze_ext i (fun _ _ h => .inl h) .refl
theorem keep_pn (t : Tg) : (s.keep t).pn = s.pn := by cases t <;> rfl
theorem keeps_pn : ∀ (ts : List Tg) (s : S), (s.keeps ts).pn = s.pn
  | [], _ => rfl
  | t :: ts, s => (keeps_pn ts _).trans (keep_pn t)
/-- another value, behind the keeping of one -/
theorem RT.other {G' : Hp} {t' : Tg} (S1 : Sim pa H0 G0 G σ H s) (k : Sub G G') (nk : ∀ b o, G' b = some o → G b = some o ∨ v = .ref b) (rv : RT pa H0 G σ H s v d t) {w : V} {e : D}
    (ap : t = .fresh → t' = .fresh → w ≠ v) (r : RT pa H0 G σ H s w e t') : RT pa H0 G' σ H (s.keep t) w e t' := by
  have E : Ext pa G G H H σ s (s.keep t) := keep_ext t
  cases t' with
  | fz => exact Rp.mono k r
  | fresh =>
    obtain ⟨a, xs, ds, rfl, rfl, h, r, g, h0, n, o⟩ := r
    refine ⟨a, xs, ds, rfl, rfl, h, r.mono k, ?_, h0, n, fun z => o (E.own z)⟩
    cases q : G' a with
    | none => rfl
    | some u =>
      rcases nk a u q with z | z
      · rw [g] at z; cases z
      · have tf := rv.apart S1 g n o z
        exact (ap tf rfl z.symm).elim
  | slot i =>
    obtain ⟨f, h1, h2⟩ := r
    obtain ⟨f', h3, _⟩ := E.sl i e f h1
    exact ⟨f', h3, h2⟩
theorem RTs.other {G' : Hp} {Hs : Hp} (S1 : Sim pa H0 G0 G σ H s) (k : Sub G G') (nk : ∀ b o, G' b = some o → G b = some o ∨ v = .ref b) (rv : RT pa H0 G σ H s v d t) :
    ∀ {vs : List V} {xs : List (D × Tg)}, (t = .fresh → ∀ p ∈ vs.zip xs, p.2.2 = .fresh → p.1 ≠ v) → RTs pa H0 G σ H s Hs vs xs → RTs pa H0 G' σ H (s.keep t) Hs vs xs
  | [], [], _, _ => trivial
  | w :: vs, x :: xs, ap, h =>
    ⟨RT.other S1 k nk rv (fun z1 z2 => ap z1 (w, x) (by simp) z2) h.1, h.2.1, h.2.2.1, RTs.other S1 k nk rv (fun z p hp => ap z p (List.mem_cons_of_mem _ hp)) h.2.2.2⟩
  | [], _ :: _, _, h => h.elim
  | _ :: _, [], _, h => h.elim
/-- all values are kept for good -/
theorem RTs.keep {Hs Gs : Hp} {ss : S} : ∀ {vs : List V} {xs : List (D × Tg)} {G : Hp} {s : S}, Sim pa H0 G0 G σ H s → Ext pa Gs G Hs H σ ss s → RTs pa H0 G σ H s Hs vs xs →
    ∃ G', Sim pa H0 G0 G' σ H (s.keeps (xs.map (·.2))) ∧ Ext pa Gs G' Hs H σ ss (s.keeps (xs.map (·.2))) ∧ Sub G G' ∧ Rps pa G' vs (xs.map (·.1))
  | [], [], G, s, S1, E, _ => ⟨G, S1, E, .refl, .nil⟩
  | v :: vs, x :: xs, G, s, S1, E, h => by
    obtain ⟨r, nw, ap, rs⟩ := h
    obtain ⟨G1, S2, E2, k1, nk, rp⟩ := r.keep S1 E nw
    obtain ⟨G2, S3, E3, k2, rps⟩ := RTs.keep S2 E2 (rs.other S1 k1 nk r ap)
    exact ⟨G2, S3, E3, k1.trans k2, .cons (rp.mono k2) rps⟩
  | [], _ :: _, _, _, _, _, h => h.elim
  | _ :: _, [], _, _, _, _, h => h.elim

/-- behind a call -/
theorem Sim.call {p : Option Pn} (S1 : Sim pa H0 G0 G σ H s) (kept : ∀ a o, H a = some o → ¬ pen1 pa a → H2 a = some o) (k : Sub G G2) (u : Sub G2 H2) (nw : ∀ a o, G2 a = some o → G a = some o ∨ H a = none) (hp : PenAt pa G2 H2 p) :
    Sim pa H0 G0 G2 σ H2 { s with pn := p } ∧ Ext pa G G2 H H2 σ s { s with pn := p } := by
  refine ⟨⟨S1.len, u, S1.base.trans k, fun a o h => ?_, fun a o h n => kept a o (S1.kee a o h n) n, hp, fun i d h => ?_, fun i d h => ?_, S1.dis⟩, ⟨kept, k, fun a o h => ?_, rfl, fun _ h => h, fun _ _ f h => ⟨f, h, fun z => z⟩⟩⟩
  · rcases nw a o h with z | z
    · exact S1.new a o z
    · exact .inr (S1.none0 z).1
  · obtain ⟨v, e1, e2⟩ := S1.fz i d h
    exact ⟨v, e1, e2.mono k⟩
  · obtain ⟨a, xs, ds, e1, e2, e3, e4, e5, e6, e7⟩ := S1.ow i d h
    refine ⟨a, xs, ds, e1, e2, kept _ _ e3 e7, e4.mono k, ?_, e6, e7⟩
    cases q : G2 a with
    | none => rfl
    | some o =>
      rcases nw a o q with z | z
      · rw [e5] at z; cases z
      · rw [e3] at z; cases z
  · rcases nw a o h with z | z
    · exact .inl z
    · exact .inr (.inl z)
theorem PenAt.back {p q : Option Pn} (h2 : PenAt pa G2 H2 q) (h1 : PenAt pa G1 H1 p) (k : Sub G1 G2) : PenAt pa G1 H2 q := by
  cases pa with
  | none => cases q with
    | none => trivial
    | some q => exact h2.elim
  | some x =>
    obtain ⟨a, c⟩ := x
    cases q with
    | none => exact h2.elim
    | some q =>
      cases p with
      | none => exact h1.elim
      | some p =>
        refine ⟨h2.1, h2.2.1, ?_, h1.2.2.2⟩
        have e1 := h1.2.2.1
        have e2 := k _ _ e1
        rw [h2.2.2.1] at e2
        rw [e1, e2]
theorem Rp.scal_mono (z : scal d = true) (r : Rp pa G v d) : Rp pa G1 v d := by
  cases r with
  | non => exact .non
  | bl b => exact .bl b
  | int i => exact .int i
  | str x => exact .str x
  | lst h r => cases z
  | tup h r => cases z
  | pen h => cases z
  | exc h => cases z
theorem Sub.keptPen (S1 : Sim pa H0 G0 G σ H s) (kept : ∀ a o, H a = some o → ¬ pen1 pa a → H2 a = some o) : Sub G H2 := fun a o h => by
  refine kept a o (S1.sub a o h) fun n => ?_
  rw [S1.pen.free n] at h; cases h
end

/-- a def does what F says -/
def spF (F : Fn) (n : Nat) : GSp := fun vs H Q => ∃ pa G ds p d fr p1, ds.length = n ∧ Sub G H ∧ PenAt pa G H p ∧ Rps pa G vs ds ∧ F ds p = some ((d, fr), p1) ∧
  ∀ v H1 G1, (∀ a o, H a = some o → ¬ pen1 pa a → H1 a = some o) → Sub G G1 → Sub G1 H1 → (∀ a o, G1 a = some o → G a = some o ∨ H a = none) → PenAt pa G1 H1 p1 →
    (if fr = true then ∃ a xs es, v = .ref a ∧ d = .list es ∧ H a = none ∧ H1 a = some (.lst xs) ∧ Rps pa G1 xs es ∧ G1 a = none else Rp pa G1 v d) → Q v H1
/-- the drawing of an item -/
def spOne : GSp := fun vs H Q => ∃ pa G v w x y p d p1, vs = [v, w] ∧ Sub G H ∧ PenAt pa G H p ∧ RpT pa G H v x ∧ RpT pa G H w y ∧ (∀ b, w = .ref b → ¬ pen1 pa b) ∧ oneF x y p = some (d, p1) ∧
  ∀ u H1, (∀ a o, H a = some o → ¬ pen1 pa a → H1 a = some o) → PenAt pa G H1 p1 → Rp pa G u d → Q u H1
structure Call1 (W : Wd) (k : Nat) (x : Str) (n : Nat) (sp : GSp) : Prop where
  of : ∃ f fd ps, GFn W k f fd ps sp ∧ W.mg x = some (.ref f) ∧ PySem.W.keepIn W.K (.ref f) = true ∧ L2.Binds W.K fd ps []
/-- a table of the module -/
def TabR (P : Params) : List DictEntry → List (Str × Int) → Prop
  | [], [] => True
  | e :: r, (k, v) :: l => (∃ t, e.key = .str k t) ∧ e.hash = PyData.keyHash P k ∧ (∃ t, e.val = .int v t) ∧ TabR P r l
  | _, _ => False
theorem TabR.lit {P : Params} : ∀ {es : List DictEntry} {tb : List (Str × Int)}, TabR P es tb → PySem.W.KeysLit P es
  | [], _, _ => trivial
  | _ :: _, (_, _) :: _, ⟨⟨t, h⟩, hh, _, r⟩ => ⟨⟨_, t, h, hh⟩, r.lit⟩
theorem TabR.ref {P : Params} : ∀ {es : List DictEntry} {tb : List (Str × Int)}, TabR P es tb → es.any (·.refKey) = false
  | [], _, _ => rfl
  | e :: _, (_, _) :: _, ⟨⟨t, h⟩, _, _, r⟩ => by
    rw [List.any_cons, r.ref]
    unfold DictEntry.refKey
    rw [h]; rfl
/-- what stands at a key -/
def TabV (r : Option Value) (v : Option Int) : Prop := match r, v with
  | none, none => True
  | some u, some n => ∃ t, u = .int n t
  | _, _ => False
theorem TabR.find {P : Params} (z : Str) : ∀ {es : List DictEntry} {tb : List (Str × Int)}, TabR P es tb → TabV ((es.find? (·.key.isStr z)).map (·.val)) (tbl tb z)
  | [], [], _ => trivial
  | e :: r, (k, v) :: l, ⟨⟨t, h⟩, _, ⟨t2, h2⟩, hr⟩ => by
    rw [List.find?_cons, tbl]
    have e1 : e.key.isStr z = (k == z) := by rw [h]; rfl
    rw [e1]
    by_cases q : k = z
    · rw [if_pos q, beq_iff_eq.mpr q]
      exact ⟨t2, h2⟩
    · rw [if_neg q]
      have q2 : (k == z) = false := by
        cases y : k == z with
        | false => rfl
        | true => exact absurd (beq_iff_eq.mp y) q
      rw [q2]
      exact hr.find z
structure TabAt (W : Wd) (x : Str) (tb : List (Str × Int)) : Prop where
  of : ∃ d es n, W.mg x = some (.ref d) ∧ L2.KDict W.K W.w d es n ∧ TabR W.w.params es.toList tb
theorem TabR.ns {K : PySem.W.Frag} {w : World} {d : Addr} {es : Array DictEntry} {n : Nat} {tb : List (Str × Int)} (D : L2.KDict K w d es n) (h : TabR w.params es.toList tb) (z : Str) :
    ∃ r, PySem.W.nsIn K d z = some r ∧ TabV r (tbl tb z) := by
  have f := h.find z
  unfold PySem.W.nsIn
  rw [D.at_]
  dsimp only
  cases q : es.toList.find? (·.key.isStr z) with
  | some e => rw [q] at f; exact ⟨_, rfl, f⟩
  | none =>
    rw [q] at f
    rw [h.ref]
    exact ⟨none, rfl, f⟩
def askOf (W : Wd) (k : Nat) : Ask where
  glob x d := ∃ v u, W.mg x = some u ∧ RelV v u ∧ Rp none (fun _ => none) v d
  call x F n := Call1 W k x n (spF F n)
  one x := Call1 W k x 2 spOne
  isx x adr names sub := ∃ v cv, (W.mg x = some cv ∨ (W.mg x = none ∧ bootBuiltins x = some cv ∧ x ≠ "__name__")) ∧ RelV v cv ∧ (∀ u, RelV v u → u = cv) ∧
    ∀ c, c ∈ names → L2.ExcC W.K (adr c) ∧ PySem.W.kitOne W.K (.ref (adr c)) cv = some (sub c)
  tab x tb := TabAt W x tb

def bnames : List Str := ["len", "all", "any", "sum", "max", "min", "tuple", "list", "repr", "int", "sorted", "set", "range", "enumerate", "zip", "isinstance", "bool", "str"]
/-- the context of a text -/
structure Cd (X : Cx) (N : List Str) (sc : Scope) (k : Nat) : Prop where
  hN : X.N = N
  nd : N.Nodup
  hs : X.env.scope = sc
  calm : X.calm = true
  room : Room k X.A
  gd : X.A.guards = some []
  bl : ∀ x, x ∈ bnames → X.mg x = none
theorem Cd.un {X : Cx} {N : List Str} {sc : Scope} {k : Nat} (C : Cd X N sc k) : X.A.units + 65 < cLine := by have := C.room.un; omega

abbrev Ev := S → Option ((D × Tg) × S)
def tV (f : Ev) : TE := fun σ H Q => ∃ pa H0 G0 G s d t s1, Sim pa H0 G0 G σ H s ∧ f s = some ((d, t), s1) ∧
  ∀ v H1 G1, Sim pa H0 G0 G1 σ H1 s1 → Ext pa G G1 H H1 σ s s1 → RT pa H0 G1 σ H1 s1 v d t → NewT H v t → Q v H1
abbrev tI (e : IE) : TE := tV (evalE e)
def tQ (f : S → Option (Bool × S)) : TT := fun σ H Q => ∃ pa H0 G0 G s b s1, Sim pa H0 G0 G σ H s ∧ f s = some (b, s1) ∧ ∀ H1 G1, Sim pa H0 G0 G1 σ H1 s1 → Ext pa G G1 H H1 σ s s1 → Q b H1
def tAs (es : IEs) : TA := fun σ H Q => ∃ pa H0 G0 G s xs s1, Sim pa H0 G0 G σ H s ∧ evalEs es s = some (xs, s1) ∧
  ∀ vs H1 G1, Sim pa H0 G0 G1 σ H1 s1 → Ext pa G G1 H H1 σ s s1 → RTs pa H0 G1 σ H1 s1 H vs xs → Q vs H1
def tOo (o : IO) : TO := fun σ H Q => ∃ pa H0 G0 G s r s1, Sim pa H0 G0 G σ H s ∧ evalO o s = some (r, s1) ∧ ∃ i, optI r = some i ∧ ∀ H1 G1, Sim pa H0 G0 G1 σ H1 s1 → Ext pa G G1 H H1 σ s s1 → Q i H1
theorem PT.imp {X : Cx} {e : Expr} {t t' : TT} (h : PT X e t) (k : ∀ σ H Q, t' σ H Q → t σ H Q) : PT X e t' := ⟨fun pins s σ H Q I q => h.run pins s σ H Q I (k σ H Q q)⟩
theorem PW.imp {X : Cx} {e : Expr} {t t' : TT} (h : PW X e t) (k : ∀ σ H Q, t' σ H Q → t σ H Q) : PW X e t' := ⟨fun wh pins s σ H Q I q => h.run wh pins s σ H Q I (k σ H Q q)⟩
theorem PA.imp {X : Cx} {es : List Expr} {t t' : TA} (h : L2.PA X es t) (k : ∀ σ H Q, t' σ H Q → t σ H Q) : L2.PA X es t' := ⟨fun pos pins s σ H Q I q => h.run pos pins s σ H Q I (k σ H Q q)⟩
theorem PO.imp {X : Cx} {e : Option Expr} {t t' : TO} (h : PO X e t) (k : ∀ σ H Q, t' σ H Q → t σ H Q) : PO X e t' := ⟨fun pins s σ H Q I q => h.run pins s σ H Q I (k σ H Q q)⟩
theorem tQ_tB {f : Ev} {σ : L2.St} {H : Hp} {Q : Bool → Hp → Prop} (h : tQ (fun s => boolD (f s)) σ H Q) : tB (tV f) σ H Q := by
  obtain ⟨pa, H0, G0, G, s, b, s1, S1, e, k⟩ := h
  unfold boolD at e
  obtain ⟨⟨⟨d, t⟩, s2⟩, e1, e2⟩ := Option.bind_eq_some_iff.mp e
  dsimp only at e2
  split at e2
  · rename_i c
    cases e2
    refine ⟨pa, H0, G0, G, s, _, t, _, S1, e1, fun v H1 G1 S2 E2 R2 _ => ⟨b, (R2.top S2).bl, k H1 G1 S2 E2⟩⟩
  · cases e2
end Fs

set_option Elab.async false
set_option linter.all false
set_option maxRecDepth 100000
set_option maxHeartbeats 4000000
namespace Fs
open PySem L2

theorem obind {α β : Type} {o : Option α} {f : α → Option β} {b : β} (h : (o >>= f) = some b) : ∃ a, o = some a ∧ f a = some b := Option.bind_eq_some_iff.mp h

def plX : Expr → Bool
  | .Starred _ _ => false
  | .Slice _ _ _ _ => false
  | .Set _ _ _ => false
  | _ => true
def tsX : Expr → Bool
  | .UnaryOp .Not _ _ => false
  | .BoolOp _ _ _ => false
  | .IfExp _ _ _ _ => false
  | .Compare _ _ _ _ => false
  | _ => true
theorem em_pl (N : List Str) (e : IE) (E : Em) : plX (emE N e E).1 = true := by
  cases e <;> first | rfl | (rename_i f _; cases f <;> rfl) | (rename_i m _ _ _; cases m <;> rfl)
theorem star_pl {e : Expr} {es : List Expr} {env : Env} (h : plX e = true) : starEach (e :: es) env = (false, eval e env) :: starEach es env := by
  cases e <;> first | rfl | cases h
theorem ix_pl {e : Expr} (h : plX e = true) : PlainIx e := by
  cases e <;> first | (intro o i; rfl) | cases h
theorem mark_pl {e : Expr} {op : CmpOp} (h : plX e = true) : behindInMarks op e = false := by
  cases e <;> first | rfl | cases h
theorem fold_pl {e : Expr} {env : Env} (h : plX e = true) : ∀ x, foldedSetIterable e env x = pure x := by
  cases e <;> first | (intro x; rfl) | cases h
theorem true_pl {e : Expr} {env : Env} (h : tsX e = true) : ∀ whole, isTrue e env whole = (do let v ← whole; standAt e.pos; holding [v] (truthy v)) := by
  intro whole
  cases e with
  | UnaryOp op x p => cases op <;> first | rfl | cases h
  | _ => first | rfl | cases h
theorem stars (N : List Str) (env : Env) (pos : Pos) : ∀ (es : IEs) (E : Em), (backTo pos (starEach (emEs N es E).1 env)).any (·.1) = false
  | .nil, _ => rfl
  | .cons e es, E => by
    show (backTo pos (starEach ((emE N e E).1 :: (emEs N es (emE N e E).2).1) env)).any (·.1) = false
    rw [star_pl (em_pl N e E)]
    exact stars N env pos es (emE N e E).2
theorem em_len (N : List Str) : ∀ (es : IEs) (E : Em), (emEs N es E).1.length = es.len
  | .nil, _ => rfl
  | .cons e es, E => by
    show ((emE N e E).1 :: (emEs N es (emE N e E).2).1).length = es.len + 1
    rw [List.length_cons, em_len N es]
theorem ev_len : ∀ (es : IEs) {s s1 : S} {xs : List (D × Tg)}, evalEs es s = some (xs, s1) → xs.length = es.len
  | .nil, s, s1, xs, h => by
    rw [evalEs] at h; cases h; rfl
  | .cons e es, s, s1, xs, h => by
    rw [evalEs] at h
    obtain ⟨⟨x, s2⟩, e1, h⟩ := obind h
    obtain ⟨⟨ys, s3⟩, e2, h⟩ := obind h
    cases h
    rw [List.length_cons, ev_len es e2]; rfl

theorem vis_of {N : List Str} {sc : Scope} {i : Nat} (h : visB N sc i = true) : N[i]? = some (nm N i) ∧ Vis sc (nm N i) ∧ (nm N i == ("__debug__" : Str)) = false ∧ (nm N i == ("__classdict__" : Str)) = false := by
  unfold visB at h
  split at h
  · rename_i x hx
    have e : nm N i = x := by unfold nm; rw [List.getD_eq_getElem?_getD, hx]; rfl
    rw [e]
    simp only [Bool.and_eq_true, Bool.not_eq_true'] at h
    refine ⟨hx, ?_, h.1.2, h.2⟩
    have h1 := h.1.1
    split at h1
    · exact .inl (by assumption)
    · exact .inr (.inl (by assumption))
    · exact .inr (.inr (by assumption))
    · cases h1
  · cases h
theorem loc_of {N : List Str} {sc : Scope} {i : Nat} (h : locB N sc i = true) : N[i]? = some (nm N i) ∧ Loc sc (nm N i) := by
  unfold locB at h
  split at h
  · rename_i x hx
    have e : nm N i = x := by unfold nm; rw [List.getD_eq_getElem?_getD, hx]; rfl
    rw [e]
    refine ⟨hx, ?_⟩
    split at h
    · exact .inl (by assumption)
    · exact .inr (by assumption)
    · cases h
  · cases h
theorem gl_of {X : Cx} {N : List Str} {sc : Scope} {k : Nat} {x : Str} (C : Cd X N sc k) (h : glB sc x = true) : Gl X x ∧ (x == ("__debug__" : Str)) = false := by
  unfold glB at h
  simp only [Bool.and_eq_true, Bool.not_eq_true'] at h
  refine ⟨?_, h.2⟩
  show X.env.scope.names.lookup x = _
  rw [C.hs]
  have h1 := h.1
  split at h1
  · assumption
  · cases h1

section
variable {pa : PA} {H0 G0 G G1 G2 H H1 H2 : Hp} {σ : L2.St} {s s1 s2 : S} {d d1 d2 : D} {t t1 t2 : Tg}
theorem two {f g : Ev} (S0 : Sim pa H0 G0 G σ H s) (e1 : f s = some ((d1, t1), s1)) (e2 : g s1 = some ((d2, t2), s2)) {R : V → V → Hp → Prop}
    (k : ∀ v w H2 G2, Sim pa H0 G0 G2 σ H2 s2 → Ext pa G G2 H H2 σ s s2 → RT pa H0 G2 σ H2 s2 v d1 t1 → NewT H v t1 → RT pa H0 G2 σ H2 s2 w d2 t2 → NewT H w t2 → R v w H2) : tV f σ H fun x H1 => tV g σ H1 fun y H2 => R x y H2 :=
  ⟨pa, H0, G0, G, s, d1, t1, s1, S0, e1, fun v H1 G1 S1 E1 R1 N1 => ⟨pa, H0, G0, G1, s1, d2, t2, s2, S1, e2, fun w H2 G2 S2 E2 R2 N2 =>
    k v w H2 G2 S2 (E1.trans S2 E2) (R1.ext S2 E2) N1 R2 fun z a e => E1.back (N2 z a e) S1⟩⟩
theorem fin {fr : Bool} {Q : VK} (S2 : Sim pa H0 G0 G2 σ H2 s2) (E2 : Ext pa G G2 H H2 σ s s2)
    (k : ∀ v H1 G1, Sim pa H0 G0 G1 σ H1 s2 → Ext pa G G1 H H1 σ s s2 → RT pa H0 G1 σ H1 s2 v d (if fr then .fresh else .fz) → NewT H v (if fr then .fresh else .fz) → Q v H1) : ∀ v H3, Res pa G2 H2 v d fr H3 → Q v H3 := fun v H3 r => by
  obtain ⟨G3, S3, E3, R3, N3⟩ := S2.res r
  exact k v H3 G3 S3 (E2.trans S3 E3) R3 fun z a e => E2.back (N3 z a e) S2
theorem tQ_of {f : S → Option (Bool × S)} {b : Bool} {Q : Bool → Hp → Prop} (S0 : Sim pa H0 G0 G σ H s) (e : f s = some (b, s1)) (k : ∀ H1 G1, Sim pa H0 G0 G1 σ H1 s1 → Ext pa G G1 H H1 σ s s1 → Q b H1) : tQ f σ H Q :=
  ⟨pa, H0, G0, G, s, b, s1, S0, e, k⟩
theorem tV_of {f : Ev} {Q : VK} (S0 : Sim pa H0 G0 G σ H s) (e : f s = some ((d, t), s1)) (k : ∀ v H1 G1, Sim pa H0 G0 G1 σ H1 s1 → Ext pa G G1 H H1 σ s s1 → RT pa H0 G1 σ H1 s1 v d t → NewT H v t → Q v H1) : tV f σ H Q :=
  ⟨pa, H0, G0, G, s, d, t, s1, S0, e, k⟩
end

/-- a text's expressions -/
structure Sd (X : Cx) (N : List Str) (k : Nat) (e : IE) (E : Em) : Prop where
  pe : PE X (emE N e E).1 (tI e)
  pt : PT X (emE N e E).1 (tQ fun s => boolD (evalE e s))
theorem Sd.val {X : Cx} {N : List Str} {k : Nat} {e : IE} {E : Em} (h : PE X (emE N e E).1 (tI e)) (z : tsX (emE N e E).1 = true) : Sd X N k e E :=
  ⟨h, PT.imp (pt_val h (true_pl z)) fun σ H Q q => tQ_tB q⟩
structure Sd2 (X : Cx) (op : BoolOp) (es : List Expr) (f : Ev) : Prop where
  pe : ∀ pos, PE X (.BoolOp op es pos) (tV f)
  pw : ∀ pos, PW X (.BoolOp op es pos) (tQ fun s => boolD (f s))
end Fs

set_option Elab.async false
set_option linter.all false
set_option maxRecDepth 100000
set_option maxHeartbeats 4000000
namespace Fs
open PySem L2

theorem put_len (s : S) (i : Nat) (x : D × Bool) : (s.put i x).sl.length = s.sl.length := by simp [S.put]
theorem put_at {s : S} {i : Nat} {x : D × Bool} (h : i < s.sl.length) : (s.put i x).sl[i]? = some (some x) := by
  show (s.sl.set i (some x))[i]? = _
  rw [List.getElem?_set_self h]
theorem put_ne {s : S} {i j : Nat} {x : D × Bool} (h : i ≠ j) : (s.put i x).sl[j]? = s.sl[j]? := by
  show (s.sl.set i (some x))[j]? = _
  rw [List.getElem?_set_ne h]
theorem set_at {σ : L2.St} {i : Nat} {v : Option V} (h : i < σ.length) : (σ.set i v)[i]? = some v := List.getElem?_set_self h
theorem set_ne {σ : L2.St} {i j : Nat} {v : Option V} (h : i ≠ j) : (σ.set i v)[j]? = σ[j]? := List.getElem?_set_ne h

theorem wipe_len (s : S) : ∀ vs : List Nat, (s.wipe vs).sl.length = s.sl.length
  | [] => rfl
  | i :: is => by
    show ((s.wipe is).sl.set i none).length = _
    rw [List.length_set, wipe_len s is]
theorem wipe_pn (s : S) : ∀ vs : List Nat, (s.wipe vs).pn = s.pn
  | [] => rfl
  | i :: is => wipe_pn s is
theorem wipe_not {s : S} {j : Nat} : ∀ {vs : List Nat}, j ∉ vs → (s.wipe vs).sl[j]? = s.sl[j]?
  | [], _ => rfl
  | i :: is, h => by
    show ((s.wipe is).sl.set i none)[j]? = _
    rw [List.getElem?_set_ne (fun z => h (by simp [z]))]
    exact wipe_not fun z => h (List.mem_cons_of_mem _ z)
theorem wipe_mem {s : S} {j : Nat} {p : D × Bool} : ∀ {vs : List Nat}, j ∈ vs → (s.wipe vs).sl[j]? ≠ some (some p)
  | i :: is, h, e => by
    have e : ((s.wipe is).sl.set i none)[j]? = some (some p) := e
    by_cases z : i = j
    · subst z
      by_cases l : i < (s.wipe is).sl.length
      · rw [List.getElem?_set_self l] at e; cases e
      · rw [List.getElem?_eq_none (by simpa using l)] at e; cases e
    · rw [List.getElem?_set_ne z] at e
      rcases List.mem_cons.mp h with q | q
      · exact z q.symm
      · exact wipe_mem q e
theorem wipe_mem2 {s : S} {j : Nat} : ∀ {vs : List Nat}, j ∈ vs → j < s.sl.length → (s.wipe vs).sl[j]? = some none
  | i :: is, h, l => by
    show ((s.wipe is).sl.set i none)[j]? = _
    by_cases z : i = j
    · subst z
      rw [List.getElem?_set_self (by rw [wipe_len]; exact l)]
    · rw [List.getElem?_set_ne z]
      rcases List.mem_cons.mp h with q | q
      · exact absurd q.symm z
      · exact wipe_mem2 q l
theorem wipeV_not {σ : L2.St} {j : Nat} : ∀ {vs : List Nat}, j ∉ vs → (L2.wipe σ vs)[j]? = σ[j]?
  | [], _ => rfl
  | i :: is, h => by
    show ((L2.wipe σ is).set i none)[j]? = _
    rw [List.getElem?_set_ne (fun z => h (by simp [z]))]
    exact wipeV_not fun z => h (List.mem_cons_of_mem _ z)
theorem wipeV_mem {σ : L2.St} {j : Nat} : ∀ {vs : List Nat}, j ∈ vs → j < σ.length → (L2.wipe σ vs)[j]? = some none
  | i :: is, h, l => by
    show ((L2.wipe σ is).set i none)[j]? = _
    by_cases z : i = j
    · subst z
      rw [List.getElem?_set_self (by rw [L2.wipe_length]; exact l)]
    · rw [List.getElem?_set_ne z]
      rcases List.mem_cons.mp h with q | q
      · exact absurd q.symm z
      · exact wipeV_mem q l
theorem wipeV_eq {σ σ2 : L2.St} {vs : List Nat} (l : σ2.length = σ.length) (h : ∀ j, j ∉ vs → σ2[j]? = σ[j]?) : L2.wipe σ2 vs = L2.wipe σ vs := by
  apply List.ext_getElem?
  intro j
  by_cases z : j ∈ vs
  · by_cases q : j < σ.length
    · rw [wipeV_mem z (by omega), wipeV_mem z q]
    · rw [List.getElem?_eq_none (by rw [L2.wipe_length]; omega), List.getElem?_eq_none (by rw [L2.wipe_length]; omega)]
  · rw [wipeV_not z, wipeV_not z, h j z]
theorem rest_len (s o : S) : ∀ vs : List Nat, (s.restore o vs).sl.length = s.sl.length
  | [] => rfl
  | i :: is => by
    show ((s.restore o is).sl.set i _).length = _
    rw [List.length_set, rest_len s o is]
theorem rest_pn (s o : S) : ∀ vs : List Nat, (s.restore o vs).pn = s.pn
  | [] => rfl
  | i :: is => rest_pn s o is
theorem rest_not {s o : S} {j : Nat} : ∀ {vs : List Nat}, j ∉ vs → (s.restore o vs).sl[j]? = s.sl[j]?
  | [], _ => rfl
  | i :: is, h => by
    show ((s.restore o is).sl.set i _)[j]? = _
    rw [List.getElem?_set_ne (fun z => h (by simp [z]))]
    exact rest_not fun z => h (List.mem_cons_of_mem _ z)
theorem rest_mem {s o : S} {j : Nat} : ∀ {vs : List Nat}, j ∈ vs → s.sl.length = o.sl.length → (s.restore o vs).sl[j]? = o.sl[j]?
  | i :: is, h, l => by
    show ((s.restore o is).sl.set i ((o.sl[i]?).bind id))[j]? = _
    by_cases z : i = j
    · subst z
      by_cases q : i < o.sl.length
      · rw [List.getElem?_set_self (by rw [rest_len, l]; exact q), List.getElem?_eq_getElem q]; rfl
      · rw [List.getElem?_eq_none (by simp only [List.length_set, rest_len, l]; omega), List.getElem?_eq_none (by omega)]
    · rw [List.getElem?_set_ne z]
      rcases List.mem_cons.mp h with q | q
      · exact absurd q.symm z
      · exact rest_mem q l
theorem unown_of {s : S} {vs : List Nat} (h : s.unowned vs = true) {j : Nat} (hj : j ∈ vs) {d : D} : s.sl[j]? ≠ some (some (d, true)) := fun e => by
  have q := List.all_eq_true.mp h j hj
  have : rd s j = some (d, true) := by unfold rd; rw [e]; rfl
  rw [this] at q; cases q

section
variable {pa : PA} {H0 G0 G G1 G2 H H1 H2 : Hp} {σ σ2 : L2.St} {s s1 s2 : S} {v : V} {d : D}
/-- a kept value is stored -/
theorem Sim.put (S1 : Sim pa H0 G0 G σ H s) {i : Nat} (hi : i < s.sl.length) (r : Rp pa G v d) : Sim pa H0 G0 G (σ.set i (some v)) H (s.put i (d, false)) := by
  have hσ : i < σ.length := by rw [S1.len]; exact hi
  refine ⟨by rw [List.length_set, put_len]; exact S1.len, S1.sub, S1.base, S1.new, S1.kee, S1.pen, fun j e h => ?_, fun j e h => ?_, fun j k e e' a h h' g g' => ?_⟩
  · by_cases z : i = j
    · subst z
      rw [put_at hi] at h; cases h
      exact ⟨v, set_at hσ, r⟩
    · rw [put_ne z] at h; rw [set_ne z]; exact S1.fz j e h
  · by_cases z : i = j
    · subst z; rw [put_at hi] at h; cases h
    · rw [put_ne z] at h; rw [set_ne z]; exact S1.ow j e h
  · by_cases z : i = j
    · subst z; rw [put_at hi] at h; cases h
    · by_cases z' : i = k
      · subst z'; rw [put_at hi] at h'; cases h'
      · rw [put_ne z] at h; rw [put_ne z'] at h'; rw [set_ne z] at g; rw [set_ne z'] at g'; exact S1.dis j k e e' a h h' g g'
/-- a list of our own is stored -/
theorem Sim.putOwn (S1 : Sim pa H0 G0 G σ H s) {i : Nat} (hi : i < s.sl.length) {a : Addr} {xs : List V} {ds : List D} (h : H a = some (.lst xs)) (r : Rps pa G xs ds) (g : G a = none) (h0 : H0 a = none) (n : ¬ pen1 pa a)
    (o : ∀ (j : Nat) (e : D), j ≠ i → s.sl[j]? = some (some (e, true)) → σ[j]? ≠ some (some (V.ref a))) : Sim pa H0 G0 G (σ.set i (some (.ref a))) H (s.put i (.list ds, true)) := by
  have hσ : i < σ.length := by rw [S1.len]; exact hi
  refine ⟨by rw [List.length_set, put_len]; exact S1.len, S1.sub, S1.base, S1.new, S1.kee, S1.pen, fun j e h => ?_, fun j e q => ?_, fun j k e e' b q q' p p' => ?_⟩
  · by_cases z : i = j
    · subst z; rw [put_at hi] at h; cases h
    · rw [put_ne z] at h; rw [set_ne z]; exact S1.fz j e h
  · by_cases z : i = j
    · subst z
      rw [put_at hi] at q; cases q
      exact ⟨a, xs, ds, set_at hσ, rfl, h, r, g, h0, n⟩
    · rw [put_ne z] at q; rw [set_ne z]; exact S1.ow j e q
  · by_cases z : i = j
    · by_cases z' : i = k
      · rw [← z, ← z']
      · subst z
        rw [set_at hσ] at p; cases p
        rw [put_ne z'] at q'; rw [set_ne z'] at p'
        exact absurd p' (o k e' (Ne.symm z') q')
    · by_cases z' : i = k
      · subst z'
        rw [set_at hσ] at p'; cases p'
        rw [put_ne z] at q; rw [set_ne z] at p
        exact absurd p (o j e (Ne.symm z) q)
      · rw [put_ne z] at q; rw [put_ne z'] at q'; rw [set_ne z] at p; rw [set_ne z'] at p'; exact S1.dis j k e e' b q q' p p'
/-- an object that is no one's is written -/
theorem Sim.write (S1 : Sim pa H0 G0 G σ H s) {a : Addr} {o : HO} (g : G a = none) (h0 : H0 a = none) (n : ¬ pen1 pa a) (no : ¬ OwnAt σ s a) : Sim pa H0 G0 G σ (upd H a o) s := by
  refine ⟨S1.len, fun b u h => ?_, S1.base, S1.new, fun b u h m => ?_, ?_, S1.fz, fun i d h => ?_, S1.dis⟩
  · rw [upd_ne]
    · exact S1.sub b u h
    · rintro rfl; rw [g] at h; cases h
  · rw [upd_ne]
    · exact S1.kee b u h m
    · rintro rfl; rw [h0] at h; cases h
  · have p := S1.pen
    cases pa with
    | none =>
      cases q : s.pn with
      | none => trivial
      | some y => rw [q] at p; exact p.elim
    | some x =>
      obtain ⟨b, c⟩ := x
      cases q : s.pn with
      | none => rw [q] at p; exact p.elim
      | some y =>
        rw [q] at p
        refine ⟨p.1, ?_, p.2.2⟩
        rw [upd_ne]
        · exact p.2.1
        · rintro rfl; exact n ⟨c, rfl⟩
  · obtain ⟨b, xs, ds, e1, e2, e3, e4⟩ := S1.ow i d h
    refine ⟨b, xs, ds, e1, e2, ?_, e4⟩
    rw [upd_ne]
    · exact e3
    · rintro rfl; exact no ⟨i, d, h, e1⟩
/-- slots are forgotten -/
theorem Sim.wipe (S1 : Sim pa H0 G0 G σ H s) (vs : List Nat) : Sim pa H0 G0 G (L2.wipe σ vs) H (s.wipe vs) := by
  have nm : ∀ {j : Nat} {p : D × Bool}, (s.wipe vs).sl[j]? = some (some p) → j ∉ vs := fun h m => wipe_mem m h
  refine ⟨by rw [L2.wipe_length, wipe_len]; exact S1.len, S1.sub, S1.base, S1.new, S1.kee, by rw [wipe_pn]; exact S1.pen, fun j e h => ?_, fun j e h => ?_, fun j k e e' a h h' g g' => ?_⟩
  · have m := nm h
    rw [wipe_not m] at h; rw [wipeV_not m]; exact S1.fz j e h
  · have m := nm h
    rw [wipe_not m] at h; rw [wipeV_not m]; exact S1.ow j e h
  · have m := nm h
    have m' := nm h'
    rw [wipe_not m] at h; rw [wipe_not m'] at h'; rw [wipeV_not m] at g; rw [wipeV_not m'] at g'; exact S1.dis j k e e' a h h' g g'
/-- a turn of a comprehension, told without its own slots -/
theorem Ext.scope {vs : List Nat} (ln : s1.sl.length = s.sl.length) (out : ∀ j, j ∉ vs → s1.sl[j]? = s.sl[j]? ∧ σ2[j]? = σ[j]?) (inn : ∀ j, j ∈ vs → ∀ d, s1.sl[j]? ≠ some (some (d, true))) (was : ∀ j, j ∈ vs → ∀ p, s.sl[j]? ≠ some (some p))
    (E : Ext pa G G1 H H1 σ2 s1 s2) : Ext pa G G1 H H1 σ s (s2.wipe vs) where
  hk := E.hk
  gk := E.gk
  gn := fun a o h => by
    rcases E.gn a o h with z | z | ⟨j, d, e1, e2⟩
    · exact .inl z
    · exact .inr (.inl z)
    · by_cases m : j ∈ vs
      · exact absurd e1 (inn j m d)
      · obtain ⟨o1, o2⟩ := out j m
        exact .inr (.inr ⟨j, d, by rw [← o1]; exact e1, by rw [← o2]; exact e2⟩)
  ln := by rw [wipe_len, E.ln, ln]
  sn := fun j h => by
    by_cases m : j ∈ vs
    · have l : j < s.sl.length := by
        rcases Nat.lt_or_ge j s.sl.length with q | q
        · exact q
        · rw [List.getElem?_eq_none q] at h; cases h
      exact wipe_mem2 m (by rw [E.ln, ln]; exact l)
    · rw [wipe_not m]; exact E.sn j (by rw [(out j m).1]; exact h)
  sl := fun j d f h => by
    by_cases m : j ∈ vs
    · exact absurd h (was j m _)
    · rw [wipe_not m]; exact E.sl j d f (by rw [(out j m).1]; exact h)
/-- behind a comprehension: its own slots are what they were -/
theorem Sim.restore {vs : List Nat} (S0 : Sim pa H0 G0 G σ H s) (un : s.unowned vs = true) (E : Ext pa G G1 H H1 (L2.wipe σ vs) (s.wipe vs) s1) (S1 : Sim pa H0 G0 G1 (L2.wipe σ vs) H1 s1) :
    Sim pa H0 G0 G1 σ H1 (s1.restore s vs) ∧ Ext pa G G1 H H1 σ s (s1.restore s vs) := by
  have ln : s1.sl.length = s.sl.length := by rw [E.ln, wipe_len]
  have at_in : ∀ {j}, j ∈ vs → (s1.restore s vs).sl[j]? = s.sl[j]? := fun m => rest_mem m ln
  have at_out : ∀ {j}, j ∉ vs → (s1.restore s vs).sl[j]? = s1.sl[j]? := fun m => rest_not m
  have own_out : ∀ {j : Nat} {d : D}, (s1.restore s vs).sl[j]? = some (some (d, true)) → j ∉ vs := fun {j d} h m => by
    rw [at_in m] at h
    exact unown_of un m h
  refine ⟨⟨by rw [rest_len, ln]; exact S0.len, S1.sub, S1.base, S1.new, S1.kee, by rw [rest_pn]; exact S1.pen, fun j e h => ?_, fun j e h => ?_, fun j k e e' a h h' g g' => ?_⟩, ⟨E.hk, E.gk, fun a o h => ?_, by rw [rest_len, ln], fun j h => ?_, fun j e f h => ?_⟩⟩
  · by_cases m : j ∈ vs
    · rw [at_in m] at h
      obtain ⟨v, e1, e2⟩ := S0.fz j e h
      exact ⟨v, e1, e2.mono E.gk⟩
    · rw [at_out m] at h
      obtain ⟨v, e1, e2⟩ := S1.fz j e h
      rw [wipeV_not m] at e1
      exact ⟨v, e1, e2⟩
  · have m := own_out h
    rw [at_out m] at h
    have q := S1.ow j e h
    rw [wipeV_not m] at q
    exact q
  · have m := own_out h
    have m' := own_out h'
    rw [at_out m] at h; rw [at_out m'] at h'
    exact S1.dis j k e e' a h h' (by rw [wipeV_not m]; exact g) (by rw [wipeV_not m']; exact g')
  · rcases E.gn a o h with z | z | ⟨j, d, e1, e2⟩
    · exact .inl z
    · exact .inr (.inl z)
    · have m : j ∉ vs := fun m => wipe_mem m e1
      rw [wipe_not m] at e1
      rw [wipeV_not m] at e2
      exact .inr (.inr ⟨j, d, e1, e2⟩)
  · by_cases m : j ∈ vs
    · rw [at_in m]; exact h
    · rw [at_out m]; exact E.sn j (by rw [wipe_not m]; exact h)
  · by_cases m : j ∈ vs
    · rw [at_in m]; exact ⟨f, h, fun z => z⟩
    · rw [at_out m]; exact E.sl j e f (by rw [wipe_not m]; exact h)
end

def gNames : List Nat → TGs
  | [] => gNil
  | i :: is => gCons (gName i) (gNames is)
def tTr (K : PySem.W.Frag) : Tr → TG
  | .v i => gName i
  | .t is => gTup K is.length (gNames is)
  | .n i is => gTup K 2 (gCons (gName i) (gCons (gTup K is.length (gNames is)) gNil))
theorem asg_names (N : List Str) (env : Env) : ∀ (is : List Nat) (E : Em), (assignEach (emNames N is E).1 env).length = is.length ∧ (assignEach (emNames N is E).1 env).findIdx? (·.1) = none
  | [], _ => ⟨rfl, rfl⟩
  | i :: is, E => by
    obtain ⟨h1, h2⟩ := asg_names N env is E.np
    constructor
    · show (assignEach (.Name (nm N i) E.p :: (emNames N is E.np).1) env).length = _
      show (_ :: assignEach (emNames N is E.np).1 env).length = _
      rw [List.length_cons, List.length_cons, h1]
    · show (_ :: assignEach (emNames N is E.np).1 env).findIdx? _ = _
      rw [List.findIdx?_cons]
      show (if false = true then _ else _) = _
      rw [h2]; rfl
theorem pgs_names {X : Cx} (hN : X.N.Nodup) : ∀ (is : List Nat) (E : Em), (∀ i ∈ is, X.N[i]? = some (nm X.N i) ∧ Loc X.env.scope (nm X.N i) ∧ (X.fn (nm X.N i) = true ∨ X.env.scope.names.lookup (nm X.N i) = some .local)) → PGs X (emNames X.N is E).1 (gNames is)
  | [], _, _ => pgs_nil
  | i :: is, E, h => by
    obtain ⟨h1, h2, h3⟩ := h i (by simp)
    exact pgs_cons (pg_name hN h1 h2 h3) (pgs_names hN is E.np fun j hj => h j (List.mem_cons_of_mem _ hj))
theorem asg_two (env : Env) (x : Str) (p q : Pos) (es : List Expr) : (assignEach [.Name x p, .Tuple es 0 q] env).length = 2 ∧ (assignEach [.Name x p, .Tuple es 0 q] env).findIdx? (·.1) = none := by
  constructor
  · show (_ :: _ :: assignEach [] env).length = 2
    rw [List.length_cons, List.length_cons]
    rfl
  · show (_ :: _ :: assignEach [] env).findIdx? _ = _
    rw [List.findIdx?_cons]
    show (if false = true then _ else _) = _
    rw [if_neg (by decide), List.findIdx?_cons]
    show (if false = true then _ else _ : Option Nat).map _ = _
    rw [if_neg (by decide)]
    rfl
theorem asg_cons1 (env : Env) (x : Str) (p : Pos) (es : List Expr) : (assignEach (.Name x p :: es) env).map (·.2) = assign (.Name x p) env :: (assignEach es env).map (·.2) := by
  rw [assignEach, List.map_cons]
  intro t q z; cases z
theorem asg_cons2 (env : Env) (q : Pos) (ts es : List Expr) : (assignEach (.Tuple ts 0 q :: es) env).map (·.2) = assign (.Tuple ts 0 q) env :: (assignEach es env).map (·.2) := by
  rw [assignEach, List.map_cons]
  intro t q z; cases z
theorem pg_tr {X : Cx} (hN : X.N.Nodup) (hc : X.calm = true) (tg : Tr) (E : Em) (h : ∀ i ∈ tg.slots, X.N[i]? = some (nm X.N i) ∧ Loc X.env.scope (nm X.N i) ∧ (X.fn (nm X.N i) = true ∨ X.env.scope.names.lookup (nm X.N i) = some .local)) : PG X (emTr X.N tg E).1 (tTr X.K tg) := by
  cases tg with
  | v i =>
    obtain ⟨h1, h2, h3⟩ := h i (by simp [Tr.slots])
    exact pg_name hN h1 h2 h3
  | t is =>
    obtain ⟨a1, a2⟩ := asg_names X.N X.env is E.np
    exact pg_tup hc (pgs_names hN is E.np h) a1 a2
  | n i is =>
    obtain ⟨h1, h2, h3⟩ := h i (by simp [Tr.slots])
    obtain ⟨a1, a2⟩ := asg_names X.N X.env is E.np.np.np
    obtain ⟨b1, b2⟩ := asg_two X.env (nm X.N i) E.np.p E.np.np.p (emNames X.N is E.np.np.np).1
    have q := pgs_names hN is E.np.np.np fun j hj => h j (by show j ∈ i :: is; exact List.mem_cons_of_mem _ hj)
    have q2 := pg_tup (k := 0) (pos := E.np.np.p) hc q a1 a2
    have q3 := pgs_cons (pg_name (pos := E.np.p) hN h1 h2 h3) (pgs_cons q2 pgs_nil (asg_cons2 _ _ _ _)) (asg_cons1 _ _ _ _)
    have q4 := pg_tup (k := 0) (pos := E.p) hc q3 b1 b2
    exact q4

section
variable {pa : PA} {H0 G0 G H : Hp} {σ : L2.St} {s s1 : S} {v : V} {d : D}
def putsF (s : S) (l : List (Nat × D)) : S := l.foldl (fun s p => s.put p.1 (p.2, false)) s
theorem bind_names : ∀ (is : List Nat) {vs : List V} {ds : List D} {σ : L2.St} {s : S}, Sim pa H0 G0 G σ H s → is.length = ds.length → (is.all fun i => decide (i < s.sl.length)) = true → Rps pa G vs ds → ∀ {Q : L2.St → Hp → Prop},
    (∀ σ2, Sim pa H0 G0 G σ2 H (putsF s (is.zip ds)) → σ2.length = σ.length → (∀ j, j ∉ is → σ2[j]? = σ[j]? ∧ (putsF s (is.zip ds)).sl[j]? = s.sl[j]?) → (∀ j, j ∈ is → ∀ d, (putsF s (is.zip ds)).sl[j]? ≠ some (some (d, true))) → (putsF s (is.zip ds)).sl.length = s.sl.length → Q σ2 H) → gNames is vs σ H Q
  | [], [], [], σ, s, S0, _, _, _, Q, k => ⟨rfl, k σ S0 rfl (fun j _ => ⟨rfl, rfl⟩) (fun j h => by simp at h) rfl⟩
  | i :: is, v :: vs, d :: ds, σ, s, S0, l, hb, r, Q, k => by
    cases r with
    | cons r rs =>
      simp only [List.all_cons, Bool.and_eq_true, decide_eq_true_eq] at hb
      refine ⟨v, vs, rfl, ?_⟩
      have S1 := S0.put hb.1 r
      refine bind_names is S1 (by simpa using l) ?_ rs fun σ2 S2 l2 o2 n2 ln2 => ?_
      · rw [put_len]; exact hb.2
      · refine k σ2 S2 (by rw [l2, List.length_set]) (fun j hj => ?_) (fun j hj e => ?_) (ln2.trans (put_len ..))
        · have hj1 : i ≠ j := fun z => hj (by simp [z])
          have hj2 : j ∉ is := fun z => hj (List.mem_cons_of_mem _ z)
          obtain ⟨o3, o4⟩ := o2 j hj2
          exact ⟨by rw [o3, set_ne hj1], o4.trans (put_ne hj1)⟩
        · by_cases z : j ∈ is
          · exact n2 j z e
          · have e2 := (o2 j z).2
            have z2 : j = i := by
              rcases List.mem_cons.mp hj with q | q
              · exact q
              · exact absurd q z
            subst z2
            rw [put_at hb.1] at e2
            intro q
            have q2 : (putsF (s.put j (d, false)) (is.zip ds)).sl[j]? = some (some (e, true)) := q
            rw [e2] at q2; cases q2
  | [], _ :: _, [], _, _, _, _, _, r, _, _ => by cases r
  | [], _ :: _, _ :: _, _, _, _, l, _, _, _, _ => by simp at l
  | _ :: _, [], _, _, _, _, l, _, r, _, _ => by cases r; simp at l
  | [], [], _ :: _, _, _, _, l, _, _, _, _ => by simp at l
  | _ :: _, _ :: _, [], _, _, _, l, _, _, _, _ => by simp at l
/-- a pair whose second is a tuple is bound -/
theorem bind_two {i : Nat} {is : List Nat} {v w : V} {ds : List D} (S0 : Sim pa H0 G0 G σ H s) (hi : i < s.sl.length) (l : is.length = ds.length) (hb : (is.all fun i => decide (i < s.sl.length)) = true) (r : Rp pa G v d) (r2 : Rp pa G w (.tuple ds)) {K : PySem.W.Frag} {Q : L2.St → Hp → Prop}
    (k : ∀ σ2, Sim pa H0 G0 G σ2 H (putsF (s.put i (d, false)) (is.zip ds)) → σ2.length = σ.length → (∀ j, j ∉ i :: is → σ2[j]? = σ[j]? ∧ (putsF (s.put i (d, false)) (is.zip ds)).sl[j]? = s.sl[j]?) → (∀ j, j ∈ i :: is → ∀ d', (putsF (s.put i (d, false)) (is.zip ds)).sl[j]? ≠ some (some (d', true))) → (putsF (s.put i (d, false)) (is.zip ds)).sl.length = s.sl.length → Q σ2 H) :
    gCons (gName i) (gCons (gTup K is.length (gNames is)) gNil) [v, w] σ H Q := by
  cases r2 with
  | tup h rs =>
    rename_i a xs
    refine ⟨v, [_], rfl, ?_⟩
    have S1 := S0.put hi r
    refine ⟨_, [], rfl, a, xs, rfl, (h.up S1.sub).sq, by rw [rs.len, l], ?_⟩
    refine bind_names is S1 l (by rw [put_len]; exact hb) rs fun σ2 S2 l2 out inn ln => ⟨rfl, k σ2 S2 (by rw [l2, List.length_set]) (fun j hj => ?_) (fun j hj d' => ?_) (ln.trans (put_len ..))⟩
    · have hj1 : i ≠ j := fun z => hj (by simp [z])
      have hj2 : j ∉ is := fun z => hj (List.mem_cons_of_mem _ z)
      obtain ⟨o3, o4⟩ := out j hj2
      exact ⟨by rw [o3, set_ne hj1], o4.trans (put_ne hj1)⟩
    · by_cases z : j ∈ is
      · exact inn j z d'
      · rcases List.mem_cons.mp hj with rfl | hj
        · intro q
          rw [(out j z).2, put_at hi] at q
          cases q
        · exact absurd hj z
theorem pairT_some {d d1 : D} {ds : List D} (h : pairT d = some (d1, ds)) : d = .tuple [d1, .tuple ds] := by
  unfold pairT at h
  split at h
  · cases h; rfl
  · cases h
theorem rp_two {v : V} {d1 d2 : D} (r : Rp pa G v (.tuple [d1, d2])) : ∃ a v1 v2, v = .ref a ∧ TupAt G a [v1, v2] ∧ Rp pa G v1 d1 ∧ Rp pa G v2 d2 := by
  cases r with
  | tup h rs =>
    cases rs with
    | cons r1 rs =>
      cases rs with
      | cons r2 rs =>
        cases rs
        exact ⟨_, _, _, rfl, h, r1, r2⟩
/-- a value (kept) is bound -/
theorem bind_ok (K : PySem.W.Frag) {tg : Tr} (S0 : Sim pa H0 G0 G σ H s) (r : Rp pa G v d) (e : s.bindT tg d = some s1) {Q : L2.St → Hp → Prop}
    (k : ∀ σ2, Sim pa H0 G0 G σ2 H s1 → σ2.length = σ.length → (∀ j, j ∉ tg.slots → σ2[j]? = σ[j]? ∧ s1.sl[j]? = s.sl[j]?) → (∀ j, j ∈ tg.slots → ∀ d, s1.sl[j]? ≠ some (some (d, true))) → s1.sl.length = s.sl.length → Q σ2 H) : tTr K tg v σ H Q := by
  cases tg with
  | v i =>
    simp only [S.bindT] at e
    split at e
    · rename_i hi
      cases e
      refine k _ (S0.put hi r) (by rw [List.length_set]) (fun j hj => ?_) (fun j hj d' q => ?_) (put_len ..)
      · have : i ≠ j := fun z => hj (by simp [Tr.slots, z])
        exact ⟨set_ne this, put_ne this⟩
      · obtain rfl : j = i := by simpa [Tr.slots] using hj
        rw [put_at hi] at q; cases q
    · cases e
  | t is =>
    cases d with
    | tuple ds =>
      simp only [S.bindT] at e
      split at e
      · rename_i hi
        cases e
        obtain ⟨hl, hb⟩ := hi
        cases r with
        | tup h rs =>
          rename_i a xs
          exact ⟨a, xs, rfl, (h.up S0.sub).sq, by rw [rs.len, hl], bind_names is S0 hl hb rs k⟩
      · cases e
    | _ => simp only [S.bindT] at e; cases e
  | n i is =>
    simp only [S.bindT] at e
    obtain ⟨⟨d1, ds⟩, ep, e⟩ := Option.bind_eq_some_iff.mp e
    split at e
    · rename_i hi
      cases e
      obtain ⟨hi, hl, hb⟩ := hi
      rw [pairT_some ep] at r
      obtain ⟨a, v1, v2, rfl, h, r1, r2⟩ := rp_two r
      exact ⟨a, [v1, v2], rfl, (h.up S0.sub).sq, rfl, bind_two S0 hi hl hb r1 r2 k⟩
    · cases e
end
end Fs

set_option Elab.async false
set_option linter.all false
set_option maxRecDepth 100000
set_option maxHeartbeats 4000000
namespace Fs
open PySem L2

/-- an item: a value, or a new pair that is taken apart at once -/
def ResI (b : Bool) (pa : PA) (G H : Hp) (v : V) (d : D) (H1 : Hp) : Prop := Res pa G H v d false H1 ∨ (b = true ∧ Sub H H1 ∧ ∃ a xs ds, v = .ref a ∧ d = .tuple ds ∧ H1 a = some (.tup xs) ∧ Rps pa G xs ds)
/-- the iterator gives these items -/
def SrOk (b : Bool) (pa : PA) (G H1 : Hp) (items : List D) (J : It) : Prop := ∃ (Gd : Hp → Prop) (Y : Nat → Hp → V → Hp → Prop), Walk J items.length Gd Y ∧
  (∀ H', (∀ a o, H1 a = some o → ¬ pen1 pa a → H' a = some o) → Gd H') ∧ ∀ i H v H', i < items.length → Gd H → Y i H v H' → ∃ d, items[i]? = some d ∧ ResI b pa G H v d H'
/-- .. also while the body works, where the value is kept -/
def SrF (b : Bool) (pa : PA) (G : Hp) (items : List D) (J : It) : Prop := ∃ (Gd : Hp → Prop) (Y : Nat → Hp → V → Hp → Prop), Walk J items.length Gd Y ∧
  (∀ H', Sub G H' → Gd H') ∧ ∀ i H v H', i < items.length → Gd H → Y i H v H' → ∃ d, items[i]? = some d ∧ ResI b pa G H v d H'
def SrB (b : Bool) (pa : PA) (G H1 : Hp) (items : List D) (J : It) (v : V) (d : D) : Prop := SrOk b pa G H1 items J ∧ ∀ G2, Sub G G2 → Rp pa G2 v d → SrF b pa G2 items J
def tSr (src : Sr) : TI := fun σ H R => ∃ pa H0 G0 G s items t s1, Sim pa H0 G0 G σ H s ∧ evalSr src s = some ((items, t), s1) ∧
  ∀ J H1 G1 v d, Sim pa H0 G0 G1 σ H1 s1 → Ext pa G G1 H H1 σ s s1 → RT pa H0 G1 σ H1 s1 v d t → NewT H v t → SrB src.pairs pa G1 H1 items J v d → R J H1
def tTs : IEs → TT
  | .nil => tYes
  | .cons e _ => tQ fun s => boolD (evalE e s)

section
variable {pa : PA} {H0 G0 G G1 G2 H H1 H2 : Hp} {σ σ2 : L2.St} {s s1 s2 : S} {v : V} {d : D} {t : Tg} {pr : Bool}
theorem Res.mono {fr : Bool} (k : Sub G G2) (h : Res pa G H v d fr H1) : Res pa G2 H v d fr H1 := by
  obtain ⟨u, r⟩ := h
  refine ⟨u, ?_⟩
  rcases r with ⟨q, r | ⟨a, xs, ds, e1, e2, e3, e4, r⟩⟩ | ⟨q, a, xs, ds, e1, e2, e3, e4, r⟩
  · exact .inl ⟨q, .inl (r.mono k)⟩
  · exact .inl ⟨q, .inr ⟨a, xs, ds, e1, e2, e3, e4, r.mono k⟩⟩
  · exact .inr ⟨q, a, xs, ds, e1, e2, e3, e4, r.mono k⟩
theorem ResI.mono (k : Sub G G2) (h : ResI pr pa G H v d H1) : ResI pr pa G2 H v d H1 := by
  rcases h with h | ⟨q, u, a, xs, ds, e1, e2, e3, r⟩
  · exact .inl (h.mono k)
  · exact .inr ⟨q, u, a, xs, ds, e1, e2, e3, r.mono k⟩
theorem ResI.old (r : Rp pa G v d) : ResI pr pa G H v d H := .inl (.old r)
theorem ResI.pair {a : Addr} {xs : List V} {ds : List D} (n : H a = none) (r : Rps pa G xs ds) : ResI true pa G H (.ref a) (.tuple ds) (upd H a (.tup xs)) := .inr ⟨rfl, .upd n, a, xs, ds, rfl, rfl, upd_same, r⟩
theorem SrOk.mono {items : List D} {J : It} (k : Sub G G2) (h : SrOk pr pa G H1 items J) : SrOk pr pa G2 H1 items J := by
  obtain ⟨Gd, Y, w, g, y⟩ := h
  refine ⟨Gd, Y, w, g, fun i H v H' hi hg hy => ?_⟩
  obtain ⟨d, e, r⟩ := y i H v H' hi hg hy
  exact ⟨d, e, r.mono k⟩
theorem SrF.mono {items : List D} {J : It} (k : Sub G G2) (h : SrF pr pa G items J) : SrF pr pa G2 items J := by
  obtain ⟨Gd, Y, w, g, y⟩ := h
  refine ⟨Gd, Y, w, fun H' z => g H' (k.trans z), fun i H v H' hi hg hy => ?_⟩
  obtain ⟨d, e, r⟩ := y i H v H' hi hg hy
  exact ⟨d, e, r.mono k⟩
/-- where all stands in G, it stands for good -/
theorem SrF.of {items : List D} {J : It} {Gd : Hp → Prop} {Y : Nat → Hp → V → Hp → Prop} (w : Walk J items.length Gd Y) (g : ∀ H', Sub G H' → Gd H') (y : ∀ i H v H', i < items.length → Gd H → Y i H v H' → ∃ d, items[i]? = some d ∧ ResI pr pa G H v d H') : SrF pr pa G items J := ⟨Gd, Y, w, g, y⟩
theorem Rps.at {xs : List V} {ds : List D} (r : Rps pa G xs ds) {i : Nat} {x : V} (h : xs[i]? = some x) : ∃ d, ds[i]? = some d ∧ Rp pa G x d := r.getV h
theorem sr_list (K : PySem.W.Frag) {a : Addr} {xs : List V} {ds : List D} (h : H1 a = some (.lst xs)) (n : ¬ pen1 pa a) (r : Rps pa G xs ds) : SrOk pr pa G H1 ds (Itl K a) := by
  refine ⟨fun H => SqL K H a xs, YAt xs, (by rw [← r.len]; exact walk_list), fun H' k => .of (k a _ h n), fun i H v H' _ _ y => ?_⟩
  obtain ⟨rfl, hv⟩ := y
  obtain ⟨d, e, q⟩ := r.getV hv
  exact ⟨d, e, .old q⟩
theorem sr_tup (K : PySem.W.Frag) {a : Addr} {xs : List V} {ds : List D} (h : TupAt H1 a xs) (n : ¬ pen1 pa a) (r : Rps pa G xs ds) : SrOk pr pa G H1 ds (Itt K a) := by
  refine ⟨fun H => SqT K H a xs, YAt xs, (by rw [← r.len]; exact walk_tup), fun H' k => (h.at1 fun o e => k a o e n).sq, fun i H v H' _ _ y => ?_⟩
  obtain ⟨rfl, hv⟩ := y
  obtain ⟨d, e, q⟩ := r.getV hv
  exact ⟨d, e, .old q⟩
theorem en_at {ds : List D} {i : Nat} {d : D} (h : ds[i]? = some d) : (ds.zipIdx.map fun p => PyData.tuple [.int (p.2 : Nat), p.1])[i]? = some (PyData.tuple [.int (i : Nat), d]) := by
  rw [List.getElem?_map, List.getElem?_zipIdx, h]; simp
theorem sr_en (K : PySem.W.Frag) {a : Addr} {xs : List V} {ds : List D} (h : H1 a = some (.lst xs)) (n : ¬ pen1 pa a) (r : Rps pa G xs ds) : SrOk true pa G H1 (ds.zipIdx.map fun p => PyData.tuple [.int (p.2 : Nat), p.1]) (Ite K a) := by
  refine ⟨fun H => SqL K H a xs, YPair (fun i => some (.int (i : Nat))) (fun i => xs[i]?), (by rw [List.length_map, List.length_zipIdx, ← r.len]; exact walk_enum), fun H' k => .of (k a _ h n), fun i H v H' _ _ y => ?_⟩
  obtain ⟨T, x, z, rfl, hT, rfl, e1, hv⟩ := y
  cases e1
  obtain ⟨d, e, q⟩ := r.getV hv
  exact ⟨_, en_at e, .pair hT (.cons (.int _) (.cons q .nil))⟩
theorem sr_enT (K : PySem.W.Frag) {a : Addr} {xs : List V} {ds : List D} (h : TupAt H1 a xs) (n : ¬ pen1 pa a) (r : Rps pa G xs ds) : SrOk true pa G H1 (ds.zipIdx.map fun p => PyData.tuple [.int (p.2 : Nat), p.1]) (ItE K a) := by
  refine ⟨fun H => SqT K H a xs, YPair (fun i => some (.int (i : Nat))) (fun i => xs[i]?), (by rw [List.length_map, List.length_zipIdx, ← r.len]; exact walk_enumT), fun H' k => (h.at1 fun o e => k a o e n).sq, fun i H v H' _ _ y => ?_⟩
  obtain ⟨T, x, z, rfl, hT, rfl, e1, hv⟩ := y
  cases e1
  obtain ⟨d, e, q⟩ := r.getV hv
  exact ⟨_, en_at e, .pair hT (.cons (.int _) (.cons q .nil))⟩
theorem zip_at {ds es : List D} {i : Nat} {d e : D} (h : ds[i]? = some d) (h2 : es[i]? = some e) : (List.zipWith (fun u v => PyData.tuple [u, v]) ds es)[i]? = some (PyData.tuple [d, e]) := by
  rw [List.getElem?_zipWith, h, h2]
theorem sr_zip (K : PySem.W.Frag) {a b : Addr} {xs ys : List V} {ds es : List D} (h : H1 a = some (.lst xs)) (n : ¬ pen1 pa a) (r : Rps pa G xs ds) (h2 : H1 b = some (.lst ys)) (n2 : ¬ pen1 pa b) (r2 : Rps pa G ys es) :
    SrOk true pa G H1 (List.zipWith (fun u v => PyData.tuple [u, v]) ds es) (Itz K a b) := by
  refine ⟨fun H => SqL K H a xs ∧ SqL K H b ys, YPair (fun i => xs[i]?) (fun i => ys[i]?), (by rw [List.length_zipWith, ← r.len, ← r2.len]; exact walk_zip rfl), fun H' k => ⟨.of (k a _ h n), .of (k b _ h2 n2)⟩, fun i H v H' _ _ y => ?_⟩
  obtain ⟨T, x, z, rfl, hT, rfl, hx, hz⟩ := y
  obtain ⟨d, e, q⟩ := r.getV hx
  obtain ⟨d2, e2, q2⟩ := r2.getV hz
  exact ⟨_, zip_at e e2, .pair hT (.cons q (.cons q2 .nil))⟩
theorem sr_zipT (K : PySem.W.Frag) {a b : Addr} {xs ys : List V} {ds es : List D} (h : TupAt H1 a xs) (n : ¬ pen1 pa a) (r : Rps pa G xs ds) (h2 : TupAt H1 b ys) (n2 : ¬ pen1 pa b) (r2 : Rps pa G ys es) :
    SrOk true pa G H1 (List.zipWith (fun u v => PyData.tuple [u, v]) ds es) (RZ.ItzT K a b) := by
  refine ⟨fun H => SqT K H a xs ∧ SqT K H b ys, YPair (fun i => xs[i]?) (fun i => ys[i]?), (by rw [List.length_zipWith, ← r.len, ← r2.len]; exact walk_zipT rfl), fun H' k => ⟨(h.at1 fun o e => k a o e n).sq, (h2.at1 fun o e => k b o e n2).sq⟩, fun i H v H' _ _ y => ?_⟩
  obtain ⟨T, x, z, rfl, hT, rfl, hx, hz⟩ := y
  obtain ⟨d, e, q⟩ := r.getV hx
  obtain ⟨d2, e2, q2⟩ := r2.getV hz
  exact ⟨_, zip_at e e2, .pair hT (.cons q (.cons q2 .nil))⟩
theorem sr_rng {lo : Int} {n : Nat} : SrOk pr pa G H1 ((List.range n).map fun i => .int (lo + (i : Nat))) (Itr lo n) := by
  refine ⟨fun _ => True, YFn fun i => .int (lo + i), (by rw [List.length_map, List.length_range]; exact walk_range), fun _ _ => trivial, fun i H v H' hi _ y => ?_⟩
  obtain ⟨rfl, rfl⟩ := y
  rw [List.length_map, List.length_range] at hi
  exact ⟨.int (lo + (i : Nat)), by rw [List.getElem?_map, List.getElem?_range hi]; rfl, .old (.int _)⟩
theorem sr_rngC {lo c : Int} {n : Nat} : SrOk pr pa G H1 ((List.range n).map fun i => .int (lo + (i : Nat) * c)) (Itc lo c n) := by
  refine ⟨fun _ => True, YFn fun i => .int (lo + (i : Nat) * c), (by rw [List.length_map, List.length_range]; exact walk_rangeC), fun _ _ => trivial, fun i H v H' hi _ y => ?_⟩
  obtain ⟨rfl, rfl⟩ := y
  rw [List.length_map, List.length_range] at hi
  exact ⟨.int (lo + (i : Nat) * c), by rw [List.getElem?_map, List.getElem?_range hi]; rfl, .old (.int _)⟩
theorem fsr_rngC {lo c : Int} {n : Nat} : SrF pr pa G ((List.range n).map fun i => .int (lo + (i : Nat) * c)) (Itc lo c n) := by
  refine ⟨fun _ => True, YFn fun i => .int (lo + (i : Nat) * c), (by rw [List.length_map, List.length_range]; exact walk_rangeC), fun _ _ => trivial, fun i H v H' hi _ y => ?_⟩
  obtain ⟨rfl, rfl⟩ := y
  rw [List.length_map, List.length_range] at hi
  exact ⟨.int (lo + (i : Nat) * c), by rw [List.getElem?_map, List.getElem?_range hi]; rfl, .old (.int _)⟩
theorem fsr_list (K : PySem.W.Frag) {a : Addr} {xs : List V} {ds : List D} (h : G a = some (.lst xs)) (r : Rps pa G xs ds) : SrF pr pa G ds (Itl K a) := by
  refine ⟨fun H => SqL K H a xs, YAt xs, (by rw [← r.len]; exact walk_list), fun H' k => .of (k a _ h), fun i H v H' _ _ y => ?_⟩
  obtain ⟨rfl, hv⟩ := y
  obtain ⟨d, e, q⟩ := r.getV hv
  exact ⟨d, e, .old q⟩
theorem fsr_tup (K : PySem.W.Frag) {a : Addr} {xs : List V} {ds : List D} (h : TupAt G a xs) (r : Rps pa G xs ds) : SrF pr pa G ds (Itt K a) := by
  refine ⟨fun H => SqT K H a xs, YAt xs, (by rw [← r.len]; exact walk_tup), fun H' k => (h.at1 fun o e => k a o e).sq, fun i H v H' _ _ y => ?_⟩
  obtain ⟨rfl, hv⟩ := y
  obtain ⟨d, e, q⟩ := r.getV hv
  exact ⟨d, e, .old q⟩
theorem fsr_en (K : PySem.W.Frag) {a : Addr} {xs : List V} {ds : List D} (h : G a = some (.lst xs)) (r : Rps pa G xs ds) : SrF true pa G (ds.zipIdx.map fun p => PyData.tuple [.int (p.2 : Nat), p.1]) (Ite K a) := by
  refine ⟨fun H => SqL K H a xs, YPair (fun i => some (.int (i : Nat))) (fun i => xs[i]?), (by rw [List.length_map, List.length_zipIdx, ← r.len]; exact walk_enum), fun H' k => .of (k a _ h), fun i H v H' _ _ y => ?_⟩
  obtain ⟨T, x, z, rfl, hT, rfl, e1, hv⟩ := y
  cases e1
  obtain ⟨d, e, q⟩ := r.getV hv
  exact ⟨_, en_at e, .pair hT (.cons (.int _) (.cons q .nil))⟩
theorem fsr_enT (K : PySem.W.Frag) {a : Addr} {xs : List V} {ds : List D} (h : TupAt G a xs) (r : Rps pa G xs ds) : SrF true pa G (ds.zipIdx.map fun p => PyData.tuple [.int (p.2 : Nat), p.1]) (ItE K a) := by
  refine ⟨fun H => SqT K H a xs, YPair (fun i => some (.int (i : Nat))) (fun i => xs[i]?), (by rw [List.length_map, List.length_zipIdx, ← r.len]; exact walk_enumT), fun H' k => (h.at1 fun o e => k a o e).sq, fun i H v H' _ _ y => ?_⟩
  obtain ⟨T, x, z, rfl, hT, rfl, e1, hv⟩ := y
  cases e1
  obtain ⟨d, e, q⟩ := r.getV hv
  exact ⟨_, en_at e, .pair hT (.cons (.int _) (.cons q .nil))⟩
theorem fsr_zip (K : PySem.W.Frag) {a b : Addr} {xs ys : List V} {ds es : List D} (h : G a = some (.lst xs)) (r : Rps pa G xs ds) (h2 : G b = some (.lst ys)) (r2 : Rps pa G ys es) :
    SrF true pa G (List.zipWith (fun u v => PyData.tuple [u, v]) ds es) (Itz K a b) := by
  refine ⟨fun H => SqL K H a xs ∧ SqL K H b ys, YPair (fun i => xs[i]?) (fun i => ys[i]?), (by rw [List.length_zipWith, ← r.len, ← r2.len]; exact walk_zip rfl), fun H' k => ⟨.of (k a _ h), .of (k b _ h2)⟩, fun i H v H' _ _ y => ?_⟩
  obtain ⟨T, x, z, rfl, hT, rfl, hx, hz⟩ := y
  obtain ⟨d, e, q⟩ := r.getV hx
  obtain ⟨d2, e2, q2⟩ := r2.getV hz
  exact ⟨_, zip_at e e2, .pair hT (.cons q (.cons q2 .nil))⟩
theorem fsr_zipT (K : PySem.W.Frag) {a b : Addr} {xs ys : List V} {ds es : List D} (h : TupAt G a xs) (r : Rps pa G xs ds) (h2 : TupAt G b ys) (r2 : Rps pa G ys es) :
    SrF true pa G (List.zipWith (fun u v => PyData.tuple [u, v]) ds es) (RZ.ItzT K a b) := by
  refine ⟨fun H => SqT K H a xs ∧ SqT K H b ys, YPair (fun i => xs[i]?) (fun i => ys[i]?), (by rw [List.length_zipWith, ← r.len, ← r2.len]; exact walk_zipT rfl), fun H' k => ⟨(h.at1 fun o e => k a o e).sq, (h2.at1 fun o e => k b o e).sq⟩, fun i H v H' _ _ y => ?_⟩
  obtain ⟨T, x, z, rfl, hT, rfl, hx, hz⟩ := y
  obtain ⟨d, e, q⟩ := r.getV hx
  obtain ⟨d2, e2, q2⟩ := r2.getV hz
  exact ⟨_, zip_at e e2, .pair hT (.cons q (.cons q2 .nil))⟩
theorem fsr_rng {lo : Int} {n : Nat} : SrF pr pa G ((List.range n).map fun i => .int (lo + (i : Nat))) (Itr lo n) := by
  refine ⟨fun _ => True, YFn fun i => .int (lo + i), (by rw [List.length_map, List.length_range]; exact walk_range), fun _ _ => trivial, fun i H v H' hi _ y => ?_⟩
  obtain ⟨rfl, rfl⟩ := y
  rw [List.length_map, List.length_range] at hi
  exact ⟨.int (lo + (i : Nat)), by rw [List.getElem?_map, List.getElem?_range hi]; rfl, .old (.int _)⟩
/-- a list, a tuple is not the pen -/
theorem RT.npen (S1 : Sim pa H0 G0 G σ H s) (r : RT pa H0 G σ H s v d t) {a : Addr} (e : v = .ref a) {ds : List D} (hd : d = .list ds ∨ d = .tuple ds) : ¬ pen1 pa a := by
  subst e
  have fz : Rp pa G (.ref a) d → ¬ pen1 pa a := fun r n => by
    have g := S1.pen.free n
    rcases hd with rfl | rfl
    · cases r with | lst h _ => rw [g] at h; cases h
    · cases r with | tup h _ => exact h.there g
  cases t with
  | fz => exact fz r
  | fresh =>
    obtain ⟨b, xs, es, e1, _, _, _, _, _, n, _⟩ := r
    cases e1; exact n
  | slot i =>
    obtain ⟨f, h1, h2⟩ := r
    cases f with
    | true =>
      obtain ⟨b, _, _, e1, _, _, _, _, _, n⟩ := S1.ow i d h1
      rw [h2] at e1; cases e1; exact n
    | false =>
      obtain ⟨w, h3, r⟩ := S1.fz i d h1
      rw [h2] at h3; cases h3
      exact fz r

theorem Ext.grow (k : Sub H H1) : Ext pa G G H H1 σ s s := ⟨fun a o h _ => k a o h, .refl, fun _ _ h => .inl h, rfl, fun _ h => h, fun _ _ f h => ⟨f, h, fun z => z⟩⟩
/-- an item is bound -/
theorem item_ok (K : PySem.W.Frag) {tg : Tr} (hb : pr = true → tg.isT = true) (S0 : Sim pa H0 G0 G σ H s) (r : ResI pr pa G H v d H1) (e : s.bindT tg d = some s1) {Q : L2.St → Hp → Prop}
    (k : ∀ Gb σ2, Ext pa G Gb H H1 σ s s → Sim pa H0 G0 Gb σ2 H1 s1 → σ2.length = σ.length → (∀ j, j ∉ tg.slots → σ2[j]? = σ[j]? ∧ s1.sl[j]? = s.sl[j]?) → (∀ j, j ∈ tg.slots → ∀ d, s1.sl[j]? ≠ some (some (d, true))) → s1.sl.length = s.sl.length → Q σ2 H1) : tTr K tg v σ H1 Q := by
  rcases r with r | ⟨yes, u, a, xs, ds, rfl, rfl, ha, rs⟩
  · obtain ⟨Gb, Sb, Eb, Rb, _⟩ := S0.res r
    exact bind_ok K Sb (show Rp pa Gb v d from Rb) e fun σ2 S2 l2 out inn ln => k Gb σ2 Eb S2 l2 out inn ln
  · cases tg with
    | v i => cases hb yes
    | t is =>
      simp only [S.bindT] at e
      split at e
      · rename_i hi
        cases e
        exact ⟨a, xs, rfl, .of ha, by rw [rs.len, hi.1], bind_names is (S0.grow u) hi.1 hi.2 rs fun σ2 S2 l2 out inn ln => k G σ2 (Ext.grow u) S2 l2 out inn ln⟩
      · cases e
    | n i is =>
      simp only [S.bindT] at e
      obtain ⟨⟨d1, ds2⟩, ep, e⟩ := Option.bind_eq_some_iff.mp e
      split at e
      · rename_i hi
        cases e
        obtain ⟨hi, hl, hb⟩ := hi
        have ez := pairT_some ep
        injection ez with ez
        subst ez
        cases rs with
        | cons r1 rs =>
          cases rs with
          | cons r2 rs =>
            cases rs
            exact ⟨a, _, rfl, .of ha, rfl, bind_two (S0.grow u) hi hl hb r1 r2 fun σ2 S2 l2 out inn ln => k G σ2 (Ext.grow u) S2 l2 out inn ln⟩
      · cases e
theorem Ext.updNew (E : Ext pa G G1 H H1 σ s s1) {a : Addr} {o : HO} (h : H a = none) : Ext pa G G1 H (upd H1 a o) σ s s1 :=
  ⟨fun b u e n => by rw [upd_ne (ne_of_none e h)]; exact E.hk b u e n, E.gk, E.gn, E.ln, E.sn, E.sl⟩
theorem Ext.off (E : Ext pa G G1 H H1 σ s s1) {a : Addr} {o : HO} (g : G a = none) (h : H a = some o) (n : ¬ OwnAt σ s a) : G1 a = none := by
  cases z : G1 a with
  | none => rfl
  | some u =>
    rcases E.gn a u z with q | q | q
    · rw [g] at q; cases q
    · rw [h] at q; cases q
    · exact (n q).elim
theorem own_wipe {vs : List Nat} {a : Addr} (h : OwnAt (L2.wipe σ vs) (s.wipe vs) a) : OwnAt σ s a := by
  obtain ⟨j, d, e1, e2⟩ := h
  have m : j ∉ vs := fun m => wipe_mem m e1
  rw [wipe_not m] at e1
  rw [wipeV_not m] at e2
  exact ⟨j, d, e1, e2⟩
theorem tTs_of {ifs : IEs} {b : Bool} {Q : Bool → Hp → Prop} (S0 : Sim pa H0 G0 G σ H s) (e : evalAll ifs s = some (b, s1)) (k : ∀ H1 G1, Sim pa H0 G0 G1 σ H1 s1 → Ext pa G G1 H H1 σ s s1 → Q b H1) : tTs ifs σ H Q := by
  cases ifs with
  | nil =>
    rw [evalAll] at e; cases e
    exact k H G S0 .refl
  | cons e1 es =>
    rw [evalAll] at e
    exact tQ_of S0 e k
end

theorem lc_ok (K : PySem.W.Frag) (elt : IE) (tg : Tr) (src : Sr) (ifs : IEs) (hb : src.pairs = true → tg.isT = true) {σ : L2.St} {H : Hp} {Q : VK} (h : tI (.lc elt tg src ifs) σ H Q) :
    tLc (tSr src) (tTr K tg) (tTs ifs) (tI elt) tg.slots σ H Q := by
  obtain ⟨pa, H0, G0, G, s, d, t, s2, S0, e, k⟩ := h
  rw [evalE] at e
  obtain ⟨⟨⟨items, t0⟩, s1⟩, es, e⟩ := obind e
  obtain ⟨⟨ds, s3⟩, el, e⟩ := obind e
  cases e
  unfold lcRun at el
  split at el
  case isFalse => cases el
  rename_i cond
  obtain ⟨un, lenb⟩ := cond
  obtain ⟨⟨ds', sE⟩, eg, e⟩ := obind el
  cases e
  refine ⟨pa, H0, G0, G, s, items, t0, s1, S0, es, fun J H1 G1 v d S1 E1 R1 N1 ok D hD => ?_⟩
  obtain ⟨Gd, Y, w, hg, hy⟩ := ok.1
  obtain ⟨n1, n2, n3, n4⟩ := S1.none0 hD
  refine lc_it w (fun i H' => ∃ G' acc done rest s', Sim pa H0 G0 G' (L2.wipe σ tg.slots) H' s' ∧ Ext pa G1 G' H1 H' (L2.wipe σ tg.slots) (s1.wipe tg.slots) s' ∧ H' D = some (.lst acc) ∧ Rps pa G' acc done ∧ G' D = none ∧
    lcGo (evalAll ifs) (evalE elt) tg (items.drop i) s' = some (rest, sE) ∧ done ++ rest = ds ∧ done.length ≤ i ∧ ∀ j, j ∈ tg.slots → ∀ p, s'.sl[j]? ≠ some (some p)) ?_ ?_ ?_ ?_
  · refine ⟨G1, [], [], ds, s1.wipe tg.slots, (S1.wipe _).write n2 n1 n3 (fun z => n4 (own_wipe z)), Ext.grow (.upd hD), upd_same, .nil, n2, eg, rfl, Nat.le_refl _, fun j hj p => wipe_mem hj⟩
  · rintro i H' _ ⟨G', acc, done, rest, s', S', E', _⟩
    exact hg H' E'.hk
  · rintro i x H' H'' hi ⟨G', acc, done, rest, s', S', E', hacc, ra, gD, ego, hds, hl, hin⟩ y
    have noOwn : ¬ OwnAt (L2.wipe σ tg.slots) s' D := fun z => n4 (own_wipe (E'.own z))
    obtain ⟨d, hd, res⟩ := hy i H' x H'' hi (hg H' E'.hk) y
    have edrop : items.drop i = d :: items.drop (i + 1) := by
      obtain ⟨hlt, e⟩ := List.getElem?_eq_some_iff.mp hd
      rw [List.drop_eq_getElem_cons hlt, e]
    rw [edrop, lcGo] at ego
    obtain ⟨sb, eb, ego⟩ := obind ego
    obtain ⟨⟨b, sc⟩, ec, ego⟩ := obind ego
    dsimp only at ego
    refine item_ok K hb S' (res.mono E'.gk) eb fun Gb σ2 Eb S2 l2 out inn ln => ?_
    have hw : L2.wipe σ2 tg.slots = L2.wipe σ tg.slots := wipeV_eq (by rw [l2, L2.wipe_length]) fun j hj => (out j hj).1.trans (wipeV_not hj)
    refine ⟨hw, tTs_of S2 ec fun H3 Gc Sc Ec => ?_⟩
    cases b with
    | false =>
      rw [if_neg (by decide)] at ego ⊢
      have Sw := Sc.wipe tg.slots
      rw [hw] at Sw
      have Es := Ec.scope ln (fun j hj => ⟨(out j hj).2, (out j hj).1⟩) inn hin
      have Et := Eb.trans Sw Es
      refine ⟨Gc, acc, done, rest, sc.wipe tg.slots, Sw, E'.trans Sw Et, Et.hk D _ hacc n3, ra.mono Et.gk, Et.off gD hacc noOwn, ego, hds, by omega, fun j hj p => wipe_mem hj⟩
    | true =>
      rw [if_pos rfl] at ego ⊢
      obtain ⟨⟨⟨d2, t2⟩, sd⟩, ed, ego⟩ := obind ego
      obtain ⟨⟨ds2, s4⟩, e4, ego⟩ := obind ego
      cases ego
      refine tV_of Sc ed fun y2 H4 Gd2 Sd Ed Rd Nd => ?_
      obtain ⟨Gk, Sk, Ek, _, _, rp⟩ := Rd.keep Sd Ed Nd
      have Sw := Sk.wipe tg.slots
      rw [hw] at Sw
      have Es := (Ec.trans Sk Ek).scope ln (fun j hj => ⟨(out j hj).2, (out j hj).1⟩) inn hin
      have Et := Eb.trans Sw Es
      have hacc4 := Et.hk D _ hacc n3
      have noOwn4 : ¬ OwnAt (L2.wipe σ tg.slots) ((sd.keep t2).wipe tg.slots) D := fun z => noOwn (Et.own z)
      have gD4 := Et.off gD hacc noOwn
      refine ⟨acc, hacc4, by rw [ra.len]; omega, Gk, acc ++ [y2], done ++ [d2], ds2, (sd.keep t2).wipe tg.slots, Sw.write gD4 n1 n3 noOwn4, (E'.trans Sw Et).updNew hD, upd_same, (ra.mono Et.gk).app (.cons rp .nil), gD4, e4, by rw [List.append_assoc]; exact hds, by rw [List.length_append]; simp; omega, fun j hj p => wipe_mem hj⟩
  · rintro H' ⟨G', acc, done, rest, s', S', E', hacc, ra, gD, ego, hds, hl, hin⟩
    rw [List.drop_length, lcGo] at ego
    cases ego
    rw [List.append_nil] at hds
    subst hds
    obtain ⟨Sr, Er⟩ := S1.restore un E' S'
    exact k (.ref D) H' G' Sr (E1.trans Sr Er) ⟨D, acc, done, rfl, rfl, hacc, ra, gD, n1, n3, fun z => n4 (Er.own z)⟩ fun _ a e => by
      cases e
      exact E1.back hD S1
end Fs

set_option Elab.async false
set_option linter.all false
set_option maxRecDepth 100000
set_option maxHeartbeats 4000000
namespace Fs
open PySem L2

def isn : D → Bool
  | .none => true
  | _ => false
theorem isnon {pa : PA} {G H : Hp} {v : V} {d : D} (r : RpT pa G H v d) : decide (v = .non) = isn d := by
  cases d with
  | none => rw [r.non]; rfl
  | bool b => rw [r.bl]; rfl
  | int b => rw [r.int]; rfl
  | str b => rw [r.str]; rfl
  | list b => obtain ⟨a, xs, rfl, _⟩ := r.lst; rfl
  | tuple b => obtain ⟨a, xs, rfl, _⟩ := r.tup; rfl
  | dict b => obtain ⟨a, rfl⟩ := r.dicR; rfl
theorem never {X : Cx} {e : Expr} {t : TE} (h : ∀ σ H Q, ¬ t σ H Q) : PE X e t := ⟨fun _ _ _ _ _ _ q => (h _ _ _ q).elim⟩
theorem neverV {X : Cx} {e : Expr} {f : Ev} (h : ∀ s, f s = none) : PE X e (tV f) := never fun σ H Q q => by
  obtain ⟨_, _, _, _, s, _, _, _, _, e, _⟩ := q
  rw [h s] at e; cases e
theorem neverW {X : Cx} {e : Expr} {f : S → Option (Bool × S)} (h : ∀ s, f s = none) : PW X e (tQ f) := ⟨fun _ _ _ σ H Q _ q => by
  obtain ⟨_, _, _, _, s, _, _, _, e, _⟩ := q
  rw [h s] at e; cases e⟩
theorem boolD_some {x : Option ((D × Tg) × S)} {b : Bool} {s : S} (h : boolD x = some (b, s)) : ∃ t, x = some ((.bool b, t), s) := by
  unfold boolD at h
  obtain ⟨⟨⟨d, t⟩, s2⟩, e1, e2⟩ := Option.bind_eq_some_iff.mp h
  dsimp only at e2
  split at e2
  · cases e2; exact ⟨t, e1⟩
  · cases e2
theorem optI_inv {o : Option D} {i : Option Int} (h : optI o = some i) : o = i.map .int := by
  unfold optI at h
  split at h
  · cases h; rfl
  · cases h; rfl
  · cases h
theorem own_snd (N : List Str) (is : List Nat) : (ownOf N is).map (·.2) = is := by
  unfold ownOf
  rw [List.map_map]
  exact List.map_id is

section
variable {pa : PA} {H0 G0 G G1 G2 H H1 H2 : Hp} {σ : L2.St} {s s1 s2 : S} {d d1 d2 : D} {t t1 t2 : Tg}
theorem nofz {v : V} : NewT H v .fz := fun z => by cases z
end

theorem pt_ifE {X : Cx} {c a b : Expr} {pos : Pos} {tc ta tb : TT} (hc : PT X c tc) (ha : PT X a ta) (hb : PT X b tb) :
    PT X (.IfExp c a b pos) (fun σ H Q => tc σ H fun k H1 => if k = true then ta σ H1 Q else tb σ H1 Q) := by
  refine ⟨fun pins s σ H Q I h => ?_⟩
  refine PyProof.Rows.isTrue_IfExp (thn (hc.run pins s σ H _ I h) fun d s1 ⟨H1, I1, q1⟩ => ?_)
  cases d with
  | true => exact ha.run pins s1 σ H1 Q I1 q1
  | false => exact hb.run pins s1 σ H1 Q I1 q1

section
variable {X : Cx} {N : List Str} {sc : Scope} {k : Nat}
theorem Sd.cmpLike {e : IE} {E : Em} {t : TE} (pe : PE X (emE N e E).1 t) (pt : PT X (emE N e E).1 (tB t)) (key : ∀ σ H Q, tI e σ H Q → t σ H Q) : Sd X N k e E :=
  ⟨imp pe key, PT.imp pt fun σ H Q q => key _ _ _ (tQ_tB q)⟩
theorem Cd.blk (C : Cd X N sc k) (sp : Scope) (s : Shared) (H : Hp) (A : Addr) (cl : List (Str × Addr)) (fp : List Addr) : Cd (X.blk s H sp (compEnvC sp cl A X.env) fp) N (relS sp sc) k :=
  ⟨C.hN, C.nd, by show relS sp X.env.scope = _; rw [C.hs], C.calm, C.room, C.gd, C.bl⟩

theorem key_call {x : Str} {F : Fn} {es : IEs} {σ : L2.St} {H : Hp} {Q : VK} (h : tI (.call x F es) σ H Q) : tAs es σ H fun vs H1 => spF F es.len vs H1 Q := by
  obtain ⟨pa, H0, G0, G, s, d, t, s2, S0, e, kk⟩ := h
  rw [evalE] at e
  obtain ⟨⟨xs, s1⟩, e1, e⟩ := obind e
  obtain ⟨⟨⟨d', fr⟩, pn⟩, e2, e⟩ := obind e
  dsimp only at e e2
  refine ⟨pa, H0, G0, G, s, xs, s1, S0, e1, fun vs H1 G1 S1 E1 Rs => ?_⟩
  obtain ⟨G', S', E', k', rps⟩ := Rs.keep S1 E1
  have pn' : PenAt pa G' H1 s1.pn := by have := S'.pen; rw [keeps_pn] at this; exact this
  refine ⟨pa, G', xs.map (·.1), s1.pn, d', fr, pn, by rw [List.length_map]; exact ev_len es e1, S'.sub, pn', rps, e2, fun v H2 G2 kept g1 g2 nw hp res => ?_⟩
  by_cases z : scal d' = true
  · rw [if_pos z] at e
    cases e
    have fr0 : fr = false := by
      cases fr with
      | false => rfl
      | true =>
        rw [if_pos rfl] at res
        obtain ⟨_, _, _, _, rfl, _⟩ := res
        cases z
    subst fr0
    rw [if_neg (by decide)] at res
    obtain ⟨S2, E2⟩ := S1.call kept .refl (Sub.keptPen S1 kept) (fun _ _ h => .inl h) (hp.back S1.pen (k'.trans g1))
    exact kk v H2 G1 S2 (E1.trans S2 E2) (Rp.scal_mono z res) nofz
  · rw [if_neg z] at e
    cases e
    obtain ⟨S2, E2⟩ := S'.call kept g1 g2 nw hp
    refine kk v H2 G2 S2 (E'.trans S2 E2) ?_ ?_
    · cases fr with
      | false => rw [if_neg (by decide)] at res; exact res
      | true =>
        rw [if_pos rfl] at res
        obtain ⟨a, ys, es', rfl, rfl, ha, ha2, r, g⟩ := res
        obtain ⟨n1, n2, n3, n4⟩ := S'.none0 ha
        exact ⟨a, ys, es', rfl, rfl, ha2, r, g, n1, n3, n4⟩
    · cases fr with
      | false => exact nofz
      | true =>
        rw [if_pos rfl] at res
        obtain ⟨a, ys, es', rfl, rfl, ha, ha2, r, g⟩ := res
        intro _ b e
        cases e
        exact E1.back ha S1
theorem one_items {x y : D} {p : Option Pn} {r : D × Option Pn} (h : oneF x y p = some r) : ∃ ys, y = .list ys ∨ y = .tuple ys := by
  unfold oneF at h
  split at h
  · obtain ⟨ys, h1, _⟩ := Option.bind_eq_some_iff.mp h
    unfold itemsD at h1
    split at h1
    · exact ⟨_, .inl rfl⟩
    · exact ⟨_, .inr rfl⟩
    · cases h1
  · cases h
theorem RT.npen0 {pa : PA} {H0 G0 G H : Hp} {σ : L2.St} {s : S} {v : V} {d : D} {t : Tg} (S1 : Sim pa H0 G0 G σ H s) (r : RT pa H0 G σ H s v d t) {a : Addr} (e : v = .ref a) (hd : ∃ ds, d = .list ds ∨ d = .tuple ds) : ¬ pen1 pa a := by
  obtain ⟨ds, hd⟩ := hd
  exact RT.npen S1 r e hd
theorem key_one {x : Str} {a b : IE} {σ : L2.St} {H : Hp} {Q : VK} (h : tI (.one x a b) σ H Q) : tI a σ H fun v H1 => tI b σ H1 fun w H2 => spOne [v, w] H2 Q := by
  obtain ⟨pa, H0, G0, G, s, d, t, s3, S0, e, kk⟩ := h
  rw [evalE] at e
  obtain ⟨⟨⟨d1, t1⟩, s1⟩, e1, e⟩ := obind e
  obtain ⟨⟨⟨d2, t2⟩, s2⟩, e2, e⟩ := obind e
  obtain ⟨⟨d3, pn⟩, e3, e⟩ := obind e
  cases e
  refine two S0 e1 e2 fun v w H2 G2 S2 E2 R1 N1 R2 N2 => ⟨pa, G2, v, w, d1, d2, s2.pn, _, pn, rfl, S2.sub, S2.pen, R1.top S2, R2.top S2, fun b eb => RT.npen0 S2 R2 eb (one_items e3), e3, fun u H3 kept hp r => ?_⟩
  obtain ⟨S3, E3⟩ := S2.call kept .refl (Sub.keptPen S2 kept) (fun _ _ h => .inl h) hp
  exact kk u H3 G2 S3 (E2.trans S3 E3) r nofz
theorem key_blt {f : Bf} {es : IEs} {σ : L2.St} {H : Hp} {Q : VK} (h : tI (.blt f es) σ H Q) : tAs es σ H fun vs H1 => rBlt f vs H1 Q := by
  obtain ⟨pa, H0, G0, G, s, d, t, s2, S0, e, kk⟩ := h
  rw [evalE] at e
  obtain ⟨⟨xs, s1⟩, e1, e⟩ := obind e
  obtain ⟨⟨d', fr⟩, e2, e⟩ := obind e
  cases e
  exact ⟨pa, H0, G0, G, s, xs, _, S0, e1, fun vs H1 G1 S1 E1 Rs => ⟨pa, G1, xs.map (·.1), _, fr, S1.sub, Rs.tops S1, e2, fin S1 E1 kk⟩⟩
/-- the single argument of a call -/
theorem as_one {a : IE} {σ : L2.St} {H : Hp} {R : List V → Hp → Prop} (h : tAs (.cons a .nil) σ H R) : tI a σ H fun v H1 => R [v] H1 := by
  obtain ⟨pa, H0, G0, G, s, xs, s1, S0, e, kk⟩ := h
  rw [evalEs] at e
  obtain ⟨⟨x, s2⟩, e1, e⟩ := obind e
  obtain ⟨⟨xs', s3⟩, e2, e⟩ := obind e
  rw [evalEs] at e2
  cases e2
  cases e
  exact tV_of S0 e1 fun v H1 G1 S1 E1 R1 N1 => kk [v] H1 G1 S1 E1 ⟨R1, N1, fun _ p hp => by simp at hp, trivial⟩
theorem key_and {e : IE} {es : IEs} (hn : es ≠ .nil) {σ : L2.St} {H : Hp} {Q : VK} (h : tV (evalAnd (.cons e es)) σ H Q) : tAndV (tI e) (tV (evalAnd es)) σ H Q := by
  obtain ⟨pa, H0, G0, G, s, d, t, s2, S0, ev, kk⟩ := h
  rw [evalAnd] at ev
  obtain ⟨⟨b, s1⟩, e1, ev⟩ := obind ev
  obtain ⟨t1, e1⟩ := boolD_some e1
  dsimp only at ev
  refine tV_of S0 e1 fun v H1 G1 S1 E1 R1 N1 => ⟨b, (R1.top S1).bl, ?_⟩
  cases es with
  | nil => exact absurd rfl hn
  | cons e2 es2 =>
    dsimp only at ev
    cases b with
    | true =>
      rw [if_pos rfl] at ev ⊢
      exact tV_of S1 ev fun w H2 G2 S2 E2 R2 N2 => kk w H2 G2 S2 (E1.trans S2 E2) R2 fun z a e => E1.back (N2 z a e) S1
    | false =>
      rw [if_neg (by decide)] at ev ⊢
      cases ev
      exact kk (.bl false) H1 G1 S1 E1 (.bl false) nofz
theorem key_or {e : IE} {es : IEs} (hn : es ≠ .nil) {σ : L2.St} {H : Hp} {Q : VK} (h : tV (evalOr (.cons e es)) σ H Q) : tOrV (tI e) (tV (evalOr es)) σ H Q := by
  obtain ⟨pa, H0, G0, G, s, d, t, s2, S0, ev, kk⟩ := h
  rw [evalOr] at ev
  obtain ⟨⟨b, s1⟩, e1, ev⟩ := obind ev
  obtain ⟨t1, e1⟩ := boolD_some e1
  dsimp only at ev
  refine tV_of S0 e1 fun v H1 G1 S1 E1 R1 N1 => ⟨b, (R1.top S1).bl, ?_⟩
  cases es with
  | nil => exact absurd rfl hn
  | cons e2 es2 =>
    dsimp only at ev
    cases b with
    | false =>
      rw [if_neg (by decide)] at ev ⊢
      exact tV_of S1 ev fun w H2 G2 S2 E2 R2 N2 => kk w H2 G2 S2 (E1.trans S2 E2) R2 fun z a e => E1.back (N2 z a e) S1
    | true =>
      rw [if_pos rfl] at ev ⊢
      cases ev
      exact kk (.bl true) H1 G1 S1 E1 (.bl true) nofz
theorem key_andQ {e : IE} {es : IEs} (hn : es ≠ .nil) {σ : L2.St} {H : Hp} {Q : Bool → Hp → Prop} (h : tQ (fun s => boolD (evalAnd (.cons e es) s)) σ H Q) : tAnd (tQ fun s => boolD (evalE e s)) (tQ fun s => boolD (evalAnd es s)) σ H Q := by
  obtain ⟨pa, H0, G0, G, s, b2, s2, S0, ev, kk⟩ := h
  obtain ⟨t2, ev⟩ := boolD_some ev
  rw [evalAnd] at ev
  obtain ⟨⟨b, s1⟩, e1, ev⟩ := obind ev
  dsimp only at ev
  refine tQ_of S0 e1 fun H1 G1 S1 E1 => ?_
  cases es with
  | nil => exact absurd rfl hn
  | cons e2 es2 =>
    dsimp only at ev
    cases b with
    | true =>
      rw [if_pos rfl] at ev ⊢
      exact tQ_of S1 (by rw [ev]; rfl) fun H2 G2 S2 E2 => kk H2 G2 S2 (E1.trans S2 E2)
    | false =>
      rw [if_neg (by decide)] at ev ⊢
      cases ev
      exact kk H1 G1 S1 E1
theorem key_orQ {e : IE} {es : IEs} (hn : es ≠ .nil) {σ : L2.St} {H : Hp} {Q : Bool → Hp → Prop} (h : tQ (fun s => boolD (evalOr (.cons e es) s)) σ H Q) : tOr (tQ fun s => boolD (evalE e s)) (tQ fun s => boolD (evalOr es s)) σ H Q := by
  obtain ⟨pa, H0, G0, G, s, b2, s2, S0, ev, kk⟩ := h
  obtain ⟨t2, ev⟩ := boolD_some ev
  rw [evalOr] at ev
  obtain ⟨⟨b, s1⟩, e1, ev⟩ := obind ev
  dsimp only at ev
  refine tQ_of S0 e1 fun H1 G1 S1 E1 => ?_
  cases es with
  | nil => exact absurd rfl hn
  | cons e2 es2 =>
    dsimp only at ev
    cases b with
    | false =>
      rw [if_neg (by decide)] at ev ⊢
      exact tQ_of S1 (by rw [ev]; rfl) fun H2 G2 S2 E2 => kk H2 G2 S2 (E1.trans S2 E2)
    | true =>
      rw [if_pos rfl] at ev ⊢
      cases ev
      exact kk H1 G1 S1 E1
theorem key_and1 {e : IE} {σ : L2.St} {H : Hp} {Q : VK} (h : tV (evalAnd (.cons e .nil)) σ H Q) : tI e σ H Q := by
  obtain ⟨pa, H0, G0, G, s, d, t, s2, S0, ev, kk⟩ := h
  rw [evalAnd] at ev
  obtain ⟨⟨b, s1⟩, e1, ev⟩ := obind ev
  obtain ⟨t1, e1⟩ := boolD_some e1
  cases ev
  exact tV_of S0 e1 fun v H1 G1 S1 E1 R1 N1 => kk v H1 G1 S1 E1 (by rw [(R1.top S1).bl]; exact .bl b) nofz
theorem key_or1 {e : IE} {σ : L2.St} {H : Hp} {Q : VK} (h : tV (evalOr (.cons e .nil)) σ H Q) : tI e σ H Q := by
  obtain ⟨pa, H0, G0, G, s, d, t, s2, S0, ev, kk⟩ := h
  rw [evalOr] at ev
  obtain ⟨⟨b, s1⟩, e1, ev⟩ := obind ev
  obtain ⟨t1, e1⟩ := boolD_some e1
  cases ev
  exact tV_of S0 e1 fun v H1 G1 S1 E1 R1 N1 => kk v H1 G1 S1 E1 (by rw [(R1.top S1).bl]; exact .bl b) nofz
theorem key_and1Q {e : IE} {σ : L2.St} {H : Hp} {Q : Bool → Hp → Prop} (h : tQ (fun s => boolD (evalAnd (.cons e .nil) s)) σ H Q) : tQ (fun s => boolD (evalE e s)) σ H Q := by
  obtain ⟨pa, H0, G0, G, s, b2, s2, S0, ev, kk⟩ := h
  obtain ⟨t2, ev⟩ := boolD_some ev
  rw [evalAnd] at ev
  obtain ⟨⟨b, s1⟩, e1, ev⟩ := obind ev
  cases ev
  exact tQ_of S0 e1 kk
theorem key_or1Q {e : IE} {σ : L2.St} {H : Hp} {Q : Bool → Hp → Prop} (h : tQ (fun s => boolD (evalOr (.cons e .nil) s)) σ H Q) : tQ (fun s => boolD (evalE e s)) σ H Q := by
  obtain ⟨pa, H0, G0, G, s, b2, s2, S0, ev, kk⟩ := h
  obtain ⟨t2, ev⟩ := boolD_some ev
  rw [evalOr] at ev
  obtain ⟨⟨b, s1⟩, e1, ev⟩ := obind ev
  cases ev
  exact tQ_of S0 e1 kk
end
end Fs

set_option Elab.async false
set_option linter.all false
set_option maxRecDepth 100000
set_option maxHeartbeats 4000000
namespace Fs
open PySem L2
section
variable {σ : L2.St} {H : Hp} {Q : VK}
theorem key_bin {op : Operator} {a b : IE} (h : tI (.bin op a b) σ H Q) : tOp (rD2 op) (tI a) (tI b) σ H Q := by
  obtain ⟨pa, H0, G0, G, s, d, t, s3, S0, e, kk⟩ := h
  rw [evalE] at e
  obtain ⟨⟨⟨d1, t1⟩, s1⟩, e1, e⟩ := obind e
  obtain ⟨⟨⟨d2, t2⟩, s2⟩, e2, e⟩ := obind e
  obtain ⟨⟨d3, fr⟩, e3, e⟩ := obind e
  cases e
  exact two S0 e1 e2 fun v w H2 G2 S2 E2 R1 N1 R2 N2 => ⟨pa, G2, d1, d2, _, fr, S2.sub, R1.top S2, R2.top S2, e3, fin S2 E2 kk⟩
theorem key_cmp {op : CmpOp} {a b : IE} (h : tI (.cmp op a b) σ H Q) : tOp (rC2 op) (tI a) (tI b) σ H Q := by
  obtain ⟨pa, H0, G0, G, s, d, t, s3, S0, e, kk⟩ := h
  rw [evalE] at e
  obtain ⟨⟨⟨d1, t1⟩, s1⟩, e1, e⟩ := obind e
  obtain ⟨⟨⟨d2, t2⟩, s2⟩, e2, e⟩ := obind e
  obtain ⟨c, e3, e⟩ := obind e
  cases e
  exact two S0 e1 e2 fun v w H2 G2 S2 E2 R1 N1 R2 N2 => ⟨pa, G2, d1, d2, c, S2.sub, R1.top S2, R2.top S2, e3, kk _ H2 G2 S2 E2 (.bl c) nofz⟩
theorem key_cmp2 {o p : CmpOp} {a b c : IE} (h : tI (.cmp2 o p a b c) σ H Q) : tChain (rC2 o) (rC2 p) (tI a) (tI b) (tI c) σ H Q := by
  obtain ⟨pa, H0, G0, G, s, d, t, s3, S0, e, kk⟩ := h
  rw [evalE] at e
  obtain ⟨⟨⟨d1, t1⟩, s1⟩, e1, e⟩ := obind e
  obtain ⟨⟨⟨d2, t2⟩, s2⟩, e2, e⟩ := obind e
  obtain ⟨b1, e3, e⟩ := obind e
  refine two S0 e1 e2 fun v w H2 G2 S2 E2 R1 N1 R2 N2 => ⟨pa, G2, d1, d2, b1, S2.sub, R1.top S2, R2.top S2, e3, b1, rfl, ?_⟩
  cases b1 with
  | true =>
    rw [if_pos rfl] at e ⊢
    obtain ⟨⟨⟨d3, t3⟩, s4⟩, e4, e⟩ := obind e
    obtain ⟨m, e5, e⟩ := obind e
    cases e
    exact tV_of S2 e4 fun z H3 G3 S3 E3 R3 N3 => ⟨pa, G3, d2, d3, m, S3.sub, (R2.ext S3 E3).top S3, R3.top S3, e5, kk _ H3 G3 S3 (E2.trans S3 E3) (.bl m) nofz⟩
  | false =>
    rw [if_neg (by decide)] at e ⊢
    cases e
    exact kk _ H2 G2 S2 E2 (.bl false) nofz
theorem key_isN {a : IE} (h : tI (.isN a) σ H Q) : tIsN (tI a) σ H Q := by
  obtain ⟨pa, H0, G0, G, s, d, t, s3, S0, e, kk⟩ := h
  rw [evalE] at e
  obtain ⟨⟨⟨d1, t1⟩, s1⟩, e1, e⟩ := obind e
  cases e
  refine tV_of S0 e1 fun v H1 G1 S1 E1 R1 N1 => ?_
  rw [isnon (R1.top S1)]
  cases d1 <;> exact kk _ H1 G1 S1 E1 (.bl _) nofz
theorem key_notN {a : IE} (h : tI (.notN a) σ H Q) : tNotN (tI a) σ H Q := by
  obtain ⟨pa, H0, G0, G, s, d, t, s3, S0, e, kk⟩ := h
  rw [evalE] at e
  obtain ⟨⟨⟨d1, t1⟩, s1⟩, e1, e⟩ := obind e
  cases e
  refine tV_of S0 e1 fun v H1 G1 S1 E1 R1 N1 => ?_
  rw [isnon (R1.top S1)]
  cases d1 <;> exact kk _ H1 G1 S1 E1 (.bl _) nofz
theorem key_neg {a : IE} (h : tI (.neg a) σ H Q) : tUn (rU fun i => .int (-i)) (tI a) σ H Q := by
  obtain ⟨pa, H0, G0, G, s, d, t, s3, S0, e, kk⟩ := h
  rw [evalE] at e
  obtain ⟨⟨⟨d1, t1⟩, s1⟩, e1, e⟩ := obind e
  dsimp only at e
  split at e
  · cases e
    exact tV_of S0 e1 fun v H1 G1 S1 E1 R1 N1 => ⟨_, (R1.top S1).int, kk _ H1 G1 S1 E1 (.int _) nofz⟩
  · cases e
theorem key_not {a : IE} (h : tI (.not a) σ H Q) : tNotV (tI a) σ H Q := by
  obtain ⟨pa, H0, G0, G, s, d, t, s3, S0, e, kk⟩ := h
  rw [evalE] at e
  obtain ⟨⟨b, s1⟩, e1, e⟩ := obind e
  obtain ⟨t1, e1⟩ := boolD_some e1
  cases e
  exact tV_of S0 e1 fun v H1 G1 S1 E1 R1 N1 => ⟨b, (R1.top S1).bl, kk _ H1 G1 S1 E1 (.bl _) nofz⟩
theorem key_notQ {a : IE} {Q : Bool → Hp → Prop} (h : tQ (fun s => boolD (evalE (.not a) s)) σ H Q) : tNot (tQ fun s => boolD (evalE a s)) σ H Q := by
  obtain ⟨pa, H0, G0, G, s, c, s3, S0, e, kk⟩ := h
  obtain ⟨t, e⟩ := boolD_some e
  rw [evalE] at e
  obtain ⟨⟨b, s1⟩, e1, e⟩ := obind e
  cases e
  exact tQ_of S0 e1 kk
theorem key_ite {c a b : IE} (h : tI (.ite c a b) σ H Q) : tIf (tQ fun s => boolD (evalE c s)) (tI a) (tI b) σ H Q := by
  obtain ⟨pa, H0, G0, G, s, d, t, s3, S0, e, kk⟩ := h
  rw [evalE] at e
  obtain ⟨⟨k, s1⟩, e1, e⟩ := obind e
  dsimp only at e
  refine tQ_of S0 e1 fun H1 G1 S1 E1 => ?_
  cases k with
  | true =>
    rw [if_pos rfl] at e ⊢
    exact tV_of S1 e fun w H2 G2 S2 E2 R2 N2 => kk w H2 G2 S2 (E1.trans S2 E2) R2 fun z a e => E1.back (N2 z a e) S1
  | false =>
    rw [if_neg (by decide)] at e ⊢
    exact tV_of S1 e fun w H2 G2 S2 E2 R2 N2 => kk w H2 G2 S2 (E1.trans S2 E2) R2 fun z a e => E1.back (N2 z a e) S1
theorem key_iteQ {c a b : IE} {Q : Bool → Hp → Prop} (h : tQ (fun s => boolD (evalE (.ite c a b) s)) σ H Q) :
    (tQ fun s => boolD (evalE c s)) σ H fun k H1 => if k = true then (tQ fun s => boolD (evalE a s)) σ H1 Q else (tQ fun s => boolD (evalE b s)) σ H1 Q := by
  obtain ⟨pa, H0, G0, G, s, c, s3, S0, e, kk⟩ := h
  obtain ⟨t, e⟩ := boolD_some e
  rw [evalE] at e
  obtain ⟨⟨k, s1⟩, e1, e⟩ := obind e
  dsimp only at e
  refine tQ_of S0 e1 fun H1 G1 S1 E1 => ?_
  cases k with
  | true =>
    rw [if_pos rfl] at e ⊢
    exact tQ_of S1 (by rw [e]; rfl) fun H2 G2 S2 E2 => kk H2 G2 S2 (E1.trans S2 E2)
  | false =>
    rw [if_neg (by decide)] at e ⊢
    exact tQ_of S1 (by rw [e]; rfl) fun H2 G2 S2 E2 => kk H2 G2 S2 (E1.trans S2 E2)
theorem line1k {n : Nat} (h : n ≤ 1000) : n ≤ sizeLine := Nat.le_trans h (by decide)
theorem key_tup {es : IEs} (hl : es.len ≤ 1000) (h : tI (.tup es) σ H Q) : tTupF (tAs es) σ H Q := by
  obtain ⟨pa, H0, G0, G, s, d, t, s3, S0, e, kk⟩ := h
  rw [evalE] at e
  obtain ⟨⟨xs, s1⟩, e1, e⟩ := obind e
  cases e
  refine ⟨pa, H0, G0, G, s, xs, s1, S0, e1, fun vs H1 G1 S1 E1 Rs => ⟨by rw [Rs.len, ev_len es e1]; exact line1k hl, ?_⟩⟩
  obtain ⟨G', S', E', _, rps⟩ := Rs.keep S1 E1
  exact Res.tup (fun v H2 r => fin (fr := false) S' E' kk v H2 r) rps
theorem key_lst {es : IEs} (hl : es.len ≤ 1000) (h : tI (.lst es) σ H Q) : tLst (tAs es) σ H Q := by
  obtain ⟨pa, H0, G0, G, s, d, t, s3, S0, e, kk⟩ := h
  rw [evalE] at e
  obtain ⟨⟨xs, s1⟩, e1, e⟩ := obind e
  cases e
  refine ⟨pa, H0, G0, G, s, xs, s1, S0, e1, fun vs H1 G1 S1 E1 Rs => ⟨by rw [Rs.len, ev_len es e1]; exact line1k hl, fun p hp => ?_⟩⟩
  obtain ⟨G', S', E', _, rps⟩ := Rs.keep S1 E1
  exact fin (fr := true) S' E' kk _ _ (.lst hp rps)
theorem key_ix {a b : IE} (h : tI (.ix a b) σ H Q) : tOp rIxD (tI a) (tI b) σ H Q := by
  obtain ⟨pa, H0, G0, G, s, d, t, s3, S0, e, kk⟩ := h
  rw [evalE] at e
  obtain ⟨⟨⟨d1, t1⟩, s1⟩, e1, e⟩ := obind e
  obtain ⟨⟨⟨d2, t2⟩, s2⟩, e2, e⟩ := obind e
  obtain ⟨d3, e3, e⟩ := obind e
  cases e
  exact two S0 e1 e2 fun v w H2 G2 S2 E2 R1 N1 R2 N2 => ⟨pa, G2, d1, d2, _, S2.sub, R1.top S2, R2.top S2, e3, fun u r => kk u H2 G2 S2 E2 r nofz⟩
theorem key_sl {a : IE} {lo hi : IO} (h : tI (.sl a lo hi) σ H Q) : tSl rSlD (tI a) (tOo lo) (tOo hi) σ H Q := by
  obtain ⟨pa, H0, G0, G, s, d, t, s4, S0, e, kk⟩ := h
  rw [evalE] at e
  obtain ⟨⟨⟨d1, t1⟩, s1⟩, e1, e⟩ := obind e
  obtain ⟨⟨l, s2⟩, e2, e⟩ := obind e
  obtain ⟨⟨u, s3⟩, e3, e⟩ := obind e
  obtain ⟨⟨d2, fr⟩, e4, e⟩ := obind e
  cases e
  obtain ⟨l', h1, h2⟩ := Option.bind_eq_some_iff.mp (show ((optI l).bind fun l => _) = some (_, fr) from e4)
  obtain ⟨u', h3, h4⟩ := Option.bind_eq_some_iff.mp h2
  refine tV_of S0 e1 fun v H1 G1 S1 E1 R1 N1 => ⟨pa, H0, G0, G1, s1, l, s2, S1, e2, l', h1, fun H2 G2 S2 E2 => ⟨pa, H0, G0, G2, s2, u, _, S2, e3, u', h3, fun H3 G3 S3 E3 => ?_⟩⟩
  have E13 := E2.trans S3 E3
  refine ⟨pa, G3, d1, _, fr, S3.sub, (R1.ext S3 E13).top S3, ?_, fin S3 (E1.trans S3 E13) kk⟩
  rw [← optI_inv h1, ← optI_inv h3]
  exact e4
theorem key_isi {a : IE} {t : Ty5} (h : tI (.isi a t) σ H Q) : tI a σ H fun v H1 => rIs5 t [v, .ty t.ty] H1 Q := by
  obtain ⟨pa, H0, G0, G, s, d, t0, s3, S0, e, kk⟩ := h
  rw [evalE] at e
  obtain ⟨⟨⟨d1, t1⟩, s1⟩, e1, e⟩ := obind e
  obtain ⟨b, e2, e⟩ := obind e
  cases e
  exact tV_of S0 e1 fun v H1 G1 S1 E1 R1 N1 => ⟨pa, G1, v, d1, b, rfl, S1.sub, R1.top S1, e2, kk _ H1 G1 S1 E1 (.bl b) nofz⟩
/-- isinstance(x, C), x tracked -/
def rIsT (K : PySem.W.Frag) : List V → Hp → VK → Prop := fun xs H Q => ∃ (a D : Addr) (c : V) (cv : Value) (b : Bool), xs = [.ref a, c] ∧ H a = some (exT (.ref D) none a) ∧ L2.ExcC K D ∧ (∀ u, RelV c u → u = cv) ∧ PySem.W.kitOne K (.ref D) cv = some b ∧ Q (.bl b) H
theorem inst_of {h : Heap} {a D : Addr} {oe : Obj} {vs : Array Value} (e : h.get? a = some oe) (z : L2.Zc (.ref D) none oe) (f : oe.data = .fields vs) : PySem.W.InstAt h a oe D none := by
  cases oe with
  | mk c1 d1 t1 l1 =>
    obtain ⟨h1, h2⟩ := z
    cases h1
    cases h2
    cases f
    exact ⟨e, rfl, rfl, trivial⟩
theorem call_isT {X : Cx} : CallR X (.builtin "isinstance") (rIsT X.K) := by
  intro ps0 s σ H xs us Q I r h
  obtain ⟨a, D, c, cv, b, rfl, ha, C, hcv, e, q⟩ := h
  obtain ⟨⟨oe, vs, he, hz, hd⟩, _⟩ := I.hok a _ ha
  match us, r with
  | [u1, u2], .cons r1 (.cons r2 .nil) =>
    cases r1
    cases hcv _ r2
    exact PySem.W.kia_one (PySem.W.handS_kitx_exc C.hg C.hk C.hs C.hd C.ha C.hn C.ht C.hm) I.kIn (inst_of he hz hd) e (fun z => nomatch z) fun tk => ⟨.bl b, H, I.kept (t' := tk) fun _ _ z => z, rfl, q⟩
theorem isXD_some {adr : Str → Nat} {names : List Str} {sub : Str → Bool} {d : D} {b : Bool} (h : isXD adr names sub d = some b) : ∃ c, d = .dict [(.int (adr c : Nat), .str c)] ∧ c ∈ names ∧ b = sub c := by
  unfold isXD at h
  split at h
  · split at h
    · rename_i hz
      cases h
      exact ⟨_, by rw [hz.2], hz.1, rfl⟩
    · cases h
  · cases h
theorem key_isX {K : PySem.W.Frag} {x : Str} {adr : Str → Nat} {names : List Str} {sub : Str → Bool} {a : IE} {c : V} {cv : Value} (hcv : ∀ u, RelV c u → u = cv) (hk : ∀ n, n ∈ names → L2.ExcC K (adr n) ∧ PySem.W.kitOne K (.ref (adr n)) cv = some (sub n))
    (h : tI (.isX x adr names sub a) σ H Q) : tI a σ H fun v H1 => rIsT K [v, c] H1 Q := by
  obtain ⟨pa, H0, G0, G, s, d, t0, s3, S0, e, kk⟩ := h
  rw [evalE] at e
  obtain ⟨⟨⟨d1, t1⟩, s1⟩, e1, e⟩ := obind e
  obtain ⟨b, e2, e⟩ := obind e
  cases e
  refine tV_of S0 e1 fun v H1 G1 S1 E1 R1 N1 => ?_
  obtain ⟨n, ed, hn, rfl⟩ := isXD_some e2
  have ed : d1 = .dict [(.int (adr n : Nat), .str n)] := ed
  subst ed
  obtain ⟨p, D, rfl, hC, hp⟩ := (R1.top S1).exc
  obtain rfl : D = adr n := (Int.ofNat.inj hC).symm
  exact ⟨p, _, c, cv, _, rfl, S1.sub _ _ hp, (hk n hn).1, hcv, (hk n hn).2, kk _ H1 G1 S1 E1 (.bl _) nofz⟩
theorem key_cons {e : IE} {es : IEs} {R : List V → Hp → Prop} (h : tAs (.cons e es) σ H R) : tCons (tI e) (tAs es) σ H R := by
  obtain ⟨pa, H0, G0, G, s, xs, s3, S0, ev, kk⟩ := h
  rw [evalEs] at ev
  obtain ⟨⟨⟨d, t⟩, s1⟩, e1, ev⟩ := obind ev
  obtain ⟨⟨ys, s2⟩, e2, ev⟩ := obind ev
  cases ev
  refine tV_of S0 e1 fun v H1 G1 S1 E1 R1 N1 => ⟨pa, H0, G0, G1, s1, ys, _, S1, e2, fun vs H2 G2 S2 E2 Rs => ?_⟩
  refine kk (v :: vs) H2 G2 S2 (E1.trans S2 E2) ⟨R1.ext S2 E2, N1, fun z p hp zp ep => ?_, Rs.weak fun a z => E1.back z S1⟩
  dsimp only at z
  subst z
  obtain ⟨a, xs, ds, rfl, _, ha, _⟩ := R1
  have := (Rs.new p hp).1 zp a ep
  rw [ha] at this; cases this
theorem tV.mono {f : Ev} {Q' : VK} (h : tV f σ H Q) (k : ∀ v H1, Q v H1 → Q' v H1) : tV f σ H Q' := by
  obtain ⟨pa, H0, G0, G, s, d, t, s1, S0, e, kk⟩ := h
  exact ⟨pa, H0, G0, G, s, d, t, s1, S0, e, fun v H1 G1 S1 E1 R1 N1 => k v H1 (kk v H1 G1 S1 E1 R1 N1)⟩
theorem key_sset {a : IE} (K : PySem.W.Frag) (h : tI (.blt .sset (.cons a .nil)) σ H Q) : rSortSet K (tI a) σ H Q := by
  refine (as_one (key_blt h)).mono fun v H1 q => ?_
  obtain ⟨pa, G, ds, d, fr, gh, rs, e, k⟩ := q
  unfold bltD at e
  split at e
  all_goals try (first | (cases e; done) | (rename_i z _; cases z; done) | (rename_i z; cases z; done))
  all_goals
    obtain ⟨ns, eb, e⟩ := Option.bind_eq_some_iff.mp e
    split at e
  · rename_i hz
    cases e
    obtain ⟨v', ev, rv⟩ := rs.one
    cases ev
    obtain ⟨b, xs, rfl, hb, ra⟩ := rv.lst
    rw [ra.ints eb] at hb
    exact ⟨b, ns, rfl, .inl (.of hb), hz, fun p hp => k _ _ (.lst hp (Rps.ofInts _))⟩
  · cases e
  · rename_i hz
    cases e
    obtain ⟨v', ev, rv⟩ := rs.one
    cases ev
    obtain ⟨b, xs, rfl, hb, ra⟩ := rv.tup
    rw [ra.ints eb] at hb
    exact ⟨b, ns, rfl, .inr (hb.up gh).sq, hz, fun p hp => k _ _ (.lst hp (Rps.ofInts _))⟩
  · cases e
theorem key_lrange {a : IE} (h : tI (.blt .lrange (.cons a .nil)) σ H Q) : tLstRg (tRg1 (tI a)) σ H Q := by
  refine (as_one (key_blt h)).mono fun v H1 q => ?_
  obtain ⟨pa, G, ds, d, fr, gh, rs, e, k⟩ := q
  unfold bltD at e
  split at e
  all_goals try (first | (cases e; done) | (rename_i z _; cases z; done) | (rename_i z; cases z; done))
  rename_i n _
  split at e
  · rename_i hz
    cases e
    obtain ⟨v', ev, rv⟩ := rs.one
    cases ev
    refine ⟨n, rv.int, .of_le (by omega) hz.2 (by omega) hz.1, fun p hp => ?_⟩
    have e : ∀ n : Int, rgV 0 n = ((List.range n.toNat).map fun i => ((i : Nat) : Int)).map V.int := fun n => by
      unfold rgV
      rw [List.map_map]
      simp [Function.comp_def]
    rw [e]
    refine k _ _ (.lst hp ?_)
    have := Rps.ofInts (pa := pa) (G := G) ((List.range n.toNat).map fun i => ((i : Nat) : Int))
    rw [List.map_map (f := fun i : Nat => (i : Int)) (g := PyData.int)] at this
    exact this
  · cases e

theorem key_trange {a : IE} (h : tI (.blt .trange (.cons a .nil)) σ H Q) : tTupRgF (tRg1 (tI a)) σ H Q := by
  refine (as_one (key_blt h)).mono fun v H1 q => ?_
  obtain ⟨pa, G, ds, d, fr, gh, rs, e, k⟩ := q
  unfold bltD at e
  split at e
  all_goals try (first | (cases e; done) | (rename_i z _; cases z; done) | (rename_i z; cases z; done))
  rename_i n _
  split at e
  · rename_i hz
    cases e
    obtain ⟨v', ev, rv⟩ := rs.one
    cases ev
    refine ⟨n, rv.int, .of_le (by omega) hz.2 (by omega) hz.1, ?_⟩
    have e : ∀ n : Int, rgV 0 n = ((List.range n.toNat).map fun i => ((i : Nat) : Int)).map V.int := fun n => by
      unfold rgV
      rw [List.map_map]
      simp [Function.comp_def]
    rw [e]
    refine Res.tup k ?_
    have := Rps.ofInts (pa := pa) (G := G) ((List.range n.toNat).map fun i => ((i : Nat) : Int))
    rw [List.map_map (f := fun i : Nat => (i : Int)) (g := PyData.int)] at this
    exact this
  · cases e

theorem isPen_at {s : S} {i : Nat} (h : isPen (rd s i) = true) : s.sl[i]? = some (some (.dict [], false)) := by
  unfold isPen at h
  split at h
  · rename_i e
    unfold rd at e
    obtain ⟨o, h1, h2⟩ := Option.bind_eq_some_iff.mp e
    have h2 : o = some (.dict [], false) := h2
    rw [h1, h2]
  · cases h
theorem pen_val {pa : PA} {H0 G0 G : Hp} {s : S} (S0 : Sim pa H0 G0 G σ H s) {i : Nat} {q : Pn} (h : isPen (rd s i) = true) (hp : s.pn = some q) :
    ∃ a c, pa = some (a, c) ∧ σ[i]? = some (some (.ref a)) ∧ H a = some (.lst [.ref c, .int q.a, .int q.r]) ∧ G c = some (.lst (q.cells.map V.int)) ∧ G a = none ∧ c ≠ a := by
  obtain ⟨v, e1, r⟩ := S0.fz i _ (isPen_at h)
  cases r with
  | pen hpa =>
    rename_i a c
    have p := S0.pen
    subst hpa
    rw [hp] at p
    exact ⟨a, c, rfl, e1, p.2.1, p.2.2.1, p.2.2.2, p.1⟩
theorem at_nat {α : Type} {xs : List α} {j : Nat} {v : α} (h : xs[j]? = some v) : L2.atI xs ((j : Nat) : Int) = some v := L2.atI_nat h
theorem key_pix {i j : Nat} (K : PySem.W.Frag) (h : tI (.pix i j) σ H Q) : tOp (rIxL K) (tVar i) (tC (.int (j : Nat))) σ H Q := by
  obtain ⟨pa, H0, G0, G, s, d, t, s1, S0, e, kk⟩ := h
  rw [evalE] at e
  split at e
  case isFalse => cases e
  rename_i hi
  obtain ⟨d', e1, e2⟩ := Option.map_eq_some_iff.mp e
  cases e2
  obtain ⟨q, hq, e9⟩ := Option.bind_eq_some_iff.mp e1
  clear e1 e
  obtain ⟨a, c, hpa, hσ, ha, hc, _⟩ := pen_val S0 hi hq
  refine ⟨_, hσ, ?_⟩
  show ∃ p xs n v, V.ref a = V.ref p ∧ V.int ((j : Nat) : Int) = V.int n ∧ SqL K H p xs ∧ L2.atI xs n = some v ∧ Q v H
  refine ⟨a, [.ref c, .int q.a, .int q.r], ((j : Nat) : Int), ?_⟩
  unfold pixD at e9
  split at e9
  · rename_i hj
    subst hj
    cases e9
    exact ⟨.ref c, rfl, rfl, .of ha, at_nat rfl, kk _ H G S0 .refl (.lst hc (Rps.ofInts _)) nofz⟩
  · split at e9
    · rename_i hj
      subst hj
      cases e9
      exact ⟨.int q.a, rfl, rfl, .of ha, at_nat rfl, kk _ H G S0 .refl (.int _) nofz⟩
    · split at e9
      · rename_i hj
        subst hj
        cases e9
        exact ⟨.int q.r, rfl, rfl, .of ha, at_nat rfl, kk _ H G S0 .refl (.int _) nofz⟩
      · cases e9

theorem PI.or {X : Cx} {tg it : Expr} {a b : TI} (h1 : PI X tg it a) (h2 : PI X tg it b) : PI X tg it (fun σ H R => a σ H R ∨ b σ H R) :=
  ⟨fun pins s σ H R I h => h.elim (h1.run pins s σ H R I) (h2.run pins s σ H R I)⟩
theorem PI.imp {X : Cx} {tg it : Expr} {a b : TI} (h : PI X tg it a) (k : ∀ σ H R, b σ H R → a σ H R) : PI X tg it b := ⟨fun pins s σ H R I q => h.run pins s σ H R I (k σ H R q)⟩
variable {R : It → Hp → Prop}
theorem key_seq (K : PySem.W.Frag) {e : IE} (h : tSr (.seq e) σ H R) : iList K (tI e) σ H R ∨ iTup K (tI e) σ H R := by
  obtain ⟨pa, H0, G0, G, s, items, t, s1, S0, ev, kk⟩ := h
  rw [evalSr] at ev
  obtain ⟨⟨⟨d, t1⟩, s2⟩, e1, ev⟩ := obind ev
  obtain ⟨xs, e2, ev⟩ := obind ev
  cases ev
  cases d with
  | list ds =>
    cases e2
    refine .inl (tV_of S0 e1 fun v H1 G1 S1 E1 R1 N1 => ?_)
    obtain ⟨a, xs, ea, ha, ra⟩ := (R1.top S1).lst
    exact ⟨a, ea, ⟨xs, .of ha⟩, kk _ H1 G1 v _ S1 E1 R1 N1 ⟨sr_list K ha (R1.npen S1 ea (.inl rfl)) ra, fun G2 _ rp => by subst ea; cases rp with | lst h r => exact fsr_list K h r⟩⟩
  | tuple ds =>
    cases e2
    refine .inr (tV_of S0 e1 fun v H1 G1 S1 E1 R1 N1 => ?_)
    obtain ⟨a, xs, ea, ha, ra⟩ := (R1.top S1).tup
    exact ⟨a, ea, ⟨xs, (ha.up S1.sub).sq⟩, kk _ H1 G1 v _ S1 E1 R1 N1 ⟨sr_tup K (ha.up S1.sub) (R1.npen S1 ea (.inr rfl)) ra, fun G2 _ rp => by subst ea; cases rp with | tup h r => exact fsr_tup K h r⟩⟩
  | _ => cases e2
theorem key_enum (K : PySem.W.Frag) {e : IE} (h : tSr (.enum e) σ H R) : iEnA K (tCons (tI e) tNil) σ H R := by
  obtain ⟨pa, H0, G0, G, s, items, t, s1, S0, ev, kk⟩ := h
  rw [evalSr] at ev
  obtain ⟨⟨⟨d, t1⟩, s2⟩, e1, ev⟩ := obind ev
  obtain ⟨xs, e2, ev⟩ := obind ev
  cases ev
  cases d with
  | list ds =>
    cases e2
    refine tV_of S0 e1 fun v H1 G1 S1 E1 R1 N1 => ?_
    obtain ⟨a, xs, ea, ha, ra⟩ := (R1.top S1).lst
    exact ⟨a, xs, by rw [ea], .inl ⟨.of ha, kk _ H1 G1 v _ S1 E1 R1 N1 ⟨sr_en K ha (R1.npen S1 ea (.inl rfl)) ra, fun G2 _ rp => by subst ea; cases rp with | lst h r => exact fsr_en K h r⟩⟩⟩
  | tuple ds =>
    cases e2
    refine tV_of S0 e1 fun v H1 G1 S1 E1 R1 N1 => ?_
    obtain ⟨a, xs, ea, ha, ra⟩ := (R1.top S1).tup
    exact ⟨a, xs, by rw [ea],   .inr ⟨(ha.up S1.sub).sq, kk _ H1 G1 v _ S1 E1 R1 N1 ⟨sr_enT K (ha.up S1.sub) (R1.npen S1 ea (.inr rfl)) ra, fun G2 _ rp => by subst ea; cases rp with | tup h r => exact fsr_enT K h r⟩⟩⟩
  | _ => cases e2
theorem key_zip (K : PySem.W.Frag) {a b : IE} (h : tSr (.zip a b) σ H R) : RZ.iZipA K (tCons (tI a) (tCons (tI b) tNil)) σ H R := by
  obtain ⟨pa, H0, G0, G, s, items, t, s1, S0, ev, kk⟩ := h
  rw [evalSr] at ev
  obtain ⟨⟨⟨d1, t1⟩, s2⟩, e1, ev⟩ := obind ev
  obtain ⟨⟨⟨d2, t2⟩, s3⟩, e2, ev⟩ := obind ev
  obtain ⟨xs, e3, ev⟩ := obind ev
  obtain ⟨ys, e4, ev⟩ := obind ev
  dsimp only at ev e3 e4
  split at ev
  case isFalse => cases ev
  rename_i hk
  cases ev
  have es : evalEs (.cons a (.cons b .nil)) s = some ([(d1, t1), (d2, t2)], s3) := by
    simp [evalEs, e1, e2]
  have go : tAs (.cons a (.cons b .nil)) σ H fun vs H1 => ∃ p q xs ys, vs = [.ref p, .ref q] ∧ ((SqL K H1 p xs ∧ SqL K H1 q ys ∧ R (Itz K p q) H1) ∨ (SqT K H1 p xs ∧ SqT K H1 q ys ∧ R (RZ.ItzT K p q) H1)) := by
    refine ⟨pa, H0, G0, G, s, _, s3, S0, es, fun vs H1 G1 S1 E1 Rs => ?_⟩
    obtain ⟨G', S', E', _, rps⟩ := Rs.keep S1 E1
    match vs, rps with
    | [v, w], .cons r1 (.cons r2 .nil) =>
      have np : ∀ {c : Addr} {o : HO}, G' c = some o → ¬ pen1 pa c := fun hc n => by
        rw [S'.pen.free n] at hc; cases hc
      cases d1 with
      | list ds =>
        cases d2 with
        | list es =>
          cases e3; cases e4
          cases r1 with
          | lst h1 ra =>
            cases r2 with
            | lst h2 rb =>
              exact ⟨_, _, _, _, rfl, .inl ⟨.of (S'.sub _ _ h1), .of (S'.sub _ _ h2), kk _ H1 G' .non .none S' E' .non nofz ⟨sr_zip K (S'.sub _ _ h1) (np h1) ra (S'.sub _ _ h2) (np h2) rb, fun G2 k _ => (fsr_zip K h1 ra h2 rb).mono k⟩⟩⟩
        | _ => cases hk
      | tuple ds =>
        cases d2 with
        | tuple es =>
          cases e3; cases e4
          cases r1 with
          | tup h1 ra =>
            cases r2 with
            | tup h2 rb =>
              exact ⟨_, _, _, _, rfl, .inr ⟨(h1.up S'.sub).sq, (h2.up S'.sub).sq, kk _ H1 G' .non .none S' E' .non nofz ⟨sr_zipT K (h1.up S'.sub) (fun n => h1.there (S'.pen.free n)) ra (h2.up S'.sub) (fun n => h2.there (S'.pen.free n)) rb, fun G2 k _ => (fsr_zipT K h1 ra h2 rb).mono k⟩⟩⟩
        | _ => cases hk
      | _ => cases e3
  refine (key_cons go).mono fun v H1 q => (key_cons q).mono fun w H2 q => ?_
  obtain ⟨pa', H0', G0', G2, s4, xs', s5, S4, e5, k5⟩ := q
  rw [evalEs] at e5
  cases e5
  exact k5 [] H2 G2 S4 .refl trivial
theorem key_rng {a : IE} (h : tSr (.rng a) σ H R) : iRng1 (tCons (tI a) tNil) σ H R := by
  obtain ⟨pa, H0, G0, G, s, items, t, s1, S0, ev, kk⟩ := h
  rw [evalSr] at ev
  obtain ⟨⟨⟨d1, t1⟩, s2⟩, e1, ev⟩ := obind ev
  dsimp only at ev
  split at ev
  · split at ev
    · rename_i n hn
      cases ev
      refine tV_of S0 e1 fun v H1 G1 S1 E1 R1 N1 => ⟨n, by rw [(R1.top S1).int], hn.1, hn.2, kk _ H1 G1 .non .none S1 E1 .non nofz ?_⟩
      have q : ∀ G, SrOk false pa G H1 ((List.range n.toNat).map fun i => .int (0 + (i : Nat))) (Itr 0 n.toNat) := fun G => sr_rng
      have q2 : ∀ G, SrF false pa G ((List.range n.toNat).map fun i => .int (0 + (i : Nat))) (Itr 0 n.toNat) := fun G => fsr_rng
      simp only [Int.zero_add] at q q2
      exact ⟨q G1, fun G2 _ _ => q2 G2⟩
    · cases ev
  · cases ev
theorem key_rng2 {a b : IE} (h : tSr (.rng2 a b) σ H R) : iRng2 (tCons (tI a) (tCons (tI b) tNil)) σ H R := by
  obtain ⟨pa, H0, G0, G, s, items, t, s1, S0, ev, kk⟩ := h
  rw [evalSr] at ev
  obtain ⟨⟨⟨d1, t1⟩, s2⟩, e1, ev⟩ := obind ev
  obtain ⟨⟨⟨d2, t2⟩, s3⟩, e2, ev⟩ := obind ev
  dsimp only at ev
  split at ev
  · rename_i m n _
    split at ev
    · rename_i hn
      cases ev
      exact two S0 e1 e2 fun v w H2 G2 S2 E2 R1 N1 R2 N2 => ⟨m, n, by rw [(R1.top S2).int, (R2.top S2).int], hn, kk _ H2 G2 .non .none S2 E2 .non nofz ⟨sr_rng, fun _ _ _ => fsr_rng⟩⟩
    · cases ev
  · cases ev
theorem key_rng3 {a b c : IE} (h : tSr (.rng3 a b c) σ H R) : iRng3 (tCons (tI a) (tCons (tI b) (tCons (tI c) tNil))) σ H R := by
  obtain ⟨pa, H0, G0, G, s, items, t, s1, S0, ev, kk⟩ := h
  rw [evalSr] at ev
  obtain ⟨⟨⟨d1, t1⟩, s2⟩, e1, ev⟩ := obind ev
  obtain ⟨⟨⟨d2, t2⟩, s3⟩, e2, ev⟩ := obind ev
  obtain ⟨⟨⟨d3, t3⟩, s4⟩, e3, ev⟩ := obind ev
  dsimp only at ev
  split at ev
  · rename_i i j k _ _
    split at ev
    · rename_i hn
      cases ev
      refine tV_of S0 e1 fun v H1 G1 S1 E1 R1 N1 => tV_of S1 e2 fun w H2 G2 S2 E2 R2 N2 => tV_of S2 e3 fun u H3 G3 S3 E3 R3 N3 => ?_
      exact ⟨i, j, k, (Builtin.Range.rangeSize i j k).toNat, by rw [(R1.top S1).int, (R2.top S2).int, (R3.top S3).int], ⟨hn.1, hn.2.1, hn.2.2.1, by have := hn.2.2.2; omega⟩, kk _ H3 G3 .non .none S3 ((E1.trans S2 E2).trans S3 E3) .non nofz ⟨sr_rngC, fun _ _ _ => fsr_rngC⟩⟩
    · cases ev
  · cases ev
end
end Fs

set_option Elab.async false
set_option linter.all false
set_option maxRecDepth 100000
set_option maxHeartbeats 8000000
namespace Fs
open PySem L2 PySem.Spec PyProof.Rows
open Builtin.Slice
theorem places_rev (n : Nat) : slicePlaces ((n : Int) - 1) (-1) (-1) = n := by
  unfold slicePlaces
  split
  · rename_i z; exact absurd z (by decide)
  · split
    · rename_i z
      rw [show (-(-1) : Int) = 1 by decide, Int.ediv_one]; omega
    · omega
/-- the bounds of [::-1] -/
theorem bounds_rev {prog : Program} {w : World} {A : Around} {E : Value → Shared → Prop} {s : Shared} {sl : Addr} {vs : Value} {n : Nat} {Q : Int × Int × Nat → Shared → Prop} (isS : s.heap.IsSliceOf sl .none .none vs) (st : IsPart vs (some (-1)))
    (fin : Q ((n : Int) - 1, -1, n) s) : wpAny (model prog w) A (sliceApplied (.ref sl) (pure (n : Int))) Q E s := by
  obtain ⟨ob, at0, -, dat⟩ := isS
  unfold sliceApplied sliceFields
  refine wpAny_bind (wpAny_bind (wpAny_field at0 dat (x := .none) rfl (wpAny_bind (wpAny_field at0 dat (x := .none) rfl (wpAny_bind (wpAny_field at0 dat (x := vs) rfl (wpAny_pure (wpAny_bind (HT.slicePart_ st ?_)))))))))
  refine wpAny_ite_false (by decide) (wpAny_bind (HT.slicePart_ .none (wpAny_bind (HT.slicePart_ .none (wpAny_bind (wpAny_pure ?_))))))
  have z : ((n : Int) - 1, (-1 : Int), slicePlaces ((n : Int) - 1) (-1) (-1)) = ((n : Int) - 1, -1, n) := by rw [places_rev]
  exact wpAny_pure (z ▸ fin)
theorem picked_rev (us : List Value) : ((List.range us.toArray.size).filterMap fun (m : Nat) => us.toArray[((us.toArray.size : Int) - 1 + (m : Int) * (-1)).toNat]?).toArray = us.reverse.toArray := by
  congr 1
  refine List.ext_getElem? fun i => ?_
  have all : ∀ m ∈ List.range us.length, us[us.length - 1 - m]? = some (us.reverse.getD m .none) := fun m hm => by
    have hm := List.mem_range.mp hm
    rw [List.getD_eq_getElem?_getD, List.getElem?_reverse hm, List.getElem?_eq_getElem (by omega)]; rfl
  have e : (fun (m : Nat) => us.toArray[((us.toArray.size : Int) - 1 + (m : Int) * (-1)).toNat]?) = fun m => us[us.length - 1 - m]? := by
    funext m
    rw [List.size_toArray, List.getElem?_toArray, show ((us.length : Int) - 1 + (m : Int) * (-1)).toNat = us.length - 1 - m by omega]
  rw [e, List.size_toArray]
  have f : (List.range us.length).filterMap (fun m => us[us.length - 1 - m]?) = (List.range us.length).map fun m => us.reverse.getD m .none := by
    have go : ∀ l : List Nat, (∀ m ∈ l, us[us.length - 1 - m]? = some (us.reverse.getD m .none)) → l.filterMap (fun m => us[us.length - 1 - m]?) = l.map fun m => us.reverse.getD m .none := by
      intro l
      induction l with
      | nil => intro _; rfl
      | cons m l ih =>
        intro h
        rw [List.filterMap_cons, List.map_cons, ih fun k hk => h k (List.mem_cons_of_mem _ hk)]
        simp only [h m (List.mem_cons_self ..)]
    exact go _ all
  rw [f]
  by_cases hi : i < us.length
  · rw [List.getElem?_map, List.getElem?_range hi, List.getElem?_eq_getElem (by rw [List.length_reverse]; exact hi), Option.map_some, List.getD_eq_getElem?_getD, List.getElem?_eq_getElem (by rw [List.length_reverse]; exact hi)]; rfl
  · rw [List.getElem?_eq_none (by simp; omega), List.getElem?_eq_none (by simp; omega)]
theorem meets_rev (t sl : Addr) (us : List Value) (vs : Value) : Meets (Builtin.«tuple.__getitem__» ⟨[.ref t, .ref sl], []⟩) (fun _ R s => PyProof.Rows.IsTup s.heap t us.toArray ∧ s.heap.IsSliceOf sl .none .none vs ∧ IsPart vs (some (-1)) ∧ us.length ≤ sizeLine ∧
    R (.ok (.ret (.ref s.heap.objs.size))) { s with heap := s.heap.push (obT us.reverse) }) := by
  refine .of_wp fun prog w A R s ⟨isT, isS, st, small, fin⟩ => ?_
  have tyS : s.TypeIs (.ref sl) "slice" := isS.imp fun _ z => ⟨z.1, z.2.1⟩
  have fits : sizeOk (obT us.reverse).data := by
    show us.reverse.toArray.size ≤ sizeLine
    simpa using small
  show wpAny _ _ (Builtin.Tuple.tupleItemsOf (.ref t) >>= _) _ _ s
  refine wpAny_bind (PyProof.Rows.tupleItemsOf_ isT (wpAny_bind (wpAny_typeOf tyS ?_)))
  refine wpAny_ite_true (by decide) (wpAny_bind (bounds_rev isS st ?_))
  refine wpAny_ite_false (by simp) ?_
  rw [picked_rev]
  exact wpAny_bind (m := Builtin.Tuple.tupleExact _) (wpAny_newObj_type (wpAny_pure ⟨_, rfl, fin⟩) fits)
/-- x[::-1] of a tuple -/
def tRevT (K : PySem.W.Frag) (te : TE) : TE := fun σ H Q => te σ H fun x H1 => ∃ a xs, x = .ref a ∧ SqT K H1 a xs ∧ mkT H1 Q xs.reverse
theorem pe_revT {X : Cx} {e : Expr} {te : TE} {k : Nat} {p1 p2 p3 pos : Pos} (he : PE X e te) : PE X (.Subscript e (.Slice none none (some (.UnaryOp .USub (.Constant (.int 1) k p1) p2)) p3) pos) (tRevT X.K te) := by
  have step : PO X (some (.UnaryOp .USub (.Constant (.int 1) k p1) p2)) (tPart (tUn (rU fun i => .int (-i)) (tC (.int 1)))) := po_some (pe_un un_neg pe_int)
  refine ⟨fun ps0 s σ H Q I h => Subscript_ (thn (he.run ps0 s σ H _ I h) fun v s1 got => ?_)⟩
  obtain ⟨_, H1, I1, rel, a, xs, rfl, ha, q⟩ := got
  cases rel
  refine wpAny_Slice (thn (po_none.run ps0 s1 σ H1 (fun o J => o = none ∧ J = H1) I1 ⟨rfl, rfl⟩) fun lo s2 got => ?_)
  obtain ⟨_, _, I2, part1, rfl, rfl⟩ := got
  refine thn (po_none.run ps0 s2 σ _ (fun o J => o = none ∧ J = _) I2 ⟨rfl, rfl⟩) fun hi s3 got => ?_
  obtain ⟨_, _, I3, part2, rfl, rfl⟩ := got
  refine thn (step.run ps0 s3 σ _ (fun o J => o = some (-1) ∧ J = _) I3 ⟨1, rfl, -1, rfl, rfl, rfl⟩) fun by_ s4 got => ?_
  obtain ⟨_, J, I4, part3, rfl, rfl⟩ := got
  cases part1
  cases part2
  have grown := I4.kept (t' := s4.toks) (h' := s4.heap.push { cls := .type "slice", data := .fields #[.none, .none, by_] }) fun b ob z => Heap.get?_push_of_some _ z
  obtain ⟨us, ru, isT, small⟩ := grown.tuple ha
  refine tail_any (ops := [.ref a, .ref s4.heap.objs.size]) isT.typeIs PyProof.Rows.slot_tuple_getitem.lookup ?_ (by with_unfolding_all rfl)
  exact getItem_meets isT.typeIs (by decide) PySem.F.slot_tuple_getitem PySem.F.entry_tuple_getitem (PySem.F.args_tuple_getitem_2 _ _) (meets_rev a s4.heap.objs.size us by_) ⟨isT, Heap.IsSliceOf.new _ _ _ by_, part3, ru.length ▸ small, tup_new grown ru.reverse (by rw [List.length_reverse]; exact small) q⟩
theorem pe_revD {X : Cx} {e : Expr} {te : TE} {k : Nat} {p1 p2 p3 pos : Pos} (he : PE X e te) : PE X (.Subscript e (.Slice none none (some (.UnaryOp .USub (.Constant (.int 1) k p1) p2)) p3) pos) (fun σ H Q => tRevL X.K te σ H Q ∨ tRevT X.K te σ H Q) :=
  ⟨fun ps0 s σ H Q I h => h.elim (fun z => (pe_revL he).run ps0 s σ H Q I z) fun z => (pe_revT he).run ps0 s σ H Q I z⟩
theorem key_rev {K : PySem.W.Frag} {a : IE} {σ : L2.St} {H : Hp} {Q : VK} (h : tI (.blt .rev1 (.cons a .nil)) σ H Q) : tRevL K (tI a) σ H Q ∨ tRevT K (tI a) σ H Q := by
  obtain ⟨pa, H0, G0, G, s, d, t, s3, S0, e, kk⟩ := h
  rw [evalE] at e
  obtain ⟨⟨xs, s2⟩, e1, e⟩ := obind e
  obtain ⟨⟨d', fr⟩, e4, e⟩ := obind e
  cases e
  rw [evalEs] at e1
  obtain ⟨⟨⟨d1, t1⟩, s1⟩, e0, e1⟩ := obind e1
  obtain ⟨⟨ys, s4⟩, e2, e1⟩ := obind e1
  cases e1
  rw [evalEs] at e2
  cases e2
  change bltD .rev1 [d1] = _ at e4
  cases d1 with
  | list ds =>
    cases e4
    refine .inl (tV_of S0 e0 fun v H1 G1 S1 E1 R1 N1 => ?_)
    obtain ⟨b, us, rfl, hb, rb⟩ := (R1.top S1).lst
    exact ⟨b, us, rfl, .of hb, fun p hp => fin (fr := true) S1 E1 kk _ _ (.lst hp rb.rev)⟩
  | tuple ds =>
    cases e4
    refine .inr (tV_of S0 e0 fun v H1 G1 S1 E1 R1 N1 => ?_)
    obtain ⟨b, us, rfl, hb, rb⟩ := (R1.top S1).tup
    exact ⟨b, us, rfl, (hb.up S1.sub).sq, Res.tup (fun v H2 r => fin (fr := false) S1 E1 kk v H2 r) rb.rev⟩
  | _ => cases e4
def rCnt (tup : Bool) : V → List V → Hp → VK → Prop := fun x vs H Q => ∃ pa G xs v y, vs = [v] ∧ Sub G H ∧ RpT pa G H x (if tup then .tuple xs else .list xs) ∧ RpT pa G H v y ∧ (good 60 (.list xs) = true ∧ good 60 y = true) ∧ Q (.int ((xs.countP fun z => PyData.eqv z y : Nat) : Int)) H
theorem mt_count {X : Cx} (hu : X.A.units + 65 < cLine) : MtR X "list.count" (rCnt false) := by
  intro ps0 s σ H x vs v us Q I rx rv ⟨pa, G, xs, w, y, ev, gh, r1, r2, ⟨g1, g2⟩, q⟩
  subst ev
  obtain ⟨u2, rfl, ru⟩ := rv.one
  obtain ⟨as, q1⟩ := Dp.reads I (.list xs) x v (RpT.dp gh _ g1 r1) rx
  obtain ⟨bs, q2⟩ := Dp.reads I y w u2 (r2.dp gh _ g2) ru
  have px := PyData.plain_of_canLay0 _ (SeqAt.canLay_of_shaped (good_shaped g1))
  have deep := SeqAt.depth_of_shaped (good_shaped g2)
  have least := Nat.min_le_right (PyData.depthAll xs) y.depth
  obtain ⟨a, ws, rfl, -, -⟩ := RpT.lst r1
  cases rx
  cases q1 with
  | list h1 h2 h3 h4 => exact SeqAt.count_list_data ⟨_, h1, h2, _, h3⟩ h4 q2 (by simpa only [PyData.plain] using px) (PyData.plain_of_canLay0 _ (SeqAt.canLay_of_shaped (good_shaped g2))) (by omega) ⟨.int _, H, I.tok _, ⟨_, rfl⟩, q⟩
theorem mt_countT {X : Cx} (hu : X.A.units + 65 < cLine) : MtR X "tuple.count" (rCnt true) := by
  intro ps0 s σ H x vs v us Q I rx rv ⟨pa, G, xs, w, y, ev, gh, r1, r2, ⟨g1, g2⟩, q⟩
  subst ev
  obtain ⟨u2, rfl, ru⟩ := rv.one
  obtain ⟨as, q1⟩ := Dp.reads I (.tuple xs) x v (RpT.dp gh _ (n := 60) (by simpa [good] using g1) r1) rx
  obtain ⟨bs, q2⟩ := Dp.reads I y w u2 (r2.dp gh _ g2) ru
  have px := PyData.plain_of_canLay0 _ (SeqAt.canLay_of_shaped (good_shaped g1))
  have deep := SeqAt.depth_of_shaped (good_shaped g2)
  have least := Nat.min_le_right (PyData.depthAll xs) y.depth
  obtain ⟨a, ws, rfl, -, -⟩ := RpT.tup r1
  cases rx
  cases q1 with
  | tuple h1 h2 h3 h4 => exact SeqAt.count_tuple_data ⟨_, h1, h2, _, h3⟩ h4 q2 (by simpa only [PyData.plain] using px) (PyData.plain_of_canLay0 _ (SeqAt.canLay_of_shaped (good_shaped g2))) (by omega) ⟨.int _, H, I.tok _, ⟨_, rfl⟩, q⟩
/-- the receiver: a list, a tuple of ours -/
def tCnt (K : PySem.W.Frag) (to : TE) (t : TA) : TE := fun σ H Q => to σ H fun x H1 => (tyV K "list" x H1 ∧ t σ H1 fun vs H2 => rCnt false x vs H2 Q) ∨ ((∃ a xs, x = .ref a ∧ TupAt H1 a xs) ∧ t σ H1 fun vs H2 => rCnt true x vs H2 Q)
theorem pe_cnt {X : Cx} {o e : Expr} {to : TE} {t : TA} {apos cpos : Pos} (hu : X.A.units + 65 < cLine) (ho : PE X o to) (ha : L2.PA X [e] t) (hbase : attributeBase o "count" X.env (eval o X.env) = eval o X.env)
    (few : ((backTo cpos (starEach [e] X.env)).all (fun x => !x.1) && (backToKw cpos (keywordEach [] X.env)).all (fun x => x.1.isSome) && decide ([e].length + ([] : List Keyword).length + (if ([] : List Keyword).isEmpty then 0 else 1) < 30)) = true)
    (hline : (apos.endLine == cpos.line) = true) (hs : starEach [e] X.env = (false, eval e X.env) :: starEach [] X.env) : PE X (.Call (.Attribute o "count" apos) [e] [] cpos) (tCnt X.K to t) := by
  refine ⟨fun ps0 s σ H Q I h => wpAny_Call_method_late hbase few hline rfl (thn (ho.run ps0 s σ H _ I h) fun v s1 got => ?_)⟩
  obtain ⟨x, H1, I1, rel, got⟩ := got
  have rest : ∀ {id : String} {r : V → List V → Hp → VK → Prop}, MtR X id r → (t σ H1 fun vs H2 => r x vs H2 Q) → wpAny (model X.prog X.w) X.A (callWith cpos (.builtin id) [v] (backTo cpos (starEach [e] X.env)) (backToKw cpos (keywordEach [] X.env))) (EP X ps0 σ Q) X.xe s1 := fun {id r} m q => by
    have args := ha.run cpos ps0 s1 σ H1 _ I1 q
    rw [hs] at args ⊢
    exact Calls.callWith_builtin rfl (Calls.evalArgs_plain (thn args fun us s2 ⟨vs, H2, I2, r2, q2⟩ => m ps0 s2 σ H2 x vs v us Q I2 rel r2 q2))
  rcases got with ⟨ty, q⟩ | ⟨⟨a, xs, rfl, hT⟩, q⟩
  · obtain ⟨h1, h2⟩ := tyV_is I1 rel ty
    exact ⟨"list", _, PySem.F.plainAttrs_list, PySem.F.slot_list_count, PySem.F.type_list_count, h1, h2, rest (mt_count hu) q⟩
  · cases rel
    obtain ⟨ob, at1, bare⟩ := hT
    obtain ⟨here, -, _, _, ob2, at2, cls, -⟩ := I1.hok a _ at1
    exact ⟨"tuple", _, PySem.F.plainAttrs_tuple, PySem.F.slot_tuple_count, PySem.F.type_tuple_count, ⟨ob2, at2, cls⟩, fun b eb => by cases eb; exact ⟨ob, here, bare⟩, rest (mt_countT hu) q⟩
theorem few_one' {e : Expr} {cpos : Pos} {env : Env} (h : plX e = true) : ((backTo cpos (starEach [e] env)).all (fun x => !x.1) && (backToKw cpos (keywordEach [] env)).all (fun x => x.1.isSome)
      && decide ([e].length + ([] : List Keyword).length + (if ([] : List Keyword).isEmpty then 0 else 1) < 30)) = true := by
  rw [star_pl h]; rfl
theorem key_cnt {K : PySem.W.Frag} {i : Nat} {b : IE} {σ : L2.St} {H : Hp} {Q : VK} (h : tI (.blt .cnt (.cons (.var i) (.cons b .nil))) σ H Q) : tCnt K (tVar i) (tCons (tI b) tNil) σ H Q := by
  obtain ⟨pa, H0, G0, G, s, d, t, s3, S0, e, kk⟩ := h
  rw [evalE] at e
  obtain ⟨⟨xs, s2⟩, e1, e⟩ := obind e
  obtain ⟨⟨d', fr⟩, e4, e⟩ := obind e
  cases e
  rw [evalEs] at e1
  obtain ⟨⟨⟨d1, t1⟩, s1⟩, e0, e1⟩ := obind e1
  obtain ⟨⟨ys, s4⟩, e2, e1⟩ := obind e1
  cases e1
  rw [evalEs] at e2
  obtain ⟨⟨⟨d2, t2⟩, s5⟩, e3, e2⟩ := obind e2
  obtain ⟨⟨zs, s6⟩, e5, e2⟩ := obind e2
  rw [evalEs] at e5
  cases e5
  cases e2
  rw [evalE] at e0
  obtain ⟨⟨dd, f⟩, hp, e0⟩ := Option.map_eq_some_iff.mp e0
  cases e0
  have at1 : s.sl[i]? = some (some (dd, f)) := by
    unfold rd at hp
    obtain ⟨o, h1, h2⟩ := Option.bind_eq_some_iff.mp hp
    have h2 : o = some (dd, f) := h2
    rw [h1, h2]
  obtain ⟨v, ev, R⟩ : ∃ v, σ[i]? = some (some v) ∧ RT pa H0 G σ H s v dd (if f = true then .slot i else .fz) := by
    cases f with
    | true =>
      obtain ⟨a, xs, ds, e1, _⟩ := S0.ow i _ at1
      exact ⟨_, e1, ⟨true, at1, e1⟩⟩
    | false =>
      obtain ⟨v, e1, r⟩ := S0.fz i _ at1
      exact ⟨v, e1, r⟩
  change bltD .cnt [dd, d2] = _ at e4
  cases dd with
  | list ls =>
    change (if (good 60 (.list ls) && good 60 d2) = true then some (PyData.int ((ls.countP fun z => PyData.eqv z d2 : Nat) : Int), false) else none) = _ at e4
    split at e4
    · rename_i hz
      rw [Bool.and_eq_true] at hz
      cases e4
      obtain ⟨a, ws, ea, ha, ra⟩ := (R.top S0).lst
      subst ea
      refine ⟨.ref a, ev, .inl ⟨.inl ⟨rfl, ws, .of ha⟩, tV_of S0 e3 fun w H1 G1 S1 E1 R1 N1 => ?_⟩⟩
      exact ⟨pa, G1, ls, w, d2, rfl, S1.sub, (R.ext S1 E1).top S1, R1.top S1, hz, fin (fr := false) S1 E1 kk _ _ (.old (.int _))⟩
    · cases e4
  | tuple ls =>
    change (if (good 60 (.list ls) && good 60 d2) = true then some (PyData.int ((ls.countP fun z => PyData.eqv z d2 : Nat) : Int), false) else none) = _ at e4
    split at e4
    · rename_i hz
      rw [Bool.and_eq_true] at hz
      cases e4
      obtain ⟨a, ws, ea, ha, ra⟩ := (R.top S0).tup
      subst ea
      refine ⟨.ref a, ev, .inr ⟨⟨a, ws, rfl, ha.up S0.sub⟩, tV_of S0 e3 fun w H1 G1 S1 E1 R1 N1 => ?_⟩⟩
      exact ⟨pa, G1, ls, w, d2, rfl, S1.sub, (R.ext S1 E1).top S1, R1.top S1, hz, fin (fr := false) S1 E1 kk _ _ (.old (.int _))⟩
    · cases e4
  | _ => cases e4
def rIdx : V → List V → Hp → VK → Prop := fun x vs H Q => ∃ (pa : PA) (G : Hp) (bs : List Bool) (b : Bool), vs = [.bl b] ∧ Sub G H ∧ RpT pa G H x (.list (bs.map .bool)) ∧ b ∈ bs ∧ Q (.int ((bs.idxOf b : Nat) : Int)) H
theorem goods_bools (n : Nat) : ∀ bs : List Bool, goods n (bs.map PyData.bool) = true
  | [] => by rw [List.map_nil, goods]
  | b :: bs => by rw [List.map_cons, goods, goods_bools n bs, good]; rfl
theorem mt_index {X : Cx} (hu : X.A.units + 65 < cLine) : MtR X "list.index" rIdx := by
  intro ps0 s σ H x vs v us Q I rx rv ⟨pa, G, bs, b, ev, gh, r1, hb, q⟩
  subst ev
  obtain ⟨u2, rfl, ru⟩ := rv.one
  cases ru
  obtain ⟨as, q1⟩ := Dp.reads I (.list (bs.map .bool)) x v (RpT.dp gh _ (n := 60) (by rw [good]; exact goods_bools _ bs) r1) rx
  obtain ⟨a, ws, rfl, ha, ra⟩ := RpT.lst r1
  obtain ⟨_, _, _, small⟩ := I.list (.of ha)
  have len2 := ra.len
  rw [List.length_map] at len2
  cases rx
  cases q1 with
  | list h1 h2 h3 h4 =>
    rename_i vs0 _ _
    refine PySem.W.index_list_datum (α := Bool) (x := b) (xs := bs) (vs := vs0.toList) ⟨_, h1, h2, _, by rw [Array.toArray_toList]; exact h3⟩ ⟨_, h4⟩ ⟨_, Reads.bool b⟩ ?_ ?_ hb ⟨.int _, H, I.tok _, ⟨_, rfl⟩, q⟩
    · show X.A.units + 1 + 0 < cLine
      omega
    · omega
theorem boolsOf_some : ∀ {ds : List D} {bs : List Bool}, boolsOf ds = some bs → ds = bs.map .bool
  | [], bs, h => by cases h; rfl
  | .bool b :: r, bs, h => by
    obtain ⟨cs, h1, rfl⟩ := Option.map_eq_some_iff.mp h
    rw [boolsOf_some h1]; rfl
  | .none :: _, _, h => by cases h
  | .int _ :: _, _, h => by cases h
  | .str _ :: _, _, h => by cases h
  | .list _ :: _, _, h => by cases h
  | .tuple _ :: _, _, h => by cases h
  | .dict _ :: _, _, h => by cases h
theorem key_idx {K : PySem.W.Frag} {i : Nat} {b : IE} {σ : L2.St} {H : Hp} {Q : VK} (h : tI (.blt .idx (.cons (.var i) (.cons b .nil))) σ H Q) : tBM K "list" rIdx (tVar i) (tCons (tI b) tNil) σ H Q := by
  obtain ⟨pa, H0, G0, G, s, d, t, s3, S0, e, kk⟩ := h
  rw [evalE] at e
  obtain ⟨⟨xs, s2⟩, e1, e⟩ := obind e
  obtain ⟨⟨d', fr⟩, e4, e⟩ := obind e
  cases e
  rw [evalEs] at e1
  obtain ⟨⟨⟨d1, t1⟩, s1⟩, e0, e1⟩ := obind e1
  obtain ⟨⟨ys, s4⟩, e2, e1⟩ := obind e1
  cases e1
  rw [evalEs] at e2
  obtain ⟨⟨⟨d2, t2⟩, s5⟩, e3, e2⟩ := obind e2
  obtain ⟨⟨zs, s6⟩, e5, e2⟩ := obind e2
  rw [evalEs] at e5
  cases e5
  cases e2
  rw [evalE] at e0
  obtain ⟨⟨dd, f⟩, hp, e0⟩ := Option.map_eq_some_iff.mp e0
  cases e0
  have at1 : s.sl[i]? = some (some (dd, f)) := by
    unfold rd at hp
    obtain ⟨o, h1, h2⟩ := Option.bind_eq_some_iff.mp hp
    have h2 : o = some (dd, f) := h2
    rw [h1, h2]
  obtain ⟨v, ev, R⟩ : ∃ v, σ[i]? = some (some v) ∧ RT pa H0 G σ H s v dd (if f = true then .slot i else .fz) := by
    cases f with
    | true =>
      obtain ⟨a, xs, ds, e1, _⟩ := S0.ow i _ at1
      exact ⟨_, e1, ⟨true, at1, e1⟩⟩
    | false =>
      obtain ⟨v, e1, r⟩ := S0.fz i _ at1
      exact ⟨v, e1, r⟩
  change bltD .idx [dd, d2] = _ at e4
  cases dd with
  | list ls =>
    cases d2 with
    | bool y =>
      change ((boolsOf ls).bind fun bs => if y ∈ bs then some (PyData.int (bs.idxOf y : Nat), false) else none) = _ at e4
      obtain ⟨bs, hbs, e4⟩ := Option.bind_eq_some_iff.mp e4
      split at e4
      · rename_i hz
        cases e4
        have el := boolsOf_some hbs
        subst el
        obtain ⟨a, ws, ea, ha, ra⟩ := (R.top S0).lst
        subst ea
        refine ⟨.ref a, ev, .inl ⟨rfl, ws, .of ha⟩, tV_of S0 e3 fun w H1 G1 S1 E1 R1 N1 => ?_⟩
        exact ⟨pa, G1, bs, y, by rw [(R1.top S1).bl], S1.sub, (R.ext S1 E1).top S1, hz, fin (fr := false) S1 E1 kk _ _ (.old (.int _))⟩
      · cases e4
    | _ => cases e4
  | _ => cases e4
theorem seq_top {K : PySem.W.Frag} {pa : PA} {H0 G0 G H : Hp} {σ : L2.St} {s : S} {v : V} {d : D} {ds : List D} (S1 : Sim pa H0 G0 G σ H s) (r : RpT pa G H v d) (h : seqD d = some ds) :
    ∃ p ws, v = V.ref p ∧ (SqT K H p ws ∨ SqL K H p ws) ∧ Rps pa G ws ds := by
  cases d with
  | tuple xs =>
    cases h
    obtain ⟨a, ws, rfl, ha, ra⟩ := RpT.tup r
    exact ⟨a, ws, rfl, .inl (ha.up S1.sub).sq, ra⟩
  | list xs =>
    cases h
    obtain ⟨a, ws, rfl, ha, ra⟩ := RpT.lst r
    exact ⟨a, ws, rfl, .inr (.of ha), ra⟩
  | _ => cases h
theorem hard_top {pa : PA} {G H : Hp} {v : V} {d : D} (r : RpT pa G H v d) (h : hardD d = true) : Rp pa G v d := by
  cases d with
  | list xs => cases h
  | dict xs => cases h
  | _ => exact r
theorem stp_some {d1 d2 d : D} {fr : Bool} (e : bltD .stp [d1, d2] = some (d, fr)) : ∃ ds, seqD d1 = some ds ∧ hardD d2 = true ∧ ds.length ≤ 1000 ∧ d = .tuple (ds ++ [d2]) ∧ fr = false := by
  have e : ((seqD d1).bind fun xs => if (hardD d2 && decide (xs.length ≤ 1000)) = true then some (PyData.tuple (xs ++ [d2]), false) else none) = some (d, fr) := e
  obtain ⟨ds, h1, h2⟩ := Option.bind_eq_some_iff.mp e
  split at h2
  · rename_i z
    rw [Bool.and_eq_true] at z
    obtain ⟨z1, z2⟩ := z
    cases h2
    exact ⟨ds, h1, z1, of_decide_eq_true z2, rfl, rfl⟩
  · cases h2
theorem stl_some {d1 d2 d : D} {fr : Bool} (e : bltD .stl [d1, d2] = some (d, fr)) : ∃ ds, seqD d1 = some ds ∧ hardD d2 = true ∧ ds.length ≤ 1000 ∧ d = .list (ds ++ [d2]) ∧ fr = true := by
  have e : ((seqD d1).bind fun xs => if (hardD d2 && decide (xs.length ≤ 1000)) = true then some (PyData.list (xs ++ [d2]), true) else none) = some (d, fr) := e
  obtain ⟨ds, h1, h2⟩ := Option.bind_eq_some_iff.mp e
  split at h2
  · rename_i z
    rw [Bool.and_eq_true] at z
    obtain ⟨z1, z2⟩ := z
    cases h2
    exact ⟨ds, h1, z1, of_decide_eq_true z2, rfl, rfl⟩
  · cases h2
theorem sth_some {d1 d2 d : D} {fr : Bool} (e : bltD .sth [d1, d2] = some (d, fr)) : ∃ ds, seqD d2 = some ds ∧ hardD d1 = true ∧ ds.length ≤ 1000 ∧ d = .list (d1 :: ds) ∧ fr = true := by
  have e : ((seqD d2).bind fun xs => if (hardD d1 && decide (xs.length ≤ 1000)) = true then some (PyData.list (d1 :: xs), true) else none) = some (d, fr) := e
  obtain ⟨ds, h1, h2⟩ := Option.bind_eq_some_iff.mp e
  split at h2
  · rename_i z
    rw [Bool.and_eq_true] at z
    obtain ⟨z1, z2⟩ := z
    cases h2
    exact ⟨ds, h1, z1, of_decide_eq_true z2, rfl, rfl⟩
  · cases h2
theorem st3_some {d1 d2 d3 d : D} {fr : Bool} (e : bltD .st3 [d1, d2, d3] = some (d, fr)) : ∃ ds zs, seqD d1 = some ds ∧ seqD d3 = some zs ∧ hardD d2 = true ∧ ds.length ≤ 1000 ∧ zs.length ≤ 1000 ∧ d = .tuple (ds ++ (d2 :: zs)) ∧ fr = false := by
  have e : ((seqD d1).bind fun xs => (seqD d3).bind fun zs => if (hardD d2 && (decide (xs.length ≤ 1000) && decide (zs.length ≤ 1000))) = true then some (PyData.tuple (xs ++ (d2 :: zs)), false) else none) = some (d, fr) := e
  obtain ⟨ds, h1, h2⟩ := Option.bind_eq_some_iff.mp e
  obtain ⟨zs, h3, h2⟩ := Option.bind_eq_some_iff.mp h2
  split at h2
  · rename_i z
    rw [Bool.and_eq_true, Bool.and_eq_true] at z
    obtain ⟨z1, z2, z3⟩ := z
    cases h2
    exact ⟨ds, zs, h1, h3, z1, of_decide_eq_true z2, of_decide_eq_true z3, rfl, rfl⟩
  · cases h2
theorem key_stp {K : PySem.W.Frag} {a b : IE} {σ : L2.St} {H : Hp} {Q : VK} (h : tI (.blt .stp (.cons a (.cons b .nil))) σ H Q) : tTupF (StX.tStar K (tI a) (tCons (tI b) tNil)) σ H Q := by
  obtain ⟨pa, H0, G0, G, s, d, t, s3, S0, e, kk⟩ := h
  rw [evalE] at e
  obtain ⟨⟨xs, s2⟩, e1, e⟩ := obind e
  obtain ⟨⟨d', fr⟩, e4, e⟩ := obind e
  cases e
  rw [evalEs] at e1
  obtain ⟨⟨⟨d1, t1⟩, s1⟩, e0, e1⟩ := obind e1
  obtain ⟨⟨ys, s4⟩, e2, e1⟩ := obind e1
  cases e1
  rw [evalEs] at e2
  obtain ⟨⟨⟨d2, t2⟩, s5⟩, e3, e2⟩ := obind e2
  obtain ⟨⟨zs, s6⟩, e5, e2⟩ := obind e2
  rw [evalEs] at e5
  cases e5
  cases e2
  obtain ⟨ds, hx, hy, hl, rfl, rfl⟩ := stp_some e4
  refine tV_of S0 e0 fun v H1 G1 S1 E1 R1 N1 => ?_
  obtain ⟨p, ws, rfl, hp, ra⟩ := seq_top (K := K) S1 (R1.top S1) hx
  refine ⟨p, ws, rfl, hp, tV_of S1 e3 fun w H2 G2 S2 E2 R2 N2 => ?_⟩
  have rps : Rps pa G2 (ws ++ [w]) (ds ++ [d2]) := (Rps.mono E2.gk ra).app (.cons (hard_top (R2.top S2) hy) .nil)
  exact ⟨by rw [rps.len, List.length_append]; exact Nat.le_trans (Nat.add_le_add_right hl 1) (by decide), Res.tup (fun v H2 r => fin (fr := false) S2 (E1.trans S2 E2) kk v H2 r) rps⟩
theorem key_stl {K : PySem.W.Frag} {a b : IE} {σ : L2.St} {H : Hp} {Q : VK} (h : tI (.blt .stl (.cons a (.cons b .nil))) σ H Q) : tLst (StX.tStar K (tI a) (tCons (tI b) tNil)) σ H Q := by
  obtain ⟨pa, H0, G0, G, s, d, t, s3, S0, e, kk⟩ := h
  rw [evalE] at e
  obtain ⟨⟨xs, s2⟩, e1, e⟩ := obind e
  obtain ⟨⟨d', fr⟩, e4, e⟩ := obind e
  cases e
  rw [evalEs] at e1
  obtain ⟨⟨⟨d1, t1⟩, s1⟩, e0, e1⟩ := obind e1
  obtain ⟨⟨ys, s4⟩, e2, e1⟩ := obind e1
  cases e1
  rw [evalEs] at e2
  obtain ⟨⟨⟨d2, t2⟩, s5⟩, e3, e2⟩ := obind e2
  obtain ⟨⟨zs, s6⟩, e5, e2⟩ := obind e2
  rw [evalEs] at e5
  cases e5
  cases e2
  obtain ⟨ds, hx, hy, hl, rfl, rfl⟩ := stl_some e4
  refine tV_of S0 e0 fun v H1 G1 S1 E1 R1 N1 => ?_
  obtain ⟨p, ws, rfl, hp, ra⟩ := seq_top (K := K) S1 (R1.top S1) hx
  refine ⟨p, ws, rfl, hp, tV_of S1 e3 fun w H2 G2 S2 E2 R2 N2 => ?_⟩
  have rps : Rps pa G2 (ws ++ [w]) (ds ++ [d2]) := (Rps.mono E2.gk ra).app (.cons (hard_top (R2.top S2) hy) .nil)
  exact ⟨by rw [rps.len, List.length_append]; exact Nat.le_trans (Nat.add_le_add_right hl 1) (by decide), fun q hq => fin (fr := true) S2 (E1.trans S2 E2) kk _ _ (.lst hq rps)⟩
theorem key_sth {K : PySem.W.Frag} {a b : IE} {σ : L2.St} {H : Hp} {Q : VK} (h : tI (.blt .sth (.cons a (.cons b .nil))) σ H Q) : tLst (tCons (tI a) (StX.tStar K (tI b) tNil)) σ H Q := by
  obtain ⟨pa, H0, G0, G, s, d, t, s3, S0, e, kk⟩ := h
  rw [evalE] at e
  obtain ⟨⟨xs, s2⟩, e1, e⟩ := obind e
  obtain ⟨⟨d', fr⟩, e4, e⟩ := obind e
  cases e
  rw [evalEs] at e1
  obtain ⟨⟨⟨d1, t1⟩, s1⟩, e0, e1⟩ := obind e1
  obtain ⟨⟨ys, s4⟩, e2, e1⟩ := obind e1
  cases e1
  rw [evalEs] at e2
  obtain ⟨⟨⟨d2, t2⟩, s5⟩, e3, e2⟩ := obind e2
  obtain ⟨⟨zs, s6⟩, e5, e2⟩ := obind e2
  rw [evalEs] at e5
  cases e5
  cases e2
  obtain ⟨ds, hx, hy, hl, rfl, rfl⟩ := sth_some e4
  refine tV_of S0 e0 fun v H1 G1 S1 E1 R1 N1 => ?_
  refine tV_of S1 e3 fun w H2 G2 S2 E2 R2 N2 => ?_
  obtain ⟨p, ws, rfl, hp, ra⟩ := seq_top (K := K) S2 (R2.top S2) hx
  refine ⟨p, ws, rfl, hp, ?_⟩
  have rps : Rps pa G2 (v :: (ws ++ [])) (d1 :: ds) := .cons ((hard_top (R1.top S1) hy).mono E2.gk) (by rw [List.append_nil]; exact ra)
  exact ⟨by rw [rps.len, List.length_cons]; exact Nat.le_trans (Nat.add_le_add_right hl 1) (by decide), fun q hq => fin (fr := true) S2 (E1.trans S2 E2) kk _ _ (.lst hq rps)⟩
theorem key_st3 {K : PySem.W.Frag} {a b c : IE} {σ : L2.St} {H : Hp} {Q : VK} (h : tI (.blt .st3 (.cons a (.cons b (.cons c .nil)))) σ H Q) : tTupF (StX.tStar K (tI a) (tCons (tI b) (StX.tStar K (tI c) tNil))) σ H Q := by
  obtain ⟨pa, H0, G0, G, s, d, t, s3, S0, e, kk⟩ := h
  rw [evalE] at e
  obtain ⟨⟨xs, s2⟩, e1, e⟩ := obind e
  obtain ⟨⟨d', fr⟩, e4, e⟩ := obind e
  cases e
  rw [evalEs] at e1
  obtain ⟨⟨⟨d1, t1⟩, s1⟩, e0, e1⟩ := obind e1
  obtain ⟨⟨ys, s4⟩, e2, e1⟩ := obind e1
  cases e1
  rw [evalEs] at e2
  obtain ⟨⟨⟨d2, t2⟩, s5⟩, e3, e2⟩ := obind e2
  obtain ⟨⟨zs, s6⟩, e5, e2⟩ := obind e2
  cases e2
  rw [evalEs] at e5
  obtain ⟨⟨⟨d3, t3⟩, s7⟩, e6, e5⟩ := obind e5
  obtain ⟨⟨us, s8⟩, e7, e5⟩ := obind e5
  rw [evalEs] at e7
  cases e7
  cases e5
  obtain ⟨ds, fs, hx, hz, hy, hl, hl2, rfl, rfl⟩ := st3_some e4
  refine tV_of S0 e0 fun v H1 G1 S1 E1 R1 N1 => ?_
  obtain ⟨p, ws, rfl, hp, ra⟩ := seq_top (K := K) S1 (R1.top S1) hx
  refine ⟨p, ws, rfl, hp, tV_of S1 e3 fun w H2 G2 S2 E2 R2 N2 => tV_of S2 e6 fun u H3 G3 S3 E3 R3 N3 => ?_⟩
  obtain ⟨q, gs, rfl, hq, rc⟩ := seq_top (K := K) S3 (R3.top S3) hz
  refine ⟨q, gs, rfl, hq, ?_⟩
  have E12 := E1.trans S2 E2
  have rps : Rps pa G3 (ws ++ (w :: (gs ++ []))) (ds ++ (d2 :: fs)) := (Rps.mono E3.gk (Rps.mono E2.gk ra)).app (.cons (Rp.mono E3.gk (hard_top (R2.top S2) hy)) (by rw [List.append_nil]; exact rc))
  refine ⟨?_, Res.tup (fun v H2 r => fin (fr := false) S3 (E12.trans S3 E3) kk v H2 r) rps⟩
  rw [rps.len, List.length_append, List.length_cons]
  exact Nat.le_trans (Nat.add_le_add hl (Nat.succ_le_succ hl2)) (by decide)
end Fs

set_option Elab.async false
set_option linter.all false
set_option maxRecDepth 100000
set_option maxHeartbeats 4000000
namespace Fs
open PySem PySem.Spec PyProof.Rows L2

section
variable {X : Cx} {a b c d : Expr} {pos : Pos} {ta tb tc td : TE}
/-- a op1 b op2 c op3 d -/
def tChain3 (r r' r'' : R2) (ta tb tc td : TE) : TE := fun σ H Q => ta σ H fun x H1 => tb σ H1 fun y H2 => r x y H2 fun z H3 => ∃ k, z = .bl k ∧
  (if k = true then tc σ H3 fun w H4 => r' y w H4 fun z2 H5 => ∃ m, z2 = .bl m ∧ (if m = true then td σ H5 fun u H6 => r'' w u H6 Q else Q (.bl false) H5) else Q (.bl false) H3)
theorem pe_chain3 {op op' op'' : CmpOp} {r r' r'' : R2} (ho : OpR X (compareOp op) r) (ho' : OpR X (compareOp op') r') (ho'' : OpR X (compareOp op'') r'') (ha : PE X a ta) (hb : PE X b tb) (hc : PE X c tc) (hd : PE X d td)
    (hm : lastMarks [op, op', op''] [b, c, d] = false) : PE X (.Compare a [op, op', op''] [b, c, d] pos) (tChain3 r r' r'' ta tb tc td) := by
  refine ⟨fun pins s σ H Q I h => ?_⟩
  refine Compare_chain (thn (ha.run pins s σ H _ I h) fun v s1 ⟨x, H1, I1, r1, q1⟩ => chain_link (thn (hb.run pins s1 σ H1 _ I1 q1) fun u s2 ⟨y, H2, I2, r2, q2⟩ =>
    thn (ho pins s2 σ H2 x y v u _ I2 r1 r2 q2) fun d' s3 ⟨z, H3, I3, r3, k, e, q3⟩ => ?_)) hm
  subst e
  cases r3
  refine wpAny_truthy_bool ?_
  cases k with
  | false => exact ite_ff ⟨.bl false, H3, I3, rfl, q3⟩
  | true =>
    refine ite_tt (chain_link (thn (hc.run pins s3 σ H3 _ I3 q3) fun w' s4 ⟨z', H4, I4, r4, q4⟩ => thn (ho' pins s4 σ H4 y z' u w' _ I4 r2 r4 q4) fun d2 s5 ⟨z2, H5, I5, r5, m, e2, q5⟩ => ?_))
    subst e2
    cases r5
    refine wpAny_truthy_bool ?_
    cases m with
    | false => exact ite_ff ⟨.bl false, H5, I5, rfl, q5⟩
    | true => exact ite_tt (chain_last (thn (hd.run pins s5 σ H5 _ I5 q5) fun u2 s6 ⟨y2, H6, I6, r6, q6⟩ => ho'' pins s6 σ H6 z' y2 w' u2 Q I6 r4 r6 q6))
theorem pt_chain3 {op op' op'' : CmpOp} {r r' r'' : R2} (ho : OpR X (compareOp op) r) (ho' : OpR X (compareOp op') r') (ho'' : OpR X (compareOp op'') r'') (ha : PE X a ta) (hb : PE X b tb) (hc : PE X c tc) (hd : PE X d td)
    (hm : lastMarks [op, op', op''] [b, c, d] = false) : PT X (.Compare a [op, op', op''] [b, c, d] pos) (tTest (tChain3 r r' r'' ta tb tc td)) := by
  refine ⟨fun pins s σ H Q I h => ?_⟩
  refine isTrue_chain (thn (ha.run pins s σ H _ I h) fun v s1 ⟨x, H1, I1, r1, q1⟩ => test_link (thn (hb.run pins s1 σ H1 _ I1 q1) fun u s2 ⟨y, H2, I2, r2, q2⟩ =>
    thn (ho pins s2 σ H2 x y v u _ I2 r1 r2 q2) fun d' s3 ⟨z, H3, I3, r3, k, e, q3⟩ => ?_)) hm
  subst e
  cases r3
  refine wpAny_truthy_bool ?_
  cases k with
  | false =>
    obtain ⟨k', e', q'⟩ := q3
    cases e'
    exact ite_ff ⟨H3, I3, q'⟩
  | true =>
    refine ite_tt (test_link (thn (hc.run pins s3 σ H3 _ I3 q3) fun w' s4 ⟨z', H4, I4, r4, q4⟩ => thn (ho' pins s4 σ H4 y z' u w' _ I4 r2 r4 q4) fun d2 s5 ⟨z2, H5, I5, r5, m, e2, q5⟩ => ?_))
    subst e2
    cases r5
    refine wpAny_truthy_bool ?_
    cases m with
    | false =>
      obtain ⟨k', e', q'⟩ := q5
      cases e'
      exact ite_ff ⟨H5, I5, q'⟩
    | true =>
      refine ite_tt (test_last (thn (hd.run pins s5 σ H5 _ I5 q5) fun u2 s6 ⟨y2, H6, I6, r6, q6⟩ => thn (ho'' pins s6 σ H6 z' y2 w' u2 _ I6 r4 r6 q6) fun d3 s7 ⟨z3, H7, I7, r7, k3, e3, q7⟩ => ?_))
      subst e3
      cases r7
      exact wpAny_truthy_bool ⟨H7, I7, q7⟩
theorem lastMarks3 {o p q : CmpOp} {b c d : Expr} (h : plX d = true) : lastMarks [o, p, q] [b, c, d] = false := mark_pl h
end

/-- f(*e) -/
theorem pe_gcallS {X : Cx} {k : Nat} {f : Addr} {fd : FuncData} {ps : List Str} {sp : GSp} {x : Str} {p pos sp_ : Pos} {e : Expr} {te : TE}
    (F : GFn (wdOf X) k f fd ps sp) (hr : Room k X.A) (hgd : X.A.guards = some []) (hg : Gl X x) (hm : X.mg x = some (.ref f)) (hk : PySem.W.keepIn X.K (.ref f) = true) (hb : Binds X.K fd ps []) (he : PE X e te)
    (hdb : (x == ("__debug__" : Str)) = false) (hst : starEach [.Starred e sp_] X.env = [(true, eval e X.env)] := by rfl) :
    PE X (.Call (.Name x p) [.Starred e sp_] [] pos) (fun σ H Q => te σ H fun y H1 => ∃ a xs, y = V.ref a ∧ (SqT X.K H1 a xs ∨ SqL X.K H1 a xs) ∧ sp xs H1 Q) := by
  refine ⟨fun pins s σ H Q I h => ?_⟩
  refine wpAny_Call_Name_kw (ld_glob I hg hm ?_ hdb)
  refine PySem.W.callWith_S (h₀ := X.base) I.ok.mod.kin hk (thn (he.run pins s σ H _ I h) fun v s1 ⟨y, H1, I1, ry, a, xs, ey, hxs, q⟩ => ?_) hst
  subst ey
  obtain rfl : v = Value.ref a := ry
  refine StX.star_any I1 hxs fun us s2 I2 r => ⟨I2.kIn, ?_⟩
  have n1 : (us ++ ([] : List Value)).length = ps.length := by rw [List.append_nil, ← r.length]; exact F.len _ _ _ q
  have b1 := hb s2 us I2.kIn n1
  rw [List.append_nil] at b1
  refine wpAny_call (codeAny_mono (F.run X.A X.stack s2 H1 ⟨us, []⟩ us xs Q hr hgd I2.env0 b1 r q) fun r s' got => ?_)
  match r, got with
  | .ok (.ret u), got => exact I2.after got

section
variable {X : Cx} {d : Addr} {es : Array DictEntry} {n : Nat} {o e f : Expr} {apos cpos : Pos} {ty tx : TE}
theorem ix_tab (D : KDict X.K X.w d es n) : IxR X (fun x y H Q => ∃ (z : Str) (u0 : Value) (v0 : V), x = .ref d ∧ y = .str z ∧ PySem.W.nsIn X.K d z = some (some u0) ∧ RelV v0 u0 ∧ Q v0 H) := by
  intro value slice pins s σ H x y v u Q I rx ry h hs
  have h0 := h
  obtain ⟨z, u0, v0, rfl, rfl, e, r, q⟩ := h
  have rx0 := rx
  cases rx
  exact tail_any (kd_type D I) PySem.F.slot_dict_getitem.lookup (op_item_kd D pins s σ H _ _ _ _ Q I rx0 ry h0) hs
theorem pe_tabGet (D : KDict X.K X.w d es n) (ho : PE X o (tC (.ref d))) (he : PE X e ty) (hf : PE X f tx) (m : M2 X o "get" apos e f cpos) :
    PE X (.Call (.Attribute o "get" apos) [e, f] [] cpos) (fun σ H Q => ty σ H fun y H1 => tx σ H1 fun z H2 => ∃ (t : Str) (r : Option Value) (g : V), y = .str t ∧ PySem.W.nsIn X.K d t = some r ∧ (∀ rz, RelV z rz → RelV g (r.getD rz)) ∧ Q g H2) := by
  refine ⟨fun pins s σ H Q I h => ?_⟩
  refine wpAny_Call_method m.base m.few m.line PySem.F.plainAttrs_dict PySem.F.slot_dict_get PySem.F.type_dict_get (thn (ho.run pins s σ H (fun x H1 => x = .ref d ∧ ty σ H1 fun y H2 => tx σ H2 fun z H3 => ∃ (t : Str) (r : Option Value) (g : V), y = .str t ∧ PySem.W.nsIn X.K d t = some r ∧ (∀ rz, RelV z rz → RelV g (r.getD rz)) ∧ Q g H3) I ⟨rfl, h⟩) fun u s1 ⟨x, H1, I1, rx, ex, q1⟩ => ?_)
  subst ex
  obtain rfl : u = Value.ref d := rx
  have mp := PySem.W.mapOf_K (prog := X.prog) (w := X.w) I1.kIn D.at_ D.lit
  refine ⟨mp.typeIs, mp.noDict, ?_⟩
  rw [m.trees]
  refine Calls.callWith_builtin rfl (Calls.evalArgs_plain (Calls.spliced_cons (thn (he.run pins s1 σ H1 _ I1 q1) fun iv s2 ⟨y, H2, I2, ry, q2⟩ =>
    Calls.spliced_cons (thn (hf.run pins s2 σ H2 _ I2 q2) fun fv s3 ⟨z, H3, I3, rz, t, r, g, ey, en, hg, q3⟩ => Calls.spliced_nil ?_))))
  subst ey
  obtain ⟨tk, rfl⟩ := ry
  have mp3 := PySem.W.mapOf_K (prog := X.prog) (w := X.w) I3.kIn D.at_ D.lit
  refine call_meetsIn PySem.F.slot_dict_get mp3.typeIs PySem.F.entry_dict_get (PySem.F.args_dict_get_3 _ _ _) (meets_dict_get_default (strKind X.prog X.w) d (PySem.strKind_is X.prog X.w t tk) D.low fv) ⟨_, mp3, ?_⟩
  rw [PySem.W.find_K D.at_ en]
  exact ⟨g, H3, I3.tok _, hg _ rz, q3⟩
end
section
variable {k : Nat} {X : Cx} {σ : L2.St} {H : Hp} {Q : VK}
theorem key_cmp3 {o p q : CmpOp} {a b c d : IE} (h : tI (.cmp3 o p q a b c d) σ H Q) : tChain3 (rC2 o) (rC2 p) (rC2 q) (tI a) (tI b) (tI c) (tI d) σ H Q := by
  obtain ⟨pa, H0, G0, G, s, d0, t, s3, S0, e, kk⟩ := h
  rw [evalE] at e
  obtain ⟨⟨⟨d1, t1⟩, s1⟩, e1, e⟩ := obind e
  obtain ⟨⟨⟨d2, t2⟩, s2⟩, e2, e⟩ := obind e
  obtain ⟨b1, e3, e⟩ := obind e
  refine two S0 e1 e2 fun v w H2 G2 S2 E2 R1 N1 R2 N2 => ⟨pa, G2, d1, d2, b1, S2.sub, R1.top S2, R2.top S2, e3, b1, rfl, ?_⟩
  cases b1 with
  | true =>
    rw [if_pos rfl] at e ⊢
    obtain ⟨⟨⟨d3, t3⟩, s4⟩, e4, e⟩ := obind e
    obtain ⟨m, e5, e⟩ := obind e
    refine tV_of S2 e4 fun z H3 G3 S3 E3 R3 N3 => ⟨pa, G3, d2, d3, m, S3.sub, (R2.ext S3 E3).top S3, R3.top S3, e5, m, rfl, ?_⟩
    cases m with
    | true =>
      rw [if_pos rfl] at e ⊢
      obtain ⟨⟨⟨d4, t4⟩, s5⟩, e6, e⟩ := obind e
      obtain ⟨j, e7, e⟩ := obind e
      cases e
      exact tV_of S3 e6 fun z2 H4 G4 S4 E4 R4 N4 => ⟨pa, G4, d3, d4, j, S4.sub, (R3.ext S4 E4).top S4, R4.top S4, e7, kk _ H4 G4 S4 ((E2.trans S3 E3).trans S4 E4) (.bl j) nofz⟩
    | false =>
      rw [if_neg (by decide)] at e ⊢
      cases e
      exact kk _ H3 G3 S3 (E2.trans S3 E3) (.bl false) nofz
  | false =>
    rw [if_neg (by decide)] at e ⊢
    cases e
    exact kk _ H2 G2 S2 E2 (.bl false) nofz
theorem tupD_some {d : D} {ds : List D} (h : tupD d = some ds) : d = .tuple ds := by
  unfold tupD at h
  split at h
  · cases h; rfl
  · cases h
theorem key_calS {K : PySem.W.Frag} {x : Str} {F : Fn} {n : Nat} {a : IE} (h : tI (.calS x F n a) σ H Q) : tI a σ H fun y H1 => ∃ p xs, y = V.ref p ∧ (SqT K H1 p xs ∨ SqL K H1 p xs) ∧ spF F n xs H1 Q := by
  obtain ⟨pa, H0, G0, G, s, d, t, s2, S0, e, kk⟩ := h
  rw [evalE] at e
  obtain ⟨⟨⟨d1, t1⟩, s1⟩, e1, ea⟩ := obind e
  clear e
  obtain ⟨ds, e0, e⟩ := obind ea
  clear ea
  have e0' := tupD_some e0
  dsimp only at e0'
  subst e0'
  by_cases hl : ds.length = n
  case neg =>
    rw [if_neg hl] at e
    cases e
  rw [if_pos hl] at e
  obtain ⟨⟨⟨d', fr⟩, pn⟩, e2, e⟩ := obind e
  dsimp only at e e2
  refine tV_of S0 e1 fun v H1 G1 S1 E1 R1 N1 => ?_
  obtain ⟨p, ws, rfl, hp, ra⟩ := seq_top (K := K) (ds := ds) S1 (R1.top S1) rfl
  refine ⟨p, ws, rfl, hp, pa, G1, ds, s1.pn, d', fr, pn, hl, S1.sub, S1.pen, ra, e2, fun v H2 G2 kept g1 g2 nw hpn res => ?_⟩
  by_cases z : scal d' = true
  · rw [if_pos z] at e
    cases e
    have fr0 : fr = false := by
      cases fr with
      | false => rfl
      | true =>
        rw [if_pos rfl] at res
        obtain ⟨_, _, _, _, rfl, _⟩ := res
        cases z
    subst fr0
    rw [if_neg (by decide)] at res
    obtain ⟨S2, E2⟩ := S1.call kept .refl (Sub.keptPen S1 kept) (fun _ _ h => .inl h) (hpn.back S1.pen g1)
    exact kk v H2 G1 S2 (E1.trans S2 E2) (Rp.scal_mono z res) nofz
  · rw [if_neg z] at e
    cases e
    obtain ⟨S2, E2⟩ := S1.call kept g1 g2 nw hpn
    refine kk v H2 G2 S2 (E1.trans S2 E2) ?_ ?_
    · cases fr with
      | false => rw [if_neg (by decide)] at res; exact res
      | true =>
        rw [if_pos rfl] at res
        obtain ⟨a, ys, es', rfl, rfl, ha, ha2, r, g⟩ := res
        obtain ⟨n1, n2, n3, n4⟩ := S1.none0 ha
        exact ⟨a, ys, es', rfl, rfl, ha2, r, g, n1, n3, n4⟩
    · cases fr with
      | false => exact nofz
      | true =>
        rw [if_pos rfl] at res
        obtain ⟨a, ys, es', rfl, rfl, ha, ha2, r, g⟩ := res
        intro _ b e
        cases e
        exact E1.back ha S1
theorem tab_str {m : TabM} {tb : List (Str × Int)} {d d2 : D} (h : tabD m tb d = some d2) : ∃ z, d = .str z := by
  unfold tabD at h
  split at h
  · exact ⟨_, rfl⟩
  · cases h
end
section
variable {X : Cx} {σ : L2.St} {H : Hp} {Q : VK} {d : Addr} {en : Array DictEntry} {n : Nat} {tb : List (Str × Int)}
theorem key_tabGet (D : KDict X.K X.w d en n) (h : TabR X.w.params en.toList tb) {i : Int} {x : Str} {a : IE} (q : tI (.tab (.get i) x tb a) σ H Q) :
    tI a σ H fun y H1 => tC (.int i) σ H1 fun z H2 => ∃ (t : Str) (r : Option Value) (g : V), y = .str t ∧ PySem.W.nsIn X.K d t = some r ∧ (∀ rz, RelV z rz → RelV g (r.getD rz)) ∧ Q g H2 := by
  obtain ⟨pa, H0, G0, G, s, d0, t, s3, S0, e, kk⟩ := q
  rw [evalE] at e
  obtain ⟨⟨⟨d1, t1⟩, s1⟩, e1, e⟩ := obind e
  obtain ⟨d2, e2, e⟩ := obind e
  cases e
  obtain ⟨z, rfl⟩ := tab_str e2
  refine tV_of S0 e1 fun v H1 G1 S1 E1 R1 N1 => ?_
  obtain ⟨r, hr, hv⟩ := h.ns D z
  cases e2
  refine ⟨z, r, .int ((tbl tb z).getD i), RpT.str (R1.top S1), hr, fun rz rel => ?_, kk _ H1 G1 S1 E1 (.int _) nofz⟩
  cases r with
  | none =>
    cases y : tbl tb z with
    | none => exact rel
    | some u => rw [y] at hv; exact hv.elim
  | some u =>
    cases y : tbl tb z with
    | none => rw [y] at hv; exact hv.elim
    | some m =>
      rw [y] at hv
      obtain ⟨tk, rfl⟩ := hv
      exact ⟨tk, rfl⟩
theorem key_tabMem (D : KDict X.K X.w d en n) (h : TabR X.w.params en.toList tb) {x : Str} {a : IE} (q : tI (.tab .mem x tb a) σ H Q) :
    tOp (fun x y H Q => ∃ (z : Str) (r : Option Value), x = .str z ∧ y = .ref d ∧ PySem.W.nsIn X.K d z = some r ∧ Q (.bl r.isSome) H) (tI a) (tC (.ref d)) σ H Q := by
  obtain ⟨pa, H0, G0, G, s, d0, t, s3, S0, e, kk⟩ := q
  rw [evalE] at e
  obtain ⟨⟨⟨d1, t1⟩, s1⟩, e1, e⟩ := obind e
  obtain ⟨d2, e2, e⟩ := obind e
  cases e
  obtain ⟨z, rfl⟩ := tab_str e2
  refine tV_of S0 e1 fun v H1 G1 S1 E1 R1 N1 => ?_
  obtain ⟨r, hr, hv⟩ := h.ns D z
  cases e2
  have e3 : r.isSome = (tbl tb z).isSome := by
    cases r with
    | none =>
      cases y : tbl tb z with
      | none => rfl
      | some u => rw [y] at hv; exact hv.elim
    | some u =>
      cases y : tbl tb z with
      | none => rw [y] at hv; exact hv.elim
      | some m => rfl
  refine ⟨z, r, RpT.str (R1.top S1), rfl, hr, ?_⟩
  rw [e3]
  exact kk _ H1 G1 S1 E1 (.bl _) nofz
theorem key_tabIx (D : KDict X.K X.w d en n) (h : TabR X.w.params en.toList tb) {x : Str} {a : IE} (q : tI (.tab .ix x tb a) σ H Q) :
    tOp (fun x y H Q => ∃ (z : Str) (u0 : Value) (v0 : V), x = .ref d ∧ y = .str z ∧ PySem.W.nsIn X.K d z = some (some u0) ∧ RelV v0 u0 ∧ Q v0 H) (tC (.ref d)) (tI a) σ H Q := by
  obtain ⟨pa, H0, G0, G, s, d0, t, s3, S0, e, kk⟩ := q
  rw [evalE] at e
  obtain ⟨⟨⟨d1, t1⟩, s1⟩, e1, e⟩ := obind e
  obtain ⟨d2, e2, e⟩ := obind e
  cases e
  obtain ⟨z, rfl⟩ := tab_str e2
  refine tV_of S0 e1 fun v H1 G1 S1 E1 R1 N1 => ?_
  obtain ⟨r, hr, hv⟩ := h.ns D z
  obtain ⟨m, e4, e5⟩ := Option.map_eq_some_iff.mp (show (tbl tb z).map PyData.int = some _ from e2)
  subst e5
  rw [e4] at hv
  cases r with
  | none => exact hv.elim
  | some u =>
    obtain ⟨tk, rfl⟩ := hv
    exact ⟨z, _, .int m, rfl, RpT.str (R1.top S1), hr, ⟨tk, rfl⟩, kk _ H1 G1 S1 E1 (.int _) nofz⟩
end
theorem few_two' {e : Expr} {i : Int} {p cpos : Pos} {env : Env} (h : plX e = true) : ((backTo cpos (starEach [e, .Constant (.int i) 0 p] env)).all (fun x => !x.1) && (backToKw cpos (keywordEach [] env)).all (fun x => x.1.isSome)
      && decide ([e, .Constant (.int i) 0 p].length + ([] : List Keyword).length + (if ([] : List Keyword).isEmpty then 0 else 1) < 30)) = true := by
  rw [star_pl h]; rfl
theorem trees_two' {e : Expr} {i : Int} {p cpos : Pos} {env : Env} (h : plX e = true) : backTo cpos (starEach [e, .Constant (.int i) 0 p] env) = [(false, eval e env), (false, eval (.Constant (.int i) 0 p) env)] := by
  rw [star_pl h]; rfl
end Fs

set_option Elab.async false
set_option linter.all false
set_option maxRecDepth 100000
set_option maxHeartbeats 8000000
namespace Fs
open PySem L2

theorem boot_isi : bootBuiltins "isinstance" = some (.builtin "isinstance") := by decide +kernel
theorem boot_ty (t : Ty5) : bootBuiltins t.name = some (.type t.ty) := by cases t <;> decide +kernel
section
variable {k : Nat}
/-- one of the builtins' names -/
theorem Cd.no {X : Cx} {N : List Str} {sc : Scope} (C : Cd X N sc k) (x : Str) (h : x ∈ bnames := by decide) : X.mg x = none := C.bl x h
theorem ty_in (t : Ty5) : t.name ∈ bnames := by cases t <;> decide
theorem ty_ne (t : Ty5) : t.name ≠ "__name__" ∧ (t.name == ("__debug__" : Str)) = false := by cases t <;> decide
theorem and1 {a b : Bool} (h : (a && b) = true) : a = true ∧ b = true := by simpa using h

theorem blt_call {X : Cx} {N : List Str} {f : Bf} {id : String} {es : IEs} {E : Em} {x : Str} {p pos : Pos} (hne : es ≠ .nil) (hc : CallR X (.builtin id) (rBlt f)) (hg : Gl X x) (hm : X.mg x = none) (hv : bootBuiltins x = some (.builtin id)) (hn : x ≠ "__name__") (hdb : (x == ("__debug__" : Str)) = false)
    (ha : L2.PA X (emEs N es E).1 (tAs es)) : PE X (.Call (.Name x p) (emEs N es E).1 [] pos) (tI (.blt f es)) := by
  cases es with
  | nil => exact absurd rfl hne
  | cons e es =>
    refine imp (pe_callB (e := (emE N e E).1) (es := (emEs N es (emE N e E).2).1) hc hg hm hv ha hn hdb (star_pl (em_pl N e E)) (stars N _ _ es _)) fun σ H Q q => key_blt q
theorem blt_callT {X : Cx} {N : List Str} {f : Bf} {T : String} {es : IEs} {E : Em} {x : Str} {p pos : Pos} (hne : es ≠ .nil) (hc : CallR X (.type T) (rBlt f)) (hg : Gl X x) (hm : X.mg x = none) (hv : bootBuiltins x = some (.type T)) (hn : x ≠ "__name__") (hdb : (x == ("__debug__" : Str)) = false)
    (ha : L2.PA X (emEs N es E).1 (tAs es)) : PE X (.Call (.Name x p) (emEs N es E).1 [] pos) (tI (.blt f es)) := by
  cases es with
  | nil => exact absurd rfl hne
  | cons e es =>
    refine imp (pe_callTy (e := (emE N e E).1) (es := (emEs N es (emE N e E).2).1) hc hg hm hv ha hn hdb (star_pl (em_pl N e E)) (stars N _ _ es _)) fun σ H Q q => key_blt q
theorem blt_nil (f : Bf) (s : S) : evalE (.blt f .nil) s = none := by
  rw [evalE, evalEs]
  cases f <;> rfl
theorem mth_none (m : Str) (es : IEs) (s : S) : evalE (.blt (.mth m) es) s = none := by
  rw [evalE]
  cases evalEs es s with
  | none => rfl
  | some r =>
    rfl
theorem sset_two {f : Bf} (hf : f = .sset ∨ f = .lrange ∨ f = .trange) (a b : IE) (es : IEs) (s : S) : evalE (.blt f (.cons a (.cons b es))) s = none := by
  rw [evalE]
  cases h : evalEs (.cons a (.cons b es)) s with
  | none => rfl
  | some r =>
    obtain ⟨xs, s1⟩ := r
    have l := ev_len _ h
    match xs, l with
    | (d, t) :: y :: zs, _ => rcases hf with rfl | rfl | rfl <;> (cases d <;> rfl)
    | [x], l => simp [IEs.len] at l
    | [], l => simp [IEs.len] at l
theorem fold_sr (N : List Str) (src : Sr) (E : Em) {env : Env} : ∀ x, foldedSetIterable (emSr N src E).1 env x = pure x := by
  cases src with
  | seq e => exact fold_pl (em_pl N e E)
  | _ => intro x; rfl
theorem scal_any {G : Hp} {pa : PA} {v : V} {d : D} (z : scal d = true) (r : Rp none (fun _ => none) v d) : Rp pa G v d := by
  cases r with
  | non => exact .non
  | bl b => exact .bl b
  | int i => exact .int i
  | str x => exact .str x
  | lst h r => cases z
  | tup h r => cases z
  | pen h => cases z
  | exc h => cases z

mutual
theorem sE : ∀ (e : IE) {X : Cx} {N : List Str} {sc : Scope} {E : Em}, Cd X N sc k → okE N sc e E = true → askE (askOf (wdOf X) k) e → Sd X N k e E
  | .var i, X, N, sc, E, C, ho, ha => by
    rw [okE] at ho
    obtain ⟨h1, h2, h3, h4⟩ := vis_of ho
    refine .val (imp (pe_var (X := X) (i := i) (by rw [C.hN]; exact h1) (by rw [C.hs]; exact h2) h3 h4) fun σ H Q q => ?_) rfl
    obtain ⟨pa, H0, G0, G, s, d, t, s1, S0, e, kk⟩ := q
    rw [evalE] at e
    obtain ⟨p, hp, e⟩ := Option.map_eq_some_iff.mp e
    obtain ⟨d', f⟩ := p
    have at1 : s.sl[i]? = some (some (d', f)) := by
      unfold rd at hp
      obtain ⟨o, h1, h2⟩ := Option.bind_eq_some_iff.mp hp
      have h2 : o = some (d', f) := h2
      rw [h1, h2]
    cases e
    cases f with
    | true =>
      obtain ⟨a, xs, ds, e1, _⟩ := S0.ow i _ at1
      exact ⟨_, e1, kk _ H G S0 .refl ⟨true, at1, e1⟩ fun z => by cases z⟩
    | false =>
      obtain ⟨v, e1, r⟩ := S0.fz i _ at1
      exact ⟨v, e1, kk _ H G S0 .refl r nofz⟩
  | .int n, X, N, sc, E, C, ho, ha => .val (imp pe_int fun σ H Q q => by
    obtain ⟨pa, H0, G0, G, s, d, t, s1, S0, e, kk⟩ := q
    rw [evalE] at e; cases e
    exact kk _ H G S0 .refl (.int n) nofz) rfl
  | .bool n, X, N, sc, E, C, ho, ha => .val (imp pe_bl fun σ H Q q => by
    obtain ⟨pa, H0, G0, G, s, d, t, s1, S0, e, kk⟩ := q
    rw [evalE] at e; cases e
    exact kk _ H G S0 .refl (.bl n) nofz) rfl
  | .non, X, N, sc, E, C, ho, ha => .val (imp pe_non fun σ H Q q => by
    obtain ⟨pa, H0, G0, G, s, d, t, s1, S0, e, kk⟩ := q
    rw [evalE] at e; cases e
    exact kk _ H G S0 .refl .non nofz) rfl
  | .str n, X, N, sc, E, C, ho, ha => .val (imp pe_str fun σ H Q q => by
    obtain ⟨pa, H0, G0, G, s, d, t, s1, S0, e, kk⟩ := q
    rw [evalE] at e; cases e
    exact kk _ H G S0 .refl (.str n) nofz) rfl
  | .glob x d, X, N, sc, E, C, ho, ha => by
    rw [okE] at ho
    obtain ⟨h1, h2⟩ := and1 ho
    obtain ⟨g1, g2⟩ := gl_of C h1
    rw [askE] at ha
    obtain ⟨v, u, m, r, rp⟩ := ha
    refine .val (imp (pe_glob g1 m r g2) fun σ H Q q => ?_) rfl
    obtain ⟨pa, H0, G0, G, s, d, t, s1, S0, e, kk⟩ := q
    rw [evalE] at e; cases e
    exact kk _ H G S0 .refl (scal_any h2 rp) nofz
  | .bin op a b, X, N, sc, E, C, ho, ha => by
    rw [okE] at ho
    rw [askE] at ha
    obtain ⟨h1, h2⟩ := and1 ho
    exact .val (imp (pe_op (op_bin op) (sE a C h1 ha.1).pe (sE b C h2 ha.2).pe) fun σ H Q q => key_bin q) rfl
  | .neg a, X, N, sc, E, C, ho, ha => by
    rw [okE] at ho
    rw [askE] at ha
    exact .val (imp (pe_un un_neg (sE a C ho ha).pe) fun σ H Q q => key_neg q) rfl
  | .not a, X, N, sc, E, C, ho, ha => by
    rw [okE] at ho
    rw [askE] at ha
    exact ⟨imp (pe_not (sE a C ho ha).pe) fun σ H Q q => key_not q, PT.imp (pt_not (sE a C ho ha).pt) fun σ H Q q => key_notQ q⟩
  | .cmp op a b, X, N, sc, E, C, ho, ha => by
    rw [okE] at ho
    rw [askE] at ha
    obtain ⟨h1, h2⟩ := and1 ho
    have pa := (sE a C h1 ha.1).pe
    have pb := (sE b C h2 ha.2).pe
    exact .cmpLike (pe_cmpR (op_cmp op C.un) pa pb (mark_pl (em_pl N b _))) (pt_cmpR (op_cmp op C.un) pa pb (mark_pl (em_pl N b _))) fun σ H Q q => key_cmp q
  | .isN a, X, N, sc, E, C, ho, ha => by
    rw [okE] at ho
    rw [askE] at ha
    have pa := (sE a C ho ha).pe
    exact .cmpLike (pe_cmp (pc_isN pa)) (pt_cmp (pc_isN pa)) fun σ H Q q => key_isN q
  | .notN a, X, N, sc, E, C, ho, ha => by
    rw [okE] at ho
    rw [askE] at ha
    have pa := (sE a C ho ha).pe
    exact .cmpLike (pe_cmp (pc_notN pa)) (pt_cmp (pc_notN pa)) fun σ H Q q => key_notN q
  | .cmp2 o p a b c, X, N, sc, E, C, ho, ha => by
    rw [okE] at ho
    rw [askE] at ha
    obtain ⟨h1, h2⟩ := and1 ho
    obtain ⟨h2, h3⟩ := and1 h2
    have pa := (sE a C h1 ha.1).pe
    have pb := (sE b C h2 ha.2.1).pe
    have pc := (sE c C h3 ha.2.2).pe
    have hm : lastMarks [o, p] [(emE N b (emE N a E.np).2).1, (emE N c (emE N b (emE N a E.np).2).2).1] = false := mark_pl (em_pl N c _)
    exact .cmpLike (pe_chain (op_cmp o C.un) (op_cmp p C.un) pa pb pc hm) (pt_chain (op_cmp o C.un) (op_cmp p C.un) pa pb pc hm) fun σ H Q q => key_cmp2 q
  | .and es, X, N, sc, E, C, ho, ha => by
    rw [okE] at ho
    rw [askE] at ha
    have h := (sB es C ho ha).1
    refine ⟨imp (h.pe E.p) fun σ H Q q => ?_, PT.imp (h.pw E.p).pt fun σ H Q q => ?_⟩
    · have e : evalE (.and es) = evalAnd es := by funext s; rw [evalE]
      rwa [tI, e] at q
    · have e : evalE (.and es) = evalAnd es := by funext s; rw [evalE]
      rwa [e] at q
  | .or es, X, N, sc, E, C, ho, ha => by
    rw [okE] at ho
    rw [askE] at ha
    have h := (sB es C ho ha).2
    refine ⟨imp (h.pe E.p) fun σ H Q q => ?_, PT.imp (h.pw E.p).pt fun σ H Q q => ?_⟩
    · have e : evalE (.or es) = evalOr es := by funext s; rw [evalE]
      rwa [tI, e] at q
    · have e : evalE (.or es) = evalOr es := by funext s; rw [evalE]
      rwa [e] at q
  | .ite c a b, X, N, sc, E, C, ho, ha => by
    rw [okE] at ho
    rw [askE] at ha
    obtain ⟨h1, h2⟩ := and1 ho
    obtain ⟨h2, h3⟩ := and1 h2
    have pc := sE c C h1 ha.1
    have pa := sE a C h2 ha.2.1
    have pb := sE b C h3 ha.2.2
    exact ⟨imp (pe_ifExp pc.pt pa.pe pb.pe) fun σ H Q q => key_ite q, PT.imp (pt_ifE pc.pt pa.pt pb.pt) fun σ H Q q => key_iteQ q⟩
  | .tup es, X, N, sc, E, C, ho, ha => by
    rw [okE] at ho
    rw [askE] at ha
    obtain ⟨h1, h2⟩ := and1 ho
    have hl : es.len ≤ 1000 := by rw [← em_len N es E.np]; exact of_decide_eq_true h2
    exact .val (imp (pe_tupF (sEs es C h1 ha)) fun σ H Q q => key_tup hl q) rfl
  | .lst es, X, N, sc, E, C, ho, ha => by
    rw [okE] at ho
    rw [askE] at ha
    obtain ⟨h1, h2⟩ := and1 ho
    have hl : es.len ≤ 1000 := by rw [← em_len N es E.np]; exact of_decide_eq_true h2
    exact .val (imp (pe_lst (sEs es C h1 ha)) fun σ H Q q => key_lst hl q) rfl
  | .ix a b, X, N, sc, E, C, ho, ha => by
    rw [okE] at ho
    rw [askE] at ha
    obtain ⟨h1, h2⟩ := and1 ho
    exact .val (imp (pe_ix ix_D (sE a C h1 ha.1).pe (sE b C h2 ha.2).pe (ix_pl (em_pl N b _))) fun σ H Q q => key_ix q) rfl
  | .sl a lo hi, X, N, sc, E, C, ho, ha => by
    rw [okE] at ho
    rw [askE] at ha
    obtain ⟨h1, h2⟩ := and1 ho
    obtain ⟨h2, h3⟩ := and1 h2
    exact .val (imp (pe_slice sl_D (sE a C h1 ha.1).pe (sO lo C h2 ha.2.1) (sO hi C h3 ha.2.2)) fun σ H Q q => key_sl q) rfl
  | .isi a t, X, N, sc, E, C, ho, ha => by
    rw [okE] at ho
    rw [askE] at ha
    obtain ⟨h1, h2⟩ := and1 ho
    obtain ⟨h2, h3⟩ := and1 h2
    obtain ⟨g1, g2⟩ := gl_of C h2
    obtain ⟨g3, g4⟩ := gl_of C h3
    have pn := pe_bltn (pos := (emE N a E.np.np).2.p) g3 (C.no _ (ty_in t)) (boot_ty t) (v := .ty t.ty) rfl (ty_ne t).1 g4
    have pas := pa_cons (sE a C h1 ha).pe (pa_cons pn pa_nil (by rfl)) (star_pl (em_pl N a _))
    exact .val (imp (pe_callB (b_isi t) g1 (C.no _) boot_isi pas (by decide) g2 (star_pl (em_pl N a _)) (by rfl)) fun σ H Q q => key_isi q) rfl
  | .isX x adr names sub a, X, N, sc, E, C, ho, ha => by
    rw [okE] at ho
    rw [askE] at ha
    obtain ⟨h1, h2⟩ := and1 ho
    obtain ⟨h2, h3⟩ := and1 h2
    obtain ⟨g1, g2⟩ := gl_of C h2
    obtain ⟨g3, g4⟩ := gl_of C h3
    obtain ⟨⟨v, cv, hm, rel, hcv, hk⟩, ha⟩ := ha
    have pn : PE X (.Name x (emE N a E.np.np).2.p) (tC v) := by
      rcases hm with hm | ⟨hm, hb, hn⟩
      · exact pe_glob g3 hm rel g4
      · exact pe_bltn g3 hm hb rel hn g4
    have pas := pa_cons (sE a C h1 ha).pe (pa_cons pn pa_nil (by rfl)) (star_pl (em_pl N a _))
    exact .val (imp (pe_callB call_isT g1 (C.no _) boot_isi pas (by decide) g2 (star_pl (em_pl N a _)) (by rfl)) fun σ H Q q => key_isX hcv hk q) rfl
  | .attr a m, X, N, sc, E, C, ho, ha => .val (neverV fun s => by rw [evalE]) rfl
  | .cmp3 o p q a b c d, X, N, sc, E, C, ho, ha => by
    rw [okE] at ho
    rw [askE] at ha
    obtain ⟨h1, h2⟩ := and1 ho
    obtain ⟨h2, h3⟩ := and1 h2
    obtain ⟨h3, h4⟩ := and1 h3
    have pa := (sE a C h1 ha.1).pe
    have pb := (sE b C h2 ha.2.1).pe
    have pc := (sE c C h3 ha.2.2.1).pe
    have pd := (sE d C h4 ha.2.2.2).pe
    exact .cmpLike (pe_chain3 (op_cmp o C.un) (op_cmp p C.un) (op_cmp q C.un) pa pb pc pd (lastMarks3 (em_pl N d _))) (pt_chain3 (op_cmp o C.un) (op_cmp p C.un) (op_cmp q C.un) pa pb pc pd (lastMarks3 (em_pl N d _))) fun σ H Q q => key_cmp3 q
  | .tab m x tb a, X, N, sc, E, C, ho, ha => by
    rw [askE] at ha
    obtain ⟨⟨⟨d, es, n, hm, D, R⟩⟩, ha⟩ := ha
    have rd : RelV (V.ref d) (Value.ref d) := rfl
    cases m with
    | get n =>
      rw [okE] at ho
      obtain ⟨h1, h2⟩ := and1 ho
      obtain ⟨h2, h3⟩ := and1 h2
      obtain ⟨g1, g2⟩ := gl_of C h2
      exact .val (imp (pe_tabGet D (pe_glob g1 hm rd g2) (sE a C h1 ha).pe pe_int ⟨by rfl, few_two' (em_pl N a _), h3, trees_two' (em_pl N a _)⟩) fun σ H Q q => key_tabGet D R q) rfl
    | mem =>
      rw [okE] at ho
      obtain ⟨h1, h2⟩ := and1 ho
      obtain ⟨g1, g2⟩ := gl_of C h2
      exact .cmpLike (pe_cmpR (op_in_kd D) (sE a C h1 ha).pe (pe_glob g1 hm rd g2) (mark_pl (by rfl))) (pt_cmpR (op_in_kd D) (sE a C h1 ha).pe (pe_glob g1 hm rd g2) (mark_pl (by rfl))) fun σ H Q q => key_tabMem D R q
    | ix =>
      rw [okE] at ho
      obtain ⟨h1, h2⟩ := and1 ho
      obtain ⟨g1, g2⟩ := gl_of C h2
      exact .val (imp (pe_ix (ix_tab D) (pe_glob g1 hm rd g2) (sE a C h1 ha).pe (ix_pl (em_pl N a _))) fun σ H Q q => key_tabIx D R q) rfl
  | .calS x F n e, X, N, sc, E, C, ho, ha => by
    rw [okE] at ho
    rw [askE] at ha
    obtain ⟨h1, h2⟩ := and1 ho
    obtain ⟨⟨f, fd, ps, Fn1, hm, hk, hb⟩⟩ := ha.1
    exact .val (imp (pe_gcallS Fn1 C.room C.gd (gl_of C h2).1 hm hk hb (sE e C h1 ha.2).pe (gl_of C h2).2) fun σ H Q q => key_calS q) rfl
  | .blt f es, X, N, sc, E, C, ho, ha => by
    rw [askE] at ha
    by_cases hne : es = .nil
    · subst hne
      refine .val (neverV (blt_nil f)) ?_
      cases f <;> rfl
    · cases f with
      | len =>
        rw [okE] at ho
        · obtain ⟨h1, h2⟩ := and1 ho
          exact .val (blt_call hne b_len (gl_of C h2).1 (C.no _) PySem.boot_len (by decide) (gl_of C h2).2 (sEs es C h1 ha)) rfl
        all_goals first | (intro z; cases z; done) | (intro m z; cases z; done)
      | all =>
        rw [okE] at ho
        · obtain ⟨h1, h2⟩ := and1 ho
          exact .val (blt_call hne (b_all C.calm) (gl_of C h2).1 (C.no _) PyProof.Rows.boot_all (by decide) (gl_of C h2).2 (sEs es C h1 ha)) rfl
        all_goals first | (intro z; cases z; done) | (intro m z; cases z; done)
      | any =>
        rw [okE] at ho
        · obtain ⟨h1, h2⟩ := and1 ho
          exact .val (blt_call hne (b_any C.calm) (gl_of C h2).1 (C.no _) PyProof.Rows.boot_any (by decide) (gl_of C h2).2 (sEs es C h1 ha)) rfl
        all_goals first | (intro z; cases z; done) | (intro m z; cases z; done)
      | sum =>
        rw [okE] at ho
        · obtain ⟨h1, h2⟩ := and1 ho
          exact .val (blt_call hne (b_sum C.calm) (gl_of C h2).1 (C.no _) PyProof.Rows.boot_sum (by decide) (gl_of C h2).2 (sEs es C h1 ha)) rfl
        all_goals first | (intro z; cases z; done) | (intro m z; cases z; done)
      | max =>
        rw [okE] at ho
        · obtain ⟨h1, h2⟩ := and1 ho
          exact .val (blt_call hne (b_max C.calm) (gl_of C h2).1 (C.no _) PyProof.Rows.boot_max (by decide) (gl_of C h2).2 (sEs es C h1 ha)) rfl
        all_goals first | (intro z; cases z; done) | (intro m z; cases z; done)
      | min =>
        rw [okE] at ho
        · obtain ⟨h1, h2⟩ := and1 ho
          exact .val (blt_call hne (b_min C.calm C.un) (gl_of C h2).1 (C.no _) PyProof.Rows.boot_min (by decide) (gl_of C h2).2 (sEs es C h1 ha)) rfl
        all_goals first | (intro z; cases z; done) | (intro m z; cases z; done)
      | repr =>
        rw [okE] at ho
        · obtain ⟨h1, h2⟩ := and1 ho
          exact .val (blt_call hne (b_repr C.un C.gd) (gl_of C h2).1 (C.no _) PyProof.Rows.boot_repr (by decide) (gl_of C h2).2 (sEs es C h1 ha)) rfl
        all_goals first | (intro z; cases z; done) | (intro m z; cases z; done)
      | srt =>
        rw [okE] at ho
        · obtain ⟨h1, h2⟩ := and1 ho
          exact .val (blt_call hne (b_srt C.un) (gl_of C h2).1 (C.no _) PyProof.Rows.boot_sorted (by decide) (gl_of C h2).2 (sEs es C h1 ha)) rfl
        all_goals first | (intro z; cases z; done) | (intro m z; cases z; done)
      | mth m => exact .val (neverV (mth_none m es)) rfl
      | dnew =>
        rw [okE] at ho
        match es, hne, ho with
        | .nil, hne, _ => exact absurd rfl hne
        | .cons _ _, _, ho => cases ho
      | tuple =>
        rw [okE] at ho
        · obtain ⟨h1, h2⟩ := and1 ho
          exact .val (blt_callT hne b_tuple (gl_of C h2).1 (C.no _) PyProof.Rows.boot_tuple (by decide) (gl_of C h2).2 (sEs es C h1 ha)) rfl
        all_goals first | (intro z; cases z; done) | (intro m z; cases z; done)
      | list =>
        rw [okE] at ho
        · obtain ⟨h1, h2⟩ := and1 ho
          exact .val (blt_callT hne b_list (gl_of C h2).1 (C.no _) PyProof.Rows.boot_list (by decide) (gl_of C h2).2 (sEs es C h1 ha)) rfl
        all_goals first | (intro z; cases z; done) | (intro m z; cases z; done)
      | int =>
        rw [okE] at ho
        · obtain ⟨h1, h2⟩ := and1 ho
          exact .val (blt_callT hne b_int (gl_of C h2).1 (C.no _) PyProof.Rows.boot_int (by decide) (gl_of C h2).2 (sEs es C h1 ha)) rfl
        all_goals first | (intro z; cases z; done) | (intro m z; cases z; done)
      | rev1 =>
        rw [okE] at ho
        obtain ⟨h1, h2⟩ := and1 ho
        match es, h1, h2, ha with
        | .cons a .nil, h1, _, ha =>
          rw [okEs] at h1
          rw [askEs] at ha
          exact .val (imp (pe_revD (sE a C (and1 h1).1 ha.1).pe) fun σ H Q q => key_rev q) rfl
        | .nil, _, h2, _ => cases h2
        | .cons a (.cons b es), _, h2, _ => cases h2
      | cnt =>
        rw [okE] at ho
        obtain ⟨h1, h2⟩ := and1 ho
        obtain ⟨h2, h3⟩ := and1 h2
        match es, h1, h2, ha with
        | .cons (.var i) (.cons b .nil), h1, _, ha =>
          rw [okEs, okE, okEs] at h1
          obtain ⟨g1, h1⟩ := and1 h1
          obtain ⟨g2, _⟩ := and1 h1
          rw [askEs, askEs] at ha
          obtain ⟨w1, w2, w3, w4⟩ := vis_of g1
          refine .val (imp (pe_cnt C.un (pe_var (X := X) (i := i) (by rw [C.hN]; exact w1) (by rw [C.hs]; exact w2) w3 w4) (pa_cons (sE b C g2 ha.2.1).pe pa_nil (star_pl (em_pl N b _))) (by rfl) (few_one' (em_pl N b _)) h3 (star_pl (em_pl N b _))) fun σ H Q q => key_cnt q) rfl
        | .nil, _, h2, _ => cases h2
        | .cons (.var i) .nil, _, h2, _ => cases h2
      | idx =>
        rw [okE] at ho
        obtain ⟨h1, h2⟩ := and1 ho
        obtain ⟨h2, h3⟩ := and1 h2
        match es, h1, h2, ha with
        | .cons (.var i) (.cons b .nil), h1, _, ha =>
          rw [okEs, okE, okEs] at h1
          obtain ⟨g1, h1⟩ := and1 h1
          obtain ⟨g2, _⟩ := and1 h1
          rw [askEs, askEs] at ha
          obtain ⟨w1, w2, w3, w4⟩ := vis_of g1
          refine .val (imp (pe_bm (T := "list") PySem.F.plainAttrs_list PySem.F.slot_list_index PySem.F.type_list_index (mt_index C.un) (pe_var (X := X) (i := i) (by rw [C.hN]; exact w1) (by rw [C.hs]; exact w2) w3 w4) (pa_cons (sE b C g2 ha.2.1).pe pa_nil (star_pl (em_pl N b _))) (by rfl) (few_one' (em_pl N b _)) h3 (star_pl (em_pl N b _)) (by rfl)) fun σ H Q q => key_idx q) rfl
        | .nil, _, h2, _ => cases h2
        | .cons (.var i) .nil, _, h2, _ => cases h2
      | stp =>
        rw [okE] at ho
        obtain ⟨h1, h2⟩ := and1 ho
        match es, h1, h2, ha with
        | .cons a (.cons b .nil), h1, _, ha =>
          rw [okEs, okEs] at h1
          rw [askEs, askEs] at ha
          exact .val (imp (pe_tupF (StX.pa_star (sE a C (and1 h1).1 ha.1).pe (pa_cons (sE b C (and1 (and1 h1).2).1 ha.2.1).pe pa_nil (star_pl (em_pl N b _))) rfl)) fun σ H Q q => key_stp q) rfl
        | .nil, _, h2, _ => cases h2
        | .cons a .nil, _, h2, _ => cases h2
        | .cons a (.cons b (.cons c es)), _, h2, _ => cases h2
      | stl =>
        rw [okE] at ho
        obtain ⟨h1, h2⟩ := and1 ho
        match es, h1, h2, ha with
        | .cons a (.cons b .nil), h1, _, ha =>
          rw [okEs, okEs] at h1
          rw [askEs, askEs] at ha
          exact .val (imp (pe_lst (StX.pa_star (sE a C (and1 h1).1 ha.1).pe (pa_cons (sE b C (and1 (and1 h1).2).1 ha.2.1).pe pa_nil (star_pl (em_pl N b _))) rfl)) fun σ H Q q => key_stl q) rfl
        | .nil, _, h2, _ => cases h2
        | .cons a .nil, _, h2, _ => cases h2
        | .cons a (.cons b (.cons c es)), _, h2, _ => cases h2
      | sth =>
        rw [okE] at ho
        obtain ⟨h1, h2⟩ := and1 ho
        match es, h1, h2, ha with
        | .cons a (.cons b .nil), h1, _, ha =>
          rw [okEs, okEs] at h1
          rw [askEs, askEs] at ha
          exact .val (imp (pe_lst (pa_cons (sE a C (and1 h1).1 ha.1).pe (StX.pa_star (sE b C (and1 (and1 h1).2).1 ha.2.1).pe pa_nil rfl) (star_pl (em_pl N a _)))) fun σ H Q q => key_sth q) rfl
        | .nil, _, h2, _ => cases h2
        | .cons a .nil, _, h2, _ => cases h2
        | .cons a (.cons b (.cons c es)), _, h2, _ => cases h2
      | st3 =>
        rw [okE] at ho
        obtain ⟨h1, h2⟩ := and1 ho
        match es, h1, h2, ha with
        | .cons a (.cons b (.cons c .nil)), h1, _, ha =>
          rw [okEs, okEs, okEs] at h1
          rw [askEs, askEs, askEs] at ha
          exact .val (imp (pe_tupF (StX.pa_star (sE a C (and1 h1).1 ha.1).pe (pa_cons (sE b C (and1 (and1 h1).2).1 ha.2.1).pe (StX.pa_star (sE c C (and1 (and1 (and1 h1).2).2).1 ha.2.2.1).pe pa_nil rfl) (star_pl (em_pl N b _))) rfl)) fun σ H Q q => key_st3 q) rfl
        | .nil, _, h2, _ => cases h2
        | .cons a .nil, _, h2, _ => cases h2
        | .cons a (.cons b .nil), _, h2, _ => cases h2
        | .cons a (.cons b (.cons c (.cons d es))), _, h2, _ => cases h2
      | sset =>
        rw [okE] at ho
        obtain ⟨h1, h2⟩ := and1 ho
        obtain ⟨h2, h3⟩ := and1 h2
        match es, hne, h1, ha with
        | .cons a .nil, _, h1, ha =>
          rw [okEs] at h1
          rw [askEs] at ha
          exact .val (imp (pe_sortSet C.calm (gl_of C h2).1 (C.no _) (gl_of C h3).1 (C.no _) (sE a C (and1 h1).1 ha.1).pe (star_pl (em_pl N a _))) fun σ H Q q => key_sset _ q) rfl
        | .cons a (.cons b es), _, h1, ha => exact .val (neverV (sset_two (.inl rfl) a b es)) rfl
      | lrange =>
        rw [okE] at ho
        obtain ⟨h1, h2⟩ := and1 ho
        obtain ⟨h2, h3⟩ := and1 h2
        match es, hne, h1, ha with
        | .cons a .nil, _, h1, ha =>
          rw [okEs] at h1
          rw [askEs] at ha
          exact .val (imp (pe_listRg C.calm (gl_of C h2).1 (C.no _) (prg_1 (gl_of C h3).1 (C.no _) (sE a C (and1 h1).1 ha.1).pe (star_pl (em_pl N a _))) (by rfl)) fun σ H Q q => key_lrange q) rfl
        | .cons a (.cons b es), _, h1, ha => exact .val (neverV (sset_two (.inr (.inl rfl)) a b es)) rfl
      | trange =>
        rw [okE] at ho
        obtain ⟨h1, h2⟩ := and1 ho
        obtain ⟨h2, h3⟩ := and1 h2
        match es, hne, h1, ha with
        | .cons a .nil, _, h1, ha =>
          rw [okEs] at h1
          rw [askEs] at ha
          exact .val (imp (pe_tupRgF C.calm (gl_of C h2).1 (C.no _) (prg_1 (gl_of C h3).1 (C.no _) (sE a C (and1 h1).1 ha.1).pe (star_pl (em_pl N a _))) (by rfl)) fun σ H Q q => key_trange q) rfl
        | .cons a (.cons b es), _, h1, ha => exact .val (neverV (sset_two (.inr (.inr rfl)) a b es)) rfl
  | .call x F es, X, N, sc, E, C, ho, ha => by
    rw [okE] at ho
    rw [askE] at ha
    obtain ⟨h1, h2⟩ := and1 ho
    obtain ⟨h4, h3⟩ := and1 h2
    obtain ⟨⟨f, fd, ps, Fn1, hm, hk, hb⟩⟩ := ha.1
    have pas := sEs es C h1 ha.2
    match es, h3, pas with
    | .cons e es, _, pas =>
      exact .val (imp (pe_gcall (e := (emE N e E.np.np).1) (es := (emEs N es (emE N e E.np.np).2).1) Fn1 C.room C.gd (gl_of C h4).1 hm hk hb pas (gl_of C h4).2 (star_pl (em_pl N e _)) (stars N _ _ es _)) fun σ H Q q => key_call q) rfl
    | .nil, h3, _ => rw [emEs] at h3; cases h3
  | .one x a b, X, N, sc, E, C, ho, ha => by
    rw [okE] at ho
    rw [askE] at ha
    obtain ⟨h1, h2⟩ := and1 ho
    obtain ⟨h2, h3⟩ := and1 h2
    obtain ⟨⟨f, fd, ps, Fn1, hm, hk, hb⟩⟩ := ha.1
    have pas := pa_cons (sE a C h1 ha.2.1).pe (pa_cons (sE b C h2 ha.2.2).pe pa_nil (star_pl (em_pl N b _))) (star_pl (em_pl N a _))
    refine .val (imp (pe_gcall Fn1 C.room C.gd (gl_of C h3).1 hm hk hb pas (gl_of C h3).2 (star_pl (em_pl N a _)) ?_) fun σ H Q q => key_one q) rfl
    rw [star_pl (em_pl N b _)]; rfl
  | .pix i j, X, N, sc, E, C, ho, ha => by
    rw [okE] at ho
    obtain ⟨h1, h2, h3, h4⟩ := vis_of ho
    exact .val (imp (pe_ix ix_list (pe_var (X := X) (i := i) (by rw [C.hN]; exact h1) (by rw [C.hs]; exact h2) h3 h4) pe_int (fun _ _ => rfl)) fun σ H Q q => key_pix X.K q) rfl
  | .lc elt tg src ifs, X, N, sc, E, C, ho, ha => by
    rw [okE] at ho
    rw [askE] at ha
    obtain ⟨h1, ho⟩ := and1 ho
    obtain ⟨h2, ho⟩ := and1 ho
    obtain ⟨h2, h3⟩ := and1 h2
    obtain ⟨h4, h5⟩ := and1 ho
    obtain ⟨h6, h7⟩ := and1 h4
    obtain ⟨h8, h9⟩ := and1 h5
    obtain ⟨h10, h11⟩ := and1 h9
    have hN := C.hN
    subst hN
    have bk : BlkOk X.N X.env.scope E.s (ownOf X.N tg.slots) := by rw [C.hs]; exact blkOk_by h3
    have pi := sSr src (tgt := (emTr X.N tg (emE X.N elt E.np.ns).2).1) C h8 ha.2.1 fun hp => by
      rw [hp] at h2
      cases tg with
      | v i => cases h2
      | t is => exact ⟨_, _, _, rfl⟩
      | n i is => exact ⟨_, _, _, rfl⟩
    have q := pe_lc (X := X) (elt := (emE X.N elt E.np.ns).1) (ifs := (emEs X.N ifs (emSr X.N src (emTr X.N tg (emE X.N elt E.np.ns).2).2).2).1) (pos := E.p) (g := tTr X.K tg) (tt := tTs ifs) (te := tI elt) C.calm C.nd pi bk ?_ ?_ ?_ (fold_sr _ src _)
    · rw [own_snd] at q
      exact .val (imp q fun σ H Q q => lc_ok X.K elt tg src ifs (fun hp => by rw [hp] at h2; cases tg with | v i => cases h2 | t is => rfl | n i is => rfl) q) rfl
    · intro s H A cl fp
      refine pg_tr (X := X.blk s H E.s (compEnvC E.s cl A X.env) fp) C.nd C.calm tg _ fun i hi => ?_
      obtain ⟨l1, l2⟩ := loc_of (List.all_eq_true.mp h6 i hi)
      refine ⟨l1, ?_, ?_⟩
      · rcases l2 with l2 | l2
        · exact .inl (lookup_relS_keep (by decide) l2)
        · exact .inr (lookup_relS_keep (by decide) l2)
      · rcases l2 with l2 | l2
        · exact .inr (lookup_relS_keep (by decide) l2)
        · refine .inl ?_
          show (E.s.names.lookup (nm X.N i) == some .cell) = true
          rw [l2]; rfl
    · intro s H A cl fp
      exact sTs ifs (C.blk E.s s H A cl fp) h10 ha.2.2 (of_decide_eq_true h11)
    · intro s H A cl fp
      exact (sE elt (C.blk E.s s H A cl fp) h1 ha.1).pe
theorem sEs : ∀ (es : IEs) {X : Cx} {N : List Str} {sc : Scope} {E : Em}, Cd X N sc k → okEs N sc es E = true → askEs (askOf (wdOf X) k) es → L2.PA X (emEs N es E).1 (tAs es)
  | .nil, X, N, sc, E, C, ho, ha => PA.imp pa_nil fun σ H Q q => by
    obtain ⟨pa, H0, G0, G, s, xs, s1, S0, e, kk⟩ := q
    rw [evalEs] at e; cases e
    exact kk [] H G S0 .refl trivial
  | .cons e es, X, N, sc, E, C, ho, ha => by
    rw [okEs] at ho
    rw [askEs] at ha
    obtain ⟨h1, h2⟩ := and1 ho
    exact PA.imp (pa_cons (sE e C h1 ha.1).pe (sEs es C h2 ha.2) (star_pl (em_pl N e E))) fun σ H Q q => key_cons q
theorem sTs : ∀ (es : IEs) {X : Cx} {N : List Str} {sc : Scope} {E : Em}, Cd X N sc k → okEs N sc es E = true → askEs (askOf (wdOf X) k) es → (emEs N es E).1.length ≤ 1 → PTs X (emEs N es E).1 (tTs es)
  | .nil, X, N, sc, E, C, ho, ha, hl => pts_nil
  | .cons e .nil, X, N, sc, E, C, ho, ha, hl => by
    rw [okEs] at ho
    rw [askEs] at ha
    exact pts_one (sE e C (and1 ho).1 ha.1).pt
  | .cons e (.cons e2 es), X, N, sc, E, C, ho, ha, hl => by
    rw [em_len] at hl
    simp [IEs.len] at hl
theorem sB : ∀ (es : IEs) {X : Cx} {N : List Str} {sc : Scope} {E : Em}, Cd X N sc k → okEs N sc es E = true → askEs (askOf (wdOf X) k) es → Sd2 X .And (emEs N es E).1 (evalAnd es) ∧ Sd2 X .Or (emEs N es E).1 (evalOr es)
  | .nil, X, N, sc, E, C, ho, ha => ⟨⟨fun _ => neverV fun s => by rw [evalAnd], fun _ => neverW fun s => by rw [evalAnd]; rfl⟩, ⟨fun _ => neverV fun s => by rw [evalOr], fun _ => neverW fun s => by rw [evalOr]; rfl⟩⟩
  | .cons e .nil, X, N, sc, E, C, ho, ha => by
    rw [okEs] at ho
    rw [askEs] at ha
    have h := sE e C (and1 ho).1 ha.1
    exact ⟨⟨fun _ => imp (pe_one h.pe) fun σ H Q q => key_and1 q, fun _ => PW.imp (pw_and1 h.pt) fun σ H Q q => key_and1Q q⟩,
      ⟨fun _ => imp (pe_one h.pe) fun σ H Q q => key_or1 q, fun _ => PW.imp (pw_or1 h.pt) fun σ H Q q => key_or1Q q⟩⟩
  | .cons e (.cons e2 es), X, N, sc, E, C, ho, ha => by
    rw [okEs] at ho
    rw [askEs] at ha
    have h := sE e C (and1 ho).1 ha.1
    have r := sB (.cons e2 es) C (and1 ho).2 ha.2
    exact ⟨⟨fun p => imp (pe_and h.pe (r.1.pe p)) fun σ H Q q => key_and (fun z => by cases z) q, fun p => PW.imp (pw_and h.pt (r.1.pw p)) fun σ H Q q => key_andQ (fun z => by cases z) q⟩,
      ⟨fun p => imp (pe_or h.pe (r.2.pe p)) fun σ H Q q => key_or (fun z => by cases z) q, fun p => PW.imp (pw_or h.pt (r.2.pw p)) fun σ H Q q => key_orQ (fun z => by cases z) q⟩⟩
theorem sO : ∀ (o : IO) {X : Cx} {N : List Str} {sc : Scope} {E : Em}, Cd X N sc k → okO N sc o E = true → askO (askOf (wdOf X) k) o → PO X (emO N o E).1 (tOo o)
  | .none, X, N, sc, E, C, ho, ha => PO.imp po_none fun σ H Q q => by
    obtain ⟨pa, H0, G0, G, s, r, s1, S0, e, i, hi, kk⟩ := q
    rw [evalO] at e; cases e
    cases hi
    exact kk H G S0 .refl
  | .some e, X, N, sc, E, C, ho, ha => by
    rw [okO] at ho
    rw [askO] at ha
    refine PO.imp (po_some (sE e C ho ha).pe) fun σ H Q q => ?_
    obtain ⟨pa, H0, G0, G, s, r, s1, S0, ev, i, hi, kk⟩ := q
    rw [evalO] at ev
    obtain ⟨⟨⟨d, t⟩, s2⟩, e1, ev⟩ := obind ev
    cases ev
    refine tV_of S0 e1 fun v H1 G1 S1 E1 R1 N1 => ?_
    unfold optI at hi
    split at hi
    · rename_i z; cases z
    · rename_i n z
      cases z
      cases hi
      exact ⟨n, (R1.top S1).int, kk H1 G1 S1 E1⟩
    · cases hi
theorem sSr : ∀ (src : Sr) {X : Cx} {N : List Str} {sc : Scope} {E : Em} {tgt : Expr}, Cd X N sc k → okSr N sc src E = true → askSr (askOf (wdOf X) k) src → (src.pairs = true → ∃ elts kk p, tgt = .Tuple elts kk p) → PI X tgt (emSr N src E).1 (tSr src)
  | .seq e, X, N, sc, E, tgt, C, ho, ha, ht => by
    rw [okSr] at ho
    rw [askSr] at ha
    have pe := (sE e C ho ha).pe
    exact PI.imp (PI.or (pi_list pe) (pi_tup pe)) fun σ H R q => key_seq X.K q
  | .enum e, X, N, sc, E, tgt, C, ho, ha, ht => by
    rw [okSr] at ho
    rw [askSr] at ha
    obtain ⟨h1, h2⟩ := and1 ho
    obtain ⟨elts, kk, p, rfl⟩ := ht rfl
    have pe := (sE e C h1 ha).pe
    exact PI.imp (pi_enA (gl_of C h2).1 (C.no _) (pa_cons pe pa_nil (star_pl (em_pl N e _))) (star_pl (em_pl N e _))) fun σ H R q => key_enum X.K q
  | .zip a b, X, N, sc, E, tgt, C, ho, ha, ht => by
    rw [okSr] at ho
    rw [askSr] at ha
    obtain ⟨h1, h2⟩ := and1 ho
    obtain ⟨h2, h3⟩ := and1 h2
    obtain ⟨elts, kk, p, rfl⟩ := ht rfl
    have pas := pa_cons (sE a C h1 ha.1).pe (pa_cons (sE b C h2 ha.2).pe pa_nil (star_pl (em_pl N b _))) (star_pl (em_pl N a _))
    exact PI.imp (RZ.pi_zipA (gl_of C h3).1 (C.no _) pas (star_pl (em_pl N a _)) (by rw [star_pl (em_pl N b _)]; rfl)) fun σ H R q => key_zip X.K q
  | .rng a, X, N, sc, E, tgt, C, ho, ha, ht => by
    rw [okSr] at ho
    rw [askSr] at ha
    obtain ⟨h1, h2⟩ := and1 ho
    exact PI.imp (pi_range1 (gl_of C h2).1 (C.no _) (pa_cons (sE a C h1 ha).pe pa_nil (star_pl (em_pl N a _))) (star_pl (em_pl N a _))) fun σ H R q => key_rng q
  | .rng2 a b, X, N, sc, E, tgt, C, ho, ha, ht => by
    rw [okSr] at ho
    rw [askSr] at ha
    obtain ⟨h1, h2⟩ := and1 ho
    obtain ⟨h2, h3⟩ := and1 h2
    have pas := pa_cons (sE a C h1 ha.1).pe (pa_cons (sE b C h2 ha.2).pe pa_nil (star_pl (em_pl N b _))) (star_pl (em_pl N a _))
    have e1 : starEach [(emE N a E.np.np).1, (emE N b (emE N a E.np.np).2).1] X.env = [(false, eval (emE N a E.np.np).1 X.env), (false, eval (emE N b (emE N a E.np.np).2).1 X.env)] := by
      rw [star_pl (em_pl N a _), star_pl (em_pl N b _)]; rfl
    exact PI.imp (pi_range2 (gl_of C h3).1 (C.no _) pas e1 (star_pl (em_pl N b _))) fun σ H R q => key_rng2 q
  | .rng3 a b c, X, N, sc, E, tgt, C, ho, ha, ht => by
    rw [okSr] at ho
    rw [askSr] at ha
    obtain ⟨h1, h2⟩ := and1 ho
    obtain ⟨h2, h3⟩ := and1 h2
    obtain ⟨h3, h4⟩ := and1 h3
    have pas := pa_cons (sE a C h1 ha.1).pe (pa_cons (sE b C h2 ha.2.1).pe (pa_cons (sE c C h3 ha.2.2).pe pa_nil (star_pl (em_pl N c _))) (star_pl (em_pl N b _))) (star_pl (em_pl N a _))
    exact PI.imp (pi_range3 (gl_of C h4).1 (C.no _) pas (star_pl (em_pl N a _)) (by rw [star_pl (em_pl N b _), star_pl (em_pl N c _)]; rfl)) fun σ H R q => key_rng3 q
end
end
end Fs

set_option Elab.async false
set_option linter.all false
set_option maxRecDepth 100000
set_option maxHeartbeats 8000000
namespace Fs
open PySem L2

def isLc : IE → Bool
  | .lc _ _ _ _ => true
  | _ => false
def isTup : IE → Bool
  | .tup _ => true
  | .blt .stp _ => true
  | .blt .st3 _ => true
  | _ => false
def celB (N : List Str) (sc : Scope) (i : Nat) : Bool := match sc.names.lookup (nm N i) with
  | some .cell => true
  | _ => false
def plB (N : List Str) (sc : Scope) (i : Nat) : Bool := match sc.names.lookup (nm N i) with
  | some .local => true
  | _ => false
def kindF (sc : Scope) : Bool := match sc.kind with
  | .function => true
  | _ => false
/-- how the stores of a tuple of targets go -/
def swC (sc : Scope) (ts vs : List Expr) : Option (Option (List Str)) :=
  if !(ts.length == 2 || ts.length == 3) || vs.length != ts.length then some none
  else if (vs.any fun | .Starred .. => true | _ => false) then some none
  else
    if (ts.filterMap fun | .Name id pos => if sc.names.lookup id == some .local && pos.line == (ts.head?.map (·.pos.line)).getD 0 then some id else none | _ => none).length != ts.length ||
        (ts.filterMap fun | .Name id pos => if sc.names.lookup id == some .local && pos.line == (ts.head?.map (·.pos.line)).getD 0 then some id else none | _ => none).eraseDups.length !=
          (ts.filterMap fun | .Name id pos => if sc.names.lookup id == some .local && pos.line == (ts.head?.map (·.pos.line)).getD 0 then some id else none | _ => none).length then some none
    else if vs.all (foldedForSure 8) then some none
    else if vs.all (constantsAlone 8) then none
    else some (some (ts.filterMap fun | .Name id pos => if sc.names.lookup id == some .local && pos.line == (ts.head?.map (·.pos.line)).getD 0 then some id else none | _ => none))
theorem swC_ok {env : Env} {sc : Scope} {ts vs : List Expr} {a b : Nat} {p q : Pos} {r : Option (List Str)} (hs : env.scope = sc) (hk : kindF sc = true) (h : swC sc ts vs = some r) :
    swappedStores [.Tuple ts a p] (.Tuple vs b q) env = pure r := by
  subst hs
  have bk : env.blockKind = .function := by
    unfold kindF at hk
    unfold Env.blockKind
    split at hk
    · rename_i e; rw [e]; rfl
    · cases hk
  have k2 : (env.blockKind != .function) = false := by rw [bk]; rfl
  unfold swC at h
  unfold swappedStores
  simp only [k2, Bool.or_false, Env.kindOf]
  split at h
  · rename_i z
    cases h
    exact if_pos z
  · rename_i z
    refine (if_neg z).trans ?_
    split at h
    · rename_i z
      cases h
      exact if_pos z
    · rename_i z
      refine (if_neg z).trans ?_
      split at h
      · rename_i z
        cases h
        exact if_pos z
      · rename_i z
        refine (if_neg z).trans ?_
        split at h
        · rename_i z
          cases h
          exact if_pos z
        · rename_i z
          refine (if_neg z).trans ?_
          split at h
          · cases h
          · rename_i z
            cases h
            exact if_neg z
/-- none: a tuple is made and taken apart; some: the names -/
def swB (N : List Str) (sc : Scope) (is : List Nat) (ts vs : List Expr) : Bool := match swC sc ts vs with
  | some none => true
  | some (some l) => match is with
    | [i, j] => decide (l = [nm N i, nm N j]) && (plB N sc i && (plB N sc j && decide (i ≠ j)))
    | [i, j, l2] => decide (l = [nm N i, nm N j, nm N l2]) && (plB N sc i && (plB N sc j && (plB N sc l2 && (decide (i ≠ j) && (decide (i ≠ l2) && decide (j ≠ l2))))))
    | _ => false
  | none => false

def tgB (N : List Str) (sc : Scope) (is : List Nat) : Bool := is.all fun i => locB N sc i
mutual
def okS (N : List Str) (sc : Scope) : IS → Em → Bool
  | .set i e, E => okE N sc e E.np.np && (locB N sc i && (!isLc e || celB N sc i))
  | .setLc i elt tg src ifs, E => okE N sc (.lc elt tg src ifs) E.np.np && (locB N sc i && (plB N sc i && (kindF sc && ((E.np.p.line == E.np.np.p.line) &&
      !(E.np.np.s.names.any fun (n, k) => n == nm N i && (k == .local || k == .cell))))))
  | .setT is e, E => okE N sc e (emTr N (.t is) E.np).2 && (tgB N sc is && !isTup e)
  | .set2 is es, E => okEs N sc es (emTr N (.t is) E.np).2.np && (tgB N sc is && (decide ((emEs N es (emTr N (.t is) E.np).2.np).1.length ≤ 1000) && (kindF sc &&
      swB N sc is (emNames N is E.np.np).1 (emEs N es (emTr N (.t is) E.np).2.np).1)))
  | .setIx i k e, E => okE N sc k E.np.np.np && (okE N sc e (emE N k E.np.np.np).2 && visB N sc i)
  | .pset i _ e, E => okE N sc e E.np.np.np.np && visB N sc i
  | .aug op i e, E => okE N sc e E.np.np && locB N sc i
  | .app i e, E => okE N sc e E.np.np.np.np && (visB N sc i && (E.np.np.p.endLine == E.np.p.line))
  | .ins i k e, E => okE N sc k E.np.np.np.np && (okE N sc e (emE N k E.np.np.np.np).2 && (visB N sc i && (E.np.np.p.endLine == E.np.p.line)))
  | .ext i e, E => okE N sc e E.np.np.np.np && (visB N sc i && (E.np.np.p.endLine == E.np.p.line))
  | .rev i, E => visB N sc i && (E.np.np.p.endLine == E.np.p.line)
  | .expr e, E => okE N sc e E.np && !isLc e
  | .ite c a b, E => okE N sc c E.np && (okSs N sc a (emE N c E.np).2 && okSs N sc b (emSs N a (emE N c E.np).2).2)
  | .for tg src body, E => okSr N sc src (emTr N tg E.np).2 && (tgB N sc tg.slots && ((!src.pairs || tg.isT) && okSs N sc body (emSr N src (emTr N tg E.np).2).2))
  | .while _ c body, E => okE N sc c E.np && okSs N sc body (emE N c E.np).2
  | .ret e, E => okE N sc e E.np
  | .retN, _ => true
  | .pass, _ => true
  | .brk, _ => true
  | .cont, _ => true
  | .never, _ => true
def okSs (N : List Str) (sc : Scope) : ISs → Em → Bool
  | .nil, _ => true
  | .cons s ss, E => okS N sc s E && okSs N sc ss (emS N s E).2
end

section
variable {pa : PA} {H0 G0 G G1 G2 H H1 H2 Hs : Hp} {σ σ2 : L2.St} {s s1 s2 : S} {v w : V} {d : D} {t : Tg}
/-- a value is stored -/
theorem Sim.store (S1 : Sim pa H0 G0 G σ H s) (r : RT pa H0 G σ H s v d t) {i : Nat} (hi : i < s.sl.length) : ∃ G', Sub G G' ∧ Sim pa H0 G0 G' (σ.set i (some v)) H ((s.keep t).put i (d, t.own)) := by
  cases t with
  | fresh =>
    obtain ⟨a, xs, ds, rfl, rfl, h, r, g, h0, n, o⟩ := r
    exact ⟨G, .refl, S1.putOwn hi h r g h0 n fun j e _ q z => o ⟨j, e, q, z⟩⟩
  | fz => exact ⟨G, .refl, S1.put hi r⟩
  | slot j =>
    obtain ⟨G', S2, _, k, _, rp⟩ := RT.keep S1 .refl r (fun z => by cases z)
    exact ⟨G', k, S2.put (by rw [show (s.keep (.slot j)).sl.length = s.sl.length from freeze_len s j]; exact hi) rp⟩
/-- the slot's own list is written -/
theorem Sim.ownUpd (S1 : Sim pa H0 G0 G σ H s) {i : Nat} {a : Addr} {ys : List V} {es : List D} (h : s.sl[i]? = some (some (d, true))) (hσ : σ[i]? = some (some (.ref a))) (r : Rps pa G ys es) :
    Sim pa H0 G0 G σ (upd H a (.lst ys)) (s.put i (.list es, true)) := by
  obtain ⟨b, xs, ds, e1, e2, e3, e4, e5, e6, e7⟩ := S1.ow i d h
  rw [hσ] at e1; cases e1
  have hi : i < s.sl.length := by
    rcases Nat.lt_or_ge i s.sl.length with q | q
    · exact q
    · rw [List.getElem?_eq_none q] at h; cases h
  refine ⟨by rw [put_len]; exact S1.len, fun b u hb => ?_, S1.base, S1.new, fun b u hb m => ?_, ?_, fun j e q => ?_, fun j e q => ?_, fun j k e e' b q q' p p' => ?_⟩
  · rw [upd_ne]
    · exact S1.sub b u hb
    · rintro rfl; rw [e5] at hb; cases hb
  · rw [upd_ne]
    · exact S1.kee b u hb m
    · rintro rfl; rw [e6] at hb; cases hb
  · have p := S1.pen
    show PenAt pa G _ s.pn
    cases pa with
    | none =>
      cases q : s.pn with
      | none => trivial
      | some y => rw [q] at p; exact p.elim
    | some x =>
      obtain ⟨b, c⟩ := x
      cases q : s.pn with
      | none => rw [q] at p; exact p.elim
      | some y =>
        rw [q] at p
        refine ⟨p.1, ?_, p.2.2⟩
        rw [upd_ne]
        · exact p.2.1
        · rintro rfl; exact e7 ⟨c, rfl⟩
  · by_cases z : i = j
    · subst z; rw [put_at hi] at q; cases q
    · rw [put_ne z] at q; exact S1.fz j e q
  · by_cases z : i = j
    · subst z
      rw [put_at hi] at q; cases q
      exact ⟨a, ys, es, hσ, rfl, upd_same, r, e5, e6, e7⟩
    · rw [put_ne z] at q
      obtain ⟨b, zs, fs, f1, f2, f3, f4⟩ := S1.ow j e q
      refine ⟨b, zs, fs, f1, f2, ?_, f4⟩
      rw [upd_ne]
      · exact f3
      · rintro rfl; exact z (S1.dis i j _ _ _ h q hσ f1)
  · by_cases z : i = j
    · subst z
      by_cases z' : i = k
      · exact z'
      · rw [put_ne z'] at q'
        exact S1.dis i k _ _ b h q' p p'
    · by_cases z' : i = k
      · subst z'
        rw [put_ne z] at q
        exact S1.dis j i _ _ b q h p p'
      · rw [put_ne z] at q; rw [put_ne z'] at q'; exact S1.dis j k e e' b q q' p p'

def Tg.top : Tg → Tg
  | .fresh => .fresh
  | _ => .fz
theorem Tg.top_own (t : Tg) : t.top.own = t.own := by cases t <;> rfl
/-- all values but the fresh lists are kept -/
theorem RTs.settle : ∀ {vs : List V} {xs : List (D × Tg)} {G : Hp} {s : S}, Sim pa H0 G0 G σ H s → RTs pa H0 G σ H s Hs vs xs →
    ∃ G', Sim pa H0 G0 G' σ H (s.keeps (xs.map (·.2))) ∧ Ext pa G G' H H σ s (s.keeps (xs.map (·.2))) ∧ RTs pa H0 G' σ H (s.keeps (xs.map (·.2))) Hs vs (xs.map fun x => (x.1, x.2.top))
  | [], [], G, s, S1, _ => ⟨G, S1, .refl, trivial⟩
  | v :: vs, x :: xs, G, s, S1, h => by
    obtain ⟨r, nw, ap, rs⟩ := h
    obtain ⟨d, t⟩ := x
    have ap2 : ∀ {ys : List (D × Tg)}, t.top = .fresh → (∀ p ∈ vs.zip xs, p.2.2 = .fresh → p.1 ≠ v) → ∀ p ∈ vs.zip (xs.map fun x => (x.1, x.2.top)), p.2.2 = .fresh → p.1 ≠ v := by
      intro _ _ q p hp z
      rw [List.zip_map_right, List.mem_map] at hp
      obtain ⟨⟨w, y⟩, hy, rfl⟩ := hp
      refine q (w, y) hy ?_
      obtain ⟨y1, y2⟩ := y
      cases y2 <;> first | rfl | cases z
    cases t with
    | fresh =>
      obtain ⟨G', S', E', rs'⟩ := RTs.settle S1 rs
      exact ⟨G', S', E', r.ext S' E', nw, fun z => ap2 (ys := []) rfl (ap rfl), rs'⟩
    | fz =>
      obtain ⟨G', S', E', rs'⟩ := RTs.settle S1 rs
      exact ⟨G', S', E', r.ext S' E', (fun z => by cases z), (fun z => by cases z), rs'⟩
    | slot i =>
      obtain ⟨G1, S2, E2, k1, nk, rp⟩ := RT.keep S1 (.refl : Ext pa G G H H σ s s) r (fun z => by cases z)
      obtain ⟨G', S', E', rs'⟩ := RTs.settle S2 (rs.other S1 k1 nk r fun z => by cases z)
      exact ⟨G', S', E2.trans S' E', rp.mono E'.gk, (fun z => by cases z), (fun z => by cases z), rs'⟩
  | [], _ :: _, _, _, _, h => h.elim
  | _ :: _, [], _, _, _, h => h.elim
def setsV : L2.St → List Nat → List V → L2.St
  | σ, i :: is, v :: vs => setsV (σ.set i (some v)) is vs
  | σ, _, _ => σ
theorem gn_sets : ∀ {is : List Nat} {vs : List V} {σ : L2.St} {H : Hp} {Q : L2.St → Hp → Prop}, is.length = vs.length → Q (setsV σ is vs) H → gNames is vs σ H Q
  | [], [], _, _, _, _, q => ⟨rfl, q⟩
  | i :: is, v :: vs, σ, H, Q, l, q => ⟨v, vs, rfl, gn_sets (σ := σ.set i (some v)) (by simpa using l) q⟩
  | [], _ :: _, _, _, _, l, _ => by simp at l
  | _ :: _, [], _, _, _, l, _ => by simp at l
/-- settled values are stored one by one -/
theorem puts_sim : ∀ {is : List Nat} {vs : List V} {xs : List (D × Tg)} {σ : L2.St} {s : S}, Sim pa H0 G0 G σ H s → is.length = xs.length → (is.all fun i => decide (i < s.sl.length)) = true → (∀ x ∈ xs, ∀ j, x.2 ≠ .slot j) → RTs pa H0 G σ H s Hs vs xs →
    Sim pa H0 G0 G (setsV σ is vs) H (s.puts is xs)
  | [], [], [], σ, s, S1, _, _, _, _ => S1
  | i :: is, v :: vs, (d, t) :: xs, σ, s, S1, l, hb, ns, h => by
    obtain ⟨r, nw, ap, rs⟩ := h
    simp only [List.all_cons, Bool.and_eq_true, decide_eq_true_eq] at hb
    show Sim pa H0 G0 G (setsV (σ.set i (some v)) is vs) H ((s.put i (d, t.own)).puts is xs)
    have hσ : i < σ.length := by rw [S1.len]; exact hb.1
    have S2 : Sim pa H0 G0 G (σ.set i (some v)) H (s.put i (d, t.own)) := by
      cases t with
      | fresh =>
        obtain ⟨a, xs, ds, rfl, rfl, h, r, g, h0, n, o⟩ := r
        exact S1.putOwn hb.1 h r g h0 n fun j e _ q z => o ⟨j, e, q, z⟩
      | fz => exact S1.put hb.1 r
      | slot j => exact absurd rfl (ns (d, .slot j) (by simp) j)
    have keep : ∀ {ws : List V} {ys : List (D × Tg)}, (t = .fresh → ∀ p ∈ ws.zip ys, p.2.2 = .fresh → p.1 ≠ v) → (∀ x ∈ ys, ∀ j, x.2 ≠ .slot j) → RTs pa H0 G σ H s Hs ws ys → RTs pa H0 G (σ.set i (some v)) H (s.put i (d, t.own)) Hs ws ys := by
      intro ws
      induction ws with
      | nil =>
        intro ys _ _ h
        cases ys with
        | nil => trivial
        | cons y ys => exact h.elim
      | cons w ws ih =>
        intro ys ap ns h
        cases ys with
        | nil => exact h.elim
        | cons y ys =>
          obtain ⟨r1, r2, r3, r4⟩ := h
          refine ⟨?_, r2, r3, ih (fun z p hp => ap z p (List.mem_cons_of_mem _ hp)) (fun x hx => ns x (List.mem_cons_of_mem _ hx)) r4⟩
          obtain ⟨e, u⟩ := y
          cases u with
          | fz => exact r1
          | slot j => exact absurd rfl (ns (e, .slot j) (by simp) j)
          | fresh =>
            obtain ⟨a, zs, ds, rfl, rfl, h, r, g, h0, n, o⟩ := r1
            refine ⟨a, zs, ds, rfl, rfl, h, r, g, h0, n, ?_⟩
            rintro ⟨j, e, q1, q2⟩
            by_cases z : i = j
            · subst z
              rw [put_at hb.1] at q1
              rw [set_at hσ] at q2
              cases q2
              have tf : t = .fresh := by
                cases t with
                | fresh => rfl
                | _ => cases q1
              exact ap tf (.ref a, (.list ds, .fresh)) (by simp) rfl rfl
            · rw [put_ne z] at q1
              rw [set_ne z] at q2
              exact o ⟨j, e, q1, q2⟩
    exact puts_sim S2 (by simpa using l) (by rw [put_len]; exact hb.2) (fun x hx => ns x (List.mem_cons_of_mem _ hx)) (keep ap (fun x hx => ns x (List.mem_cons_of_mem _ hx)) rs)
  | [], [], _ :: _, _, _, _, l, _, _, _ => by simp at l
  | _ :: _, _, [], _, _, _, l, _, _, _ => by simp at l
  | [], _ :: _, [], _, _, _, _, _, _, h => h.elim
  | _ :: _, [], _ :: _, _, _, _, _, _, _, h => h.elim
  | [], _ :: _, _ :: _, _, _, _, l, _, _, _ => by simp at l
theorem puts_top : ∀ (is : List Nat) (xs : List (D × Tg)) (s : S), s.puts is (xs.map fun x => (x.1, x.2.top)) = s.puts is xs
  | [], [], _ => rfl
  | [], _ :: _, _ => rfl
  | _ :: _, [], _ => rfl
  | i :: is, (d, t) :: xs, s => by
    show (s.put i (d, t.top.own)).puts is _ = (s.put i (d, t.own)).puts is xs
    rw [Tg.top_own, puts_top is xs]
theorem keeps_len : ∀ (ts : List Tg) (s : S), (s.keeps ts).sl.length = s.sl.length
  | [], _ => rfl
  | t :: ts, s => by
    show ((s.keep t).keeps ts).sl.length = _
    rw [keeps_len ts]
    cases t <;> first | rfl | exact freeze_len s _
theorem store_all {is : List Nat} {vs : List V} {xs : List (D × Tg)} (S1 : Sim pa H0 G0 G σ H s) (rs : RTs pa H0 G σ H s Hs vs xs) (l : is.length = xs.length) (hb : (is.all fun i => decide (i < s.sl.length)) = true) :
    ∃ G', Sub G G' ∧ Sim pa H0 G0 G' (setsV σ is vs) H ((s.keeps (xs.map (·.2))).puts is xs) := by
  obtain ⟨G', S', E', rs'⟩ := rs.settle S1
  refine ⟨G', E'.gk, ?_⟩
  rw [← puts_top]
  refine puts_sim S' (by rw [List.length_map]; exact l) ?_ (fun x hx j => ?_) rs'
  · rw [keeps_len]; exact hb
  · obtain ⟨y, _, rfl⟩ := List.mem_map.mp hx
    obtain ⟨y1, y2⟩ := y
    cases y2 <;> (intro z; cases z)
end
end Fs

set_option Elab.async false
set_option linter.all false
set_option maxRecDepth 100000
set_option maxHeartbeats 8000000
namespace Fs
open PySem L2

def Rt (pa : PA) (H0 G H : Hp) (v : V) (d : D) (fr : Bool) : Prop :=
  if fr = true then ∃ a xs es, v = .ref a ∧ d = .list es ∧ H a = some (.lst xs) ∧ Rps pa G xs es ∧ G a = none ∧ H0 a = none ∧ ¬ pen1 pa a else Rp pa G v d
def SPost (pa : PA) (H0 G0 G : Hp) (fl : Fl) (s1 : S) (Ds : Ends) : Prop :=
  match fl with
  | .nx => ∀ σ1 H1 G1, Sub G G1 → Sim pa H0 G0 G1 σ1 H1 s1 → Ds.nx σ1 H1
  | .brk => ∀ σ1 H1 G1, Sub G G1 → Sim pa H0 G0 G1 σ1 H1 s1 → Ds.bk σ1 H1
  | .cont => ∀ σ1 H1 G1, Sub G G1 → Sim pa H0 G0 G1 σ1 H1 s1 → Ds.ct σ1 H1
  | .ret d fr => ∀ v σ1 H1 G1, Sub G G1 → Sim pa H0 G0 G1 σ1 H1 s1 → Rt pa H0 G1 H1 v d fr → Ds.rt v H1
theorem SPost.up {pa : PA} {H0 G0 G G2 : Hp} {fl : Fl} {s1 : S} {Ds : Ends} (k : Sub G G2) (h : SPost pa H0 G0 G fl s1 Ds) : SPost pa H0 G0 G2 fl s1 Ds := by
  cases fl with
  | nx => exact fun σ1 H1 G1 u => h σ1 H1 G1 (k.trans u)
  | brk => exact fun σ1 H1 G1 u => h σ1 H1 G1 (k.trans u)
  | cont => exact fun σ1 H1 G1 u => h σ1 H1 G1 (k.trans u)
  | ret d fr => exact fun v σ1 H1 G1 u => h v σ1 H1 G1 (k.trans u)
abbrev Sv := S → Option (Fl × S)
def tF (f : Sv) : TS := fun Ds σ H => ∃ pa H0 G0 G s fl s1, Sim pa H0 G0 G σ H s ∧ f s = some (fl, s1) ∧ SPost pa H0 G0 G fl s1 Ds
theorem PS.imp {X : Cx} {st : Stmt} {t t' : TS} (h : PS X st t) (k : ∀ Ds σ H, t' Ds σ H → t Ds σ H) : PS X st t' := ⟨fun pins s σ H Ds I q => h.run pins s σ H Ds I (k Ds σ H q)⟩
theorem PSs.imp {X : Cx} {st : List Stmt} {t t' : TS} (h : PSs X st t) (k : ∀ Ds σ H, t' Ds σ H → t Ds σ H) : PSs X st t' := ⟨fun pins s σ H Ds I q => h.run pins s σ H Ds I (k Ds σ H q)⟩

section
variable {Ds : Ends} {σ : L2.St} {H : Hp}
theorem skey_cons {a : IS} {b : ISs} (h : tF (evalSs (.cons a b)) Ds σ H) : tSeq (tF (evalS a)) (tF (evalSs b)) Ds σ H := by
  obtain ⟨pa, H0, G0, G, s, fl, s2, S0, e, post⟩ := h
  rw [evalSs] at e
  obtain ⟨⟨f, s1⟩, e1, e⟩ := obind e
  dsimp only at e
  refine ⟨pa, H0, G0, G, s, f, s1, S0, e1, ?_⟩
  cases f with
  | nx => exact fun σ1 H1 G1 u S1 => ⟨pa, H0, G0, G1, s1, fl, s2, S1, e, post.up u⟩
  | brk => cases e; exact post
  | cont => cases e; exact post
  | ret d fr => cases e; exact post
theorem skey_nil (h : tF (evalSs .nil) Ds σ H) : tNext Ds σ H := by
  obtain ⟨pa, H0, G0, G, s, fl, s2, S0, e, post⟩ := h
  rw [evalSs] at e; cases e
  exact post σ H G .refl S0
theorem skey_set {i : Nat} {e : IE} (h : tF (evalS (.set i e)) Ds σ H) : tAsg (tI e) (gName i) Ds σ H := by
  obtain ⟨pa, H0, G0, G, s, fl, s2, S0, ev, post⟩ := h
  rw [evalS] at ev
  obtain ⟨⟨⟨d, t⟩, s1⟩, e1, ev⟩ := obind ev
  dsimp only at ev
  split at ev
  case isFalse => cases ev
  rename_i hi
  cases ev
  refine tV_of S0 e1 fun v H1 G1 S1 E1 R1 N1 => ?_
  obtain ⟨G', k, S'⟩ := S1.store R1 hi
  exact post _ H1 G' (E1.gk.trans k) S'
theorem skey_lc {i : Nat} {elt : IE} {tg : Tr} {src : Sr} {ifs : IEs} (K : PySem.W.Frag) (hb : src.pairs = true → tg.isT = true) (h : tF (evalS (.setLc i elt tg src ifs)) Ds σ H) : tAsg (tLc (tSr src) (tTr K tg) (tTs ifs) (tI elt) tg.slots) (gName i) Ds σ H := by
  obtain ⟨pa, H0, G0, G, s, fl, s2, S0, ev, post⟩ := h
  rw [evalS] at ev
  obtain ⟨⟨⟨items, t0⟩, s1⟩, e1, ev⟩ := obind ev
  obtain ⟨⟨ds, s3⟩, e2, ev⟩ := obind ev
  dsimp only at ev
  split at ev
  case isFalse => cases ev
  rename_i hi
  cases ev
  refine lc_ok K elt tg src ifs hb (tV_of (d := .list ds) (t := .fresh) (s1 := s3) S0 ?_ fun v H1 G1 S1 E1 R1 N1 => ?_)
  · rw [evalE, e1]
    show (lcRun (evalAll ifs) (evalE elt) tg items s1 >>= _) = _
    rw [e2]; rfl
  · obtain ⟨a, xs, es, rfl, e, ha, ra, g, h0, n, o⟩ := R1
    cases e
    exact post _ _ _ E1.gk (S1.putOwn hi ha ra g h0 n fun j e _ q z => o ⟨j, e, q, z⟩)
theorem RT.tupl {pa : PA} {H0 G0 G H : Hp} {σ : L2.St} {s : S} {v : V} {ds : List D} {t : Tg} (S1 : Sim pa H0 G0 G σ H s) (r : RT pa H0 G σ H s v (.tuple ds) t) : Rp pa G v (.tuple ds) := r.top S1
theorem skey_setT {is : List Nat} {e : IE} (K : PySem.W.Frag) (h : tF (evalS (.setT is e)) Ds σ H) : tAsg (tI e) (tTr K (.t is)) Ds σ H := by
  obtain ⟨pa, H0, G0, G, s, fl, s2, S0, ev, post⟩ := h
  rw [evalS] at ev
  obtain ⟨⟨⟨d, t⟩, s1⟩, e1, ev⟩ := obind ev
  obtain ⟨s3, e2, ev⟩ := obind ev
  cases ev
  refine tV_of S0 e1 fun v H1 G1 S1 E1 R1 N1 => ?_
  cases d with
  | tuple ds => exact bind_ok K S1 (R1.tupl S1) e2 fun σ2 S2 _ _ _ _ => post σ2 H1 G1 E1.gk S2
  | _ => simp only [S.bindT] at e2; cases e2
/-- both roads of a, b = .. -/
theorem skey_two {is : List Nat} {es : IEs} (h : tF (evalS (.set2 is es)) Ds σ H) : tAs es σ H fun vs H1 => is.length = vs.length ∧ (∀ T, H1 T = none → Ds.nx (setsV σ is vs) (upd H1 T (.tup vs))) ∧ Ds.nx (setsV σ is vs) H1 := by
  obtain ⟨pa, H0, G0, G, s, fl, s2, S0, ev, post⟩ := h
  rw [evalS] at ev
  obtain ⟨⟨xs, s1⟩, e1, ev⟩ := obind ev
  dsimp only at ev
  split at ev
  case isFalse => cases ev
  rename_i hi
  cases ev
  refine ⟨pa, H0, G0, G, s, xs, s1, S0, e1, fun vs H1 G1 S1 E1 Rs => ?_⟩
  obtain ⟨G', k, S'⟩ := store_all S1 Rs hi.1 hi.2
  exact ⟨by rw [Rs.len]; exact hi.1, fun T hT => post _ _ G' (E1.gk.trans k) (S'.grow (.upd hT)), post _ _ G' (E1.gk.trans k) S'⟩
theorem rd_at {s : S} {i : Nat} {p : D × Bool} (h : rd s i = some p) : s.sl[i]? = some (some p) := by
  unfold rd at h
  obtain ⟨o, h1, h2⟩ := Option.bind_eq_some_iff.mp h
  have h2 : o = some p := h2
  rw [h1, h2]
theorem Sim.val {pa : PA} {H0 G0 G H : Hp} {σ : L2.St} {s : S} (S0 : Sim pa H0 G0 G σ H s) {i : Nat} {p : D × Bool} (h : rd s i = some p) : ∃ v, σ[i]? = some (some v) ∧ RpT pa G H v p.1 := by
  obtain ⟨d, f⟩ := p
  have h := rd_at h
  cases f with
  | true =>
    obtain ⟨a, xs, ds, e1, rfl, e3, e4, _⟩ := S0.ow i d h
    exact ⟨_, e1, a, xs, rfl, e3, e4⟩
  | false =>
    obtain ⟨v, e1, r⟩ := S0.fz i d h
    exact ⟨v, e1, .of S0.sub r⟩
theorem skey_aug {op : Operator} {i : Nat} {e : IE} (h : tF (evalS (.aug op i e)) Ds σ H) :
    (op = .Add ∧ tAug i (tI e) (ipI fun i j => i + j) Ds σ H) ∨ (op = .Sub ∧ tAug i (tI e) (ipI fun i j => i - j) Ds σ H) := by
  obtain ⟨pa, H0, G0, G, s, fl, s2, S0, ev, post⟩ := h
  rw [evalS] at ev
  obtain ⟨⟨d0, f0⟩, e0, ev⟩ := obind ev
  obtain ⟨⟨⟨d, t⟩, s1⟩, e1, ev⟩ := obind ev
  dsimp only at ev
  obtain ⟨x, hx, rx⟩ := S0.val e0
  split at ev
  · split at ev
    · rename_i hi
      cases ev
      exact .inl ⟨rfl, x, hx, tV_of S0 e1 fun v H1 G1 S1 E1 R1 N1 => ⟨_, _, rx.int, (R1.top S1).int, post _ H1 G1 E1.gk (S1.put hi (.int _))⟩⟩
    · cases ev
  · split at ev
    · rename_i hi
      cases ev
      exact .inr ⟨rfl, x, hx, tV_of S0 e1 fun v H1 G1 S1 E1 R1 N1 => ⟨_, _, rx.int, (R1.top S1).int, post _ H1 G1 E1.gk (S1.put hi (.int _))⟩⟩
    · cases ev
  · cases ev
theorem own_at {pa : PA} {H0 G0 G H : Hp} {σ : L2.St} {s : S} (S0 : Sim pa H0 G0 G σ H s) {i : Nat} {d : D} (h : rd s i = some (d, true)) : ∃ a xs ds, σ[i]? = some (some (V.ref a)) ∧ d = .list ds ∧ H a = some (.lst xs) ∧ Rps pa G xs ds := by
  obtain ⟨a, xs, ds, e1, e2, e3, e4, _⟩ := S0.ow i d (rd_at h)
  exact ⟨a, xs, ds, e1, e2, e3, e4⟩
theorem skey_app {i : Nat} {e : IE} (K : PySem.W.Frag) (h : tF (evalS (.app i e)) Ds σ H) : tDrop (tBM K "list" rAppend (tVar i) (tCons (tI e) tNil)) Ds σ H := by
  obtain ⟨pa, H0, G0, G, s, fl, s2, S0, ev, post⟩ := h
  rw [evalS] at ev
  obtain ⟨⟨d0, f0⟩, e0, ev⟩ := obind ev
  obtain ⟨⟨⟨d, t⟩, s1⟩, e1, ev⟩ := obind ev
  dsimp only at ev
  have key : ∃ xs, f0 = true ∧ rd (s1.keep t) i = some (.list xs, true) ∧ (if xs.length < sizeLine then some (Fl.nx, (s1.keep t).put i (.list (xs ++ [d]), true)) else none) = some (fl, s2) := by
    split at ev
    · exact ⟨_, by first | rfl | assumption, by assumption, ev⟩
    · cases ev
  obtain ⟨xs, hf, hr, ev9⟩ := key
  clear ev
  subst hf
  · by_cases hl : xs.length < sizeLine
    · rw [if_pos hl] at ev9
      cases ev9
      obtain ⟨a, ys, ds, ea, rfl, ha, ra⟩ := own_at S0 e0
      refine ⟨.ref a, ea, .inl ⟨rfl, ys, .of ha⟩, tV_of S0 e1 fun v H1 G1 S1 E1 R1 N1 => ?_⟩
      obtain ⟨G', S', E', k, _, rp⟩ := R1.keep S1 E1 N1
      obtain ⟨b, zs, es, eb, ez, hb, rb⟩ := own_at S' hr
      rw [ea] at eb; cases eb
      cases ez
      exact ⟨a, zs, v, rfl, rfl, hb, by rw [rb.len]; exact hl, post _ _ G' E'.gk (S'.ownUpd (rd_at hr) ea (rb.app (.cons rp .nil)))⟩
    · rw [if_neg hl] at ev9; cases ev9
def rInsert : V → List V → Hp → VK → Prop := fun x vs H Q => ∃ (l : Addr) (xs : List V) (i : Int) (y : V), x = .ref l ∧ vs = [.int i, y] ∧ H l = some (.lst xs) ∧ xs.length < sizeLine ∧ 0 ≤ i ∧ i < 2 ^ 63 ∧
    Q .non (upd H l (.lst (xs.take i.toNat ++ [y] ++ xs.drop i.toNat)))
theorem skey_ins {i : Nat} {k e : IE} (K : PySem.W.Frag) (h : tF (evalS (.ins i k e)) Ds σ H) : tDrop (tBM K "list" rInsert (tVar i) (tCons (tI k) (tCons (tI e) tNil))) Ds σ H := by
  obtain ⟨pa, H0, G0, G, s, fl, s2, S0, ev, post⟩ := h
  rw [evalS] at ev
  obtain ⟨⟨d0, f0⟩, e0, ev⟩ := obind ev
  obtain ⟨⟨⟨kd, tk⟩, s0⟩, ek, ev⟩ := obind ev
  obtain ⟨⟨⟨d, t⟩, s1⟩, e1, ev⟩ := obind ev
  dsimp only at ev
  have key : ∃ xs n, f0 = true ∧ rd (s1.keep t) i = some (.list xs, true) ∧ kd = .int n ∧ (if xs.length < sizeLine ∧ 0 ≤ n ∧ n < 2 ^ 63 then some (Fl.nx, (s1.keep t).put i (.list (xs.take n.toNat ++ [d] ++ xs.drop n.toNat), true)) else none) = some (fl, s2) := by
    split at ev
    · exact ⟨_, _, by first | rfl | assumption, by assumption, by first | rfl | assumption, ev⟩
    · cases ev
  obtain ⟨xs, n, hf, hr, hk, ev9⟩ := key
  clear ev
  subst hf hk
  by_cases hl : xs.length < sizeLine ∧ 0 ≤ n ∧ n < 2 ^ 63
  · rw [if_pos hl] at ev9
    cases ev9
    obtain ⟨a, ys, ds, ea, rfl, ha, ra⟩ := own_at S0 e0
    refine ⟨.ref a, ea, .inl ⟨rfl, ys, .of ha⟩, tV_of S0 ek fun w Ha Ga Sa Ea Ra Na => ?_⟩
    refine tV_of Sa e1 fun v H1 G1 S1 E1 R1 N1 => ?_
    obtain ⟨G', S', E', k, _, rp⟩ := R1.keep S1 E1 N1
    obtain ⟨b, zs, es, eb, ez, hb, rb⟩ := own_at S' hr
    rw [ea] at eb; cases eb
    cases ez
    exact ⟨a, zs, n, v, rfl, by rw [(Ra.top Sa).int], hb, by rw [rb.len]; exact hl.1, hl.2.1, hl.2.2, post _ _ G' (Ea.gk.trans E'.gk) (S'.ownUpd (rd_at hr) ea (((rb.take n.toNat).app (.cons rp .nil)).app (rb.drop n.toNat)))⟩
  · rw [if_neg hl] at ev9; cases ev9
theorem skey_ext {i : Nat} {e : IE} (K : PySem.W.Frag) (h : tF (evalS (.ext i e)) Ds σ H) : tDrop (tBM K "list" rExtend (tVar i) (tCons (tI e) tNil)) Ds σ H := by
  obtain ⟨pa, H0, G0, G, s, fl, s2, S0, ev, post⟩ := h
  rw [evalS] at ev
  obtain ⟨⟨d0, f0⟩, e0, ev⟩ := obind ev
  obtain ⟨⟨⟨d, t⟩, s1⟩, e1, ev⟩ := obind ev
  dsimp only at ev
  have key : ∃ xs ys, f0 = true ∧ rd (s1.keep t) i = some (.list xs, true) ∧ d = .list ys ∧ (if xs.length + ys.length ≤ sizeLine then some (Fl.nx, (s1.keep t).put i (.list (xs ++ ys), true)) else none) = some (fl, s2) := by
    split at ev
    · exact ⟨_, _, by first | rfl | assumption, by assumption, by first | rfl | assumption, ev⟩
    · cases ev
  obtain ⟨xs, ys, hf, hr, hd, ev9⟩ := key
  clear ev
  subst hf hd
  · by_cases hl : xs.length + ys.length ≤ sizeLine
    · rw [if_pos hl] at ev9
      cases ev9
      obtain ⟨a, ws, ds, ea, rfl, ha, ra⟩ := own_at S0 e0
      refine ⟨.ref a, ea, .inl ⟨rfl, ws, .of ha⟩, tV_of S0 e1 fun v H1 G1 S1 E1 R1 N1 => ?_⟩
      obtain ⟨G', S', E', k, _, rp⟩ := R1.keep S1 E1 N1
      obtain ⟨b, zs, es, eb, ez, hb, rb⟩ := own_at S' hr
      rw [ea] at eb; cases eb
      cases ez
      cases rp with
      | lst hc rc =>
        exact ⟨a, _, zs, _, rfl, rfl, hb, S'.sub _ _ hc, by rw [rb.len, rc.len]; exact hl, post _ _ G' E'.gk (S'.ownUpd (rd_at hr) ea (rb.app rc))⟩
    · rw [if_neg hl] at ev9; cases ev9
theorem skey_rev {i : Nat} (K : PySem.W.Frag) (h : tF (evalS (.rev i)) Ds σ H) : tDrop (tBM0 K "list" rReverse (tVar i)) Ds σ H := by
  obtain ⟨pa, H0, G0, G, s, fl, s2, S0, ev, post⟩ := h
  rw [evalS] at ev
  split at ev
  · rename_i xs hr
    cases ev
    obtain ⟨a, ys, ds, ea, ez, ha, ra⟩ := own_at S0 hr
    cases ez
    exact ⟨.ref a, ea, .inl ⟨rfl, ys, .of ha⟩, a, ys, rfl, rfl, ha, post _ _ G .refl (S0.ownUpd (rd_at hr) ea ra.rev)⟩
  · cases ev
theorem ixN_len {n m : Nat} {k : Int} {j : Nat} (e : n = m) (h : ixN n k = some j) : ixN m k = some j := e ▸ h
theorem skey_setIx {i : Nat} {k e : IE} (h : tF (evalS (.setIx i k e)) Ds σ H) : tAsg (tI e) (gSub (tVar i) (tI k) rSetL) Ds σ H := by
  obtain ⟨pa, H0, G0, G, s, fl, s2, S0, ev, post⟩ := h
  rw [evalS] at ev
  obtain ⟨⟨d0, f0⟩, e0, ev⟩ := obind ev
  obtain ⟨⟨⟨d, t⟩, s1⟩, e1, ev⟩ := obind ev
  obtain ⟨⟨⟨kd, t2⟩, s3⟩, e2, ev⟩ := obind ev
  dsimp only at ev
  obtain ⟨x, hx, _⟩ := S0.val e0
  split at ev
  · rename_i xs n hr
    obtain ⟨j, hj, ev⟩ := Option.map_eq_some_iff.mp ev
    cases ev
    refine tV_of S0 e1 fun v H1 G1 S1 E1 R1 N1 => ⟨x, hx, ?_⟩
    obtain ⟨G', S', E', k1, _, rp⟩ := R1.keep S1 E1 N1
    refine tV_of S' e2 fun w H2 G2 S2 E2 R2 N2 => ?_
    obtain ⟨a, zs, es, ea, ez, ha, ra⟩ := own_at S2 hr
    rw [hx] at ea; cases ea
    cases ez
    exact ⟨a, zs, n, j, rfl, (R2.top S2).int, ha, ixN_len ra.len.symm hj, post _ _ G2 (E'.gk.trans E2.gk) (S2.ownUpd (rd_at hr) hx ((rp.mono E2.gk) |> fun r => ra.set r j))⟩
  · cases ev
theorem Sim.penUpd {pa : PA} {H0 G0 G : Hp} {s : S} (S0 : Sim pa H0 G0 G σ H s) {a c : Addr} {q : Pn} (hpa : pa = some (a, c)) (hp : s.pn = some q) {m r : Int} : Sim pa H0 G0 G σ (upd H a (.lst [.ref c, .int m, .int r])) { s with pn := some ⟨q.cells, m, r⟩ } := by
  have p := S0.pen
  rw [hp] at p
  subst hpa
  refine ⟨S0.len, fun b u h => ?_, S0.base, S0.new, fun b u h n => ?_, ⟨p.1, upd_same, p.2.2.1, p.2.2.2⟩, S0.fz, fun i d h => ?_, S0.dis⟩
  · rw [upd_ne]
    · exact S0.sub b u h
    · rintro rfl; rw [p.2.2.2] at h; cases h
  · rw [upd_ne]
    · exact S0.kee b u h n
    · rintro rfl; exact n ⟨c, rfl⟩
  · obtain ⟨b, xs, ds, e1, e2, e3, e4, e5, e6, e7⟩ := S0.ow i d h
    refine ⟨b, xs, ds, e1, e2, ?_, e4, e5, e6, e7⟩
    rw [upd_ne]
    · exact e3
    · rintro rfl; exact e7 ⟨c, rfl⟩
theorem isPen_ext {pa : PA} {G G1 H1 : Hp} {s s1 : S} (E : Ext pa G G1 H H1 σ s s1) {i : Nat} (h : isPen (rd s i) = true) : isPen (rd s1 i) = true := by
  obtain ⟨f, e, k⟩ := E.sl i _ _ (isPen_at h)
  have : f = false := by
    cases f with
    | false => rfl
    | true => exact absurd (k rfl) (by decide)
  subst this
  have : rd s1 i = some (.dict [], false) := by unfold rd; rw [e]; rfl
  rw [this]; rfl
theorem skey_pset {i j : Nat} {e : IE} (h : tF (evalS (.pset i j e)) Ds σ H) : tAsg (tI e) (gSub (tVar i) (tC (.int (j : Nat))) rSetL) Ds σ H := by
  obtain ⟨pa, H0, G0, G, s, fl, s2, S0, ev, post⟩ := h
  rw [evalS] at ev
  obtain ⟨⟨⟨d, t⟩, s1⟩, e1, ev⟩ := obind ev
  dsimp only at ev
  have key : ∃ n, isPen (rd s i) = true ∧ d = .int n ∧ ((s1.pn.bind (penSet j n)).map fun q => (Fl.nx, { s1 with pn := some q })) = some (fl, s2) := by
    split at ev
    · exact ⟨_, by assumption, by first | rfl | assumption, ev⟩
    · cases ev
  obtain ⟨n, hi, hd, ev9⟩ := key
  clear ev
  subst hd
  obtain ⟨q2, e2, e3⟩ := Option.map_eq_some_iff.mp ev9
  cases e3
  obtain ⟨q, hq, e9⟩ := Option.bind_eq_some_iff.mp e2
  clear e2 ev9
  refine tV_of S0 e1 fun v H1 G1 S1 E1 R1 N1 => ?_
  obtain ⟨a, c, hpa, hσ, ha, hc, _⟩ := pen_val S1 (isPen_ext E1 hi) hq
  have hv : v = .int n := (R1.top S1).int
  subst hv
  refine ⟨_, hσ, a, [.ref c, .int q.a, .int q.r], ((j : Nat) : Int), j, rfl, rfl, ha, ?_⟩
  unfold penSet at e9
  split at e9
  · rename_i hj
    subst hj
    cases e9
    exact ⟨rfl, post _ _ G1 E1.gk (S1.penUpd hpa hq)⟩
  · split at e9
    · rename_i hj
      subst hj
      cases e9
      exact ⟨rfl, post _ _ G1 E1.gk (S1.penUpd hpa hq)⟩
    · cases e9
theorem skey_expr {e : IE} (h : tF (evalS (.expr e)) Ds σ H) : tDrop (tI e) Ds σ H := by
  obtain ⟨pa, H0, G0, G, s, fl, s2, S0, ev, post⟩ := h
  rw [evalS] at ev
  obtain ⟨⟨⟨d, t⟩, s1⟩, e1, ev⟩ := obind ev
  cases ev
  exact tV_of S0 e1 fun v H1 G1 S1 E1 R1 N1 => post σ H1 G1 E1.gk S1
theorem skey_ite {c : IE} {a b : ISs} (h : tF (evalS (.ite c a b)) Ds σ H) : tIfS (tQ fun s => boolD (evalE c s)) (tF (evalSs a)) (tF (evalSs b)) Ds σ H := by
  obtain ⟨pa, H0, G0, G, s, fl, s2, S0, ev, post⟩ := h
  rw [evalS] at ev
  obtain ⟨⟨k, s1⟩, e1, ev⟩ := obind ev
  dsimp only at ev
  refine tQ_of S0 e1 fun H1 G1 S1 E1 => ?_
  cases k with
  | true =>
    rw [if_pos rfl] at ev ⊢
    exact ⟨pa, H0, G0, G1, s1, fl, s2, S1, ev, post.up E1.gk⟩
  | false =>
    rw [if_neg (by decide)] at ev ⊢
    exact ⟨pa, H0, G0, G1, s1, fl, s2, S1, ev, post.up E1.gk⟩
theorem skey_ret {e : IE} (h : tF (evalS (.ret e)) Ds σ H) : tRet (tI e) Ds σ H := by
  obtain ⟨pa, H0, G0, G, s, fl, s2, S0, ev, post⟩ := h
  rw [evalS] at ev
  obtain ⟨⟨⟨d, t⟩, s1⟩, e1, ev⟩ := obind ev
  cases ev
  refine tV_of S0 e1 fun v H1 G1 S1 E1 R1 N1 => post v σ H1 G1 E1.gk S1 ?_
  cases t with
  | fz => exact R1
  | fresh =>
    obtain ⟨a, xs, es, e1, e2, e3, e4, e5, e6, e7, _⟩ := R1
    exact ⟨a, xs, es, e1, e2, e3, e4, e5, e6, e7⟩
  | slot i =>
    obtain ⟨f, h1, h2⟩ := R1
    have hr : rd s2 i = some (d, f) := by unfold rd; rw [h1]; rfl
    dsimp only
    rw [hr]
    cases f with
    | true =>
      obtain ⟨a, xs, es, e1, e2, e3, e4, e5, e6, e7⟩ := S1.ow i d h1
      rw [h2] at e1; cases e1
      exact ⟨a, xs, es, rfl, e2, e3, e4, e5, e6, e7⟩
    | false =>
      obtain ⟨w, e1, r⟩ := S1.fz i d h1
      rw [h2] at e1; cases e1
      exact r
theorem skey_while {n : Nat} {c : IE} {body : ISs} (h : tF (evalS (.while n c body)) Ds σ H) : tWhile (tQ fun s => boolD (evalE c s)) (tF (evalSs body)) Ds σ H := by
  obtain ⟨pa, H0, G0, G, s, fl, sE, S0, ev, post⟩ := h
  rw [evalS] at ev
  refine ⟨fun m σ' H' => ∃ G' s', Sub G G' ∧ Sim pa H0 G0 G' σ' H' s' ∧ wGo (fun s => boolD (evalE c s)) (evalSs body) m s' = some (fl, sE), ⟨n, G, s, .refl, S0, ev⟩, ?_⟩
  rintro m σ' H' ⟨G', s', u, S', e⟩
  cases m with
  | zero => rw [wGo] at e; cases e
  | succ m =>
    rw [wGo] at e
    obtain ⟨⟨b, s1⟩, e1, e⟩ := obind e
    dsimp only at e
    refine tQ_of S' e1 fun H1 G1 S1 E1 => ?_
    have u1 := u.trans E1.gk
    cases b with
    | false =>
      rw [if_neg (by decide)] at e ⊢
      cases e
      exact post σ' H1 G1 u1 S1
    | true =>
      rw [if_pos rfl] at e ⊢
      obtain ⟨⟨f, s2⟩, e2, e⟩ := obind e
      dsimp only at e
      refine ⟨fun σ2 H2 => ∃ G2 s2, Sub G G2 ∧ Sim pa H0 G0 G2 σ2 H2 s2 ∧ wGo (fun s => boolD (evalE c s)) (evalSs body) m s2 = some (fl, sE), fun σ2 H2 q => ⟨m, Nat.lt_succ_self m, q⟩, pa, H0, G0, G1, s1, f, s2, S1, e2, ?_⟩
      cases f with
      | nx => exact fun σ2 H2 G2 k S2 => ⟨G2, s2, u1.trans k, S2, e⟩
      | cont => exact fun σ2 H2 G2 k S2 => ⟨G2, s2, u1.trans k, S2, e⟩
      | brk => cases e; exact fun σ2 H2 G2 k S2 => post σ2 H2 G2 (u1.trans k) S2
      | ret d fr => cases e; exact fun v σ2 H2 G2 k S2 r => post v σ2 H2 G2 (u1.trans k) S2 r
theorem skey_for (K : PySem.W.Frag) {tg : Tr} {src : Sr} {body : ISs} (hb : src.pairs = true → tg.isT = true) (h : tF (evalS (.for tg src body)) Ds σ H) : tFor (tSr src) (tTr K tg) (tF (evalSs body)) Ds σ H := by
  obtain ⟨pa, H0, G0, G, s, fl, sE, S0, ev, post⟩ := h
  rw [evalS] at ev
  obtain ⟨⟨⟨items, t⟩, s1⟩, e1, ev⟩ := obind ev
  dsimp only at ev
  refine ⟨pa, H0, G0, G, s, items, t, s1, S0, e1, fun J H1 G1 v d S1 E1 R1 N1 ok => ?_⟩
  obtain ⟨G', S', E', k1, _, rp⟩ := R1.keep S1 E1 N1
  obtain ⟨Gd, Y, w, hg, hy⟩ := ok.2 G' k1 rp
  refine for_it w (fun i σ' H' => ∃ G2 s2, Sub G' G2 ∧ Sim pa H0 G0 G2 σ' H' s2 ∧ fGo tg (evalSs body) (items.drop i) s2 = some (fl, sE)) ⟨G', s1.keep t, .refl, S', ev⟩ ?_ ?_ ?_
  · rintro i σ' H' _ ⟨G2, s2, u, S2, _⟩
    exact hg H' (u.trans S2.sub)
  · rintro i x σ' H' H'' hi ⟨G2, s2, u, S2, e⟩ y
    obtain ⟨d2, hd, res⟩ := hy i H' x H'' hi (hg H' (u.trans S2.sub)) y
    have edrop : items.drop i = d2 :: items.drop (i + 1) := by
      obtain ⟨hlt, e⟩ := List.getElem?_eq_some_iff.mp hd
      rw [List.drop_eq_getElem_cons hlt, e]
    rw [edrop, fGo] at e
    obtain ⟨sb, eb, e⟩ := obind e
    obtain ⟨⟨f, s3⟩, e2, e⟩ := obind e
    dsimp only at e
    refine item_ok K hb S2 (res.mono u) eb fun Gb σ3 Eb S3 _ _ _ _ => ⟨pa, H0, G0, Gb, sb, f, s3, S3, e2, ?_⟩
    have ub := u.trans Eb.gk
    have uG : ∀ {G2}, Sub Gb G2 → Sub G G2 := fun k => (E'.gk.trans ub).trans k
    cases f with
    | nx => exact fun σ4 H4 G4 k S4 => ⟨G4, s3, ub.trans k, S4, e⟩
    | cont => exact fun σ4 H4 G4 k S4 => ⟨G4, s3, ub.trans k, S4, e⟩
    | brk => cases e; exact fun σ4 H4 G4 k S4 => post σ4 H4 G4 (uG k) S4
    | ret d fr => cases e; exact fun v σ4 H4 G4 k S4 r => post v σ4 H4 G4 (uG k) S4 r
  · rintro σ' H' ⟨G2, s2, u, S2, e⟩
    rw [List.drop_length, fGo] at e
    cases e
    exact post σ' H' G2 (E'.gk.trans u) S2
end
end Fs

set_option Elab.async false
set_option linter.all false
set_option maxRecDepth 100000
set_option maxHeartbeats 8000000
namespace Fs
open PySem L2

def nolcX : Expr → Bool
  | .ListComp _ _ _ _ => false
  | .SetComp _ _ _ _ => false
  | .DictComp _ _ _ _ _ => false
  | _ => true
theorem em_nolc (N : List Str) {e : IE} (E : Em) (h : isLc e = false) : nolcX (emE N e E).1 = true := by
  cases e with
  | lc _ _ _ _ => cases h
  | blt f es => cases f <;> first | rfl | cases h
  | tab m _ _ _ => cases m <;> rfl
  | _ => rfl
theorem sw_nolc {e : Expr} {t : Option Expr} {l : Nat} {env : Env} (h : nolcX e = true) : swapsWith e t l env = pure false := by
  cases e <;> first | rfl | cases h
theorem sw_cell {e : Expr} {y : Str} {p : Pos} {l : Nat} {env : Env} (h : env.scope.names.lookup y = some .cell) : swapsWith e (some (.Name y p)) l env = pure false := by
  have k : env.kindOf y = some .cell := h
  have k2 : (env.kindOf y == some NameKind.local) = false := by rw [k]; rfl
  cases e <;> first | rfl | (unfold swapsWith; simp only [k2, Bool.and_false, Bool.false_and])
theorem sw_tup {e : Expr} {ts : List Expr} {n : Nat} {p : Pos} {l : Nat} {env : Env} : swapsWithSole [.Tuple ts n p] e l env = pure false := by
  cases e <;> rfl
theorem sw_sub {e o k : Expr} {p : Pos} {l : Nat} {env : Env} : swapsWithSole [.Subscript o k p] e l env = pure false := by
  cases e <;> rfl
def notupX : Expr → Bool
  | .Tuple _ _ _ => false
  | _ => true
theorem em_notup (N : List Str) {e : IE} (E : Em) (h : isTup e = false) : notupX (emE N e E).1 = true := by
  cases e with
  | tup _ => cases h
  | blt f es => cases f <;> first | rfl | cases h
  | tab m _ _ _ => cases m <;> rfl
  | _ => rfl
theorem ss_notup {e : Expr} {ts : List Expr} {n : Nat} {p : Pos} {env : Env} (h : notupX e = true) : swappedStores [.Tuple ts n p] e env = pure none := by
  cases e <;> first | rfl | cases h
theorem asg_sub {o k : Expr} {p : Pos} {env : Env} (h : plX k = true) : ∀ v, assign (.Subscript o k p) env v = (do
      let ov ← holding [v] (eval o env)
      let iv ← holding [v, ov] (eval k env)
      standAt p
      holding [v, ov, iv] (setItem ov iv v)
      release [v, ov, iv] []) := by
  cases k <;> first | (intro v; rfl) | cases h

structure Bd (X : Cx) : Prop where
  passes : PassesOwn (model X.prog X.w) X.A X.env X.xe
  fn : ∀ x, X.fn x = true
theorem bd0 {X : Cx} (xe : X.xe = fun _ _ => False) (fn : ∀ x, X.fn x = true) : Bd X := ⟨by rw [xe]; exact PassesOwn.never, fn⟩
theorem tg_of {X : Cx} {sc : Scope} {k : Nat} (C : Cd X X.N sc k) (B : Bd X) {is : List Nat} (h : tgB X.N sc is = true) : ∀ i ∈ is, X.N[i]? = some (nm X.N i) ∧ Loc X.env.scope (nm X.N i) ∧ (X.fn (nm X.N i) = true ∨ X.env.scope.names.lookup (nm X.N i) = some .local) := fun i hi => by
  obtain ⟨l1, l2⟩ := loc_of (List.all_eq_true.mp h i hi)
  exact ⟨l1, by rw [C.hs]; exact l2, .inl (B.fn _)⟩

section
variable {k : Nat}
theorem lc_pairs {N : List Str} {elt : IE} {tg : Tr} {src : Sr} {ifs : IEs} {sc : Scope} {E : Em} (ho : okE N sc (.lc elt tg src ifs) E = true) (hp : src.pairs = true) : tg.isT = true := by
  rw [okE] at ho
  have h := (and1 (and1 (and1 ho).2).1).1
  rw [hp] at h
  cases tg with
  | v i => cases h
  | t is => rfl
  | n i is => rfl
theorem lc_parts (elt : IE) (tg : Tr) (src : Sr) (ifs : IEs) {X : Cx} {sc : Scope} {E : Em} (C : Cd X X.N sc k) (ho : okE X.N sc (.lc elt tg src ifs) E = true) (ha : askE (askOf (wdOf X) k) (.lc elt tg src ifs)) :
    PI X (emTr X.N tg (emE X.N elt E.np.ns).2).1 (emSr X.N src (emTr X.N tg (emE X.N elt E.np.ns).2).2).1 (tSr src) ∧ BlkOk X.N X.env.scope E.s (ownOf X.N tg.slots) ∧
    (∀ (s : Shared) (H : Hp) (A : Addr) (cl : List (Str × Addr)) (fp : List Addr), PG (X.blk s H E.s (compEnvC E.s cl A X.env) fp) (emTr X.N tg (emE X.N elt E.np.ns).2).1 (tTr X.K tg)) ∧
    (∀ (s : Shared) (H : Hp) (A : Addr) (cl : List (Str × Addr)) (fp : List Addr), PTs (X.blk s H E.s (compEnvC E.s cl A X.env) fp) (emEs X.N ifs (emSr X.N src (emTr X.N tg (emE X.N elt E.np.ns).2).2).2).1 (tTs ifs)) ∧
    (∀ (s : Shared) (H : Hp) (A : Addr) (cl : List (Str × Addr)) (fp : List Addr), PE (X.blk s H E.s (compEnvC E.s cl A X.env) fp) (emE X.N elt E.np.ns).1 (tI elt)) := by
  rw [okE] at ho
  rw [askE] at ha
  obtain ⟨h1, ho⟩ := and1 ho
  obtain ⟨h2, ho⟩ := and1 ho
  obtain ⟨h2, h3⟩ := and1 h2
  obtain ⟨h4, h5⟩ := and1 ho
  obtain ⟨h6, h7⟩ := and1 h4
  obtain ⟨h8, h9⟩ := and1 h5
  obtain ⟨h10, h11⟩ := and1 h9
  refine ⟨sSr src C h8 ha.2.1 fun hp => ?_, by rw [C.hs]; exact blkOk_by h3, fun s H A cl fp => ?_, fun s H A cl fp => sTs ifs (C.blk E.s s H A cl fp) h10 ha.2.2 (of_decide_eq_true h11), fun s H A cl fp => (sE elt (C.blk E.s s H A cl fp) h1 ha.1).pe⟩
  · rw [hp] at h2
    cases tg with
    | v i => cases h2
    | t is => exact ⟨_, _, _, rfl⟩
    | n i is => exact ⟨_, _, _, rfl⟩
  · refine pg_tr (X := X.blk s H E.s (compEnvC E.s cl A X.env) fp) C.nd C.calm tg _ fun i hi => ?_
    obtain ⟨l1, l2⟩ := loc_of (List.all_eq_true.mp h6 i hi)
    refine ⟨l1, ?_, ?_⟩
    · rcases l2 with l2 | l2
      · exact .inl (lookup_relS_keep (by decide) l2)
      · exact .inr (lookup_relS_keep (by decide) l2)
    · rcases l2 with l2 | l2
      · exact .inr (lookup_relS_keep (by decide) l2)
      · refine .inl ?_
        show (E.s.names.lookup (nm X.N i) == some .cell) = true
        rw [l2]; rfl
theorem pl_of {N : List Str} {sc : Scope} {i : Nat} (h : plB N sc i = true) : sc.names.lookup (nm N i) = some .local := by
  unfold plB at h
  split at h
  · assumption
  · cases h
theorem cel_of {N : List Str} {sc : Scope} {i : Nat} (h : celB N sc i = true) : sc.names.lookup (nm N i) = some .cell := by
  unfold celB at h
  split at h
  · assumption
  · cases h
theorem kind_of {sc : Scope} (h : kindF sc = true) : sc.kind = .function := by
  unfold kindF at h
  split at h
  · assumption
  · cases h
theorem swC_len {sc : Scope} {ts vs : List Expr} {l : List Str} (h : swC sc ts vs = some (some l)) : vs.length = ts.length := by
  unfold swC at h
  split at h
  · cases h
  · rename_i z
    simp only [Bool.or_eq_true, not_or] at z
    simpa using z.2
theorem em_names_len (N : List Str) : ∀ (is : List Nat) (E : Em), (emNames N is E).1.length = is.length
  | [], _ => rfl
  | i :: is, E => by
    show ((Expr.Name (nm N i) E.p) :: (emNames N is E.np).1).length = _
    rw [List.length_cons, em_names_len N is, List.length_cons]

theorem s_par2 {i j : Nat} {a b : IE} {X : Cx} {sc : Scope} {E : Em} {p1 p2 pt pt2 pos : Pos} {n n2 : Nat} (C : Cd X X.N sc k) (B : Bd X) (h2 : tgB X.N sc [i, j] = true) (h7 : plB X.N sc i = true) (h8 : plB X.N sc j = true) (h9 : i ≠ j)
    (pas : L2.PA X (emEs X.N (.cons a (.cons b .nil)) E).1 (tAs (.cons a (.cons b .nil))))
    (hw : swappedStores [.Tuple [.Name (nm X.N i) p1, .Name (nm X.N j) p2] n pt] (.Tuple (emEs X.N (.cons a (.cons b .nil)) E).1 n2 pt2) X.env = pure (some [nm X.N i, nm X.N j])) :
    PS X (.Assign [.Tuple [.Name (nm X.N i) p1, .Name (nm X.N j) p2] n pt] (.Tuple (emEs X.N (.cons a (.cons b .nil)) E).1 n2 pt2) pos) (tF (evalS (.set2 [i, j] (.cons a (.cons b .nil))))) := by
  have ti := tg_of C B h2 i (by simp)
  have tj := tg_of C B h2 j (by simp)
  refine PS.imp (ps_par C.calm C.nd ti.1 tj.1 h9 (by rw [C.hs]; exact pl_of h7) (by rw [C.hs]; exact pl_of h8) pas hw sw_tup) fun Ds σ H q => ?_
  obtain ⟨pa, H0, G0, G, s, xs, s1, S0, e1, kk⟩ := skey_two q
  refine ⟨pa, H0, G0, G, s, xs, s1, S0, e1, fun vs H1 G1 S1 E1 Rs => ?_⟩
  obtain ⟨l, _, kq⟩ := kk vs H1 G1 S1 E1 Rs
  match vs, l, kq with
  | [v, w], _, kq => exact ⟨v, w, rfl, kq⟩
theorem s_par3 {i j l : Nat} {a b c : IE} {X : Cx} {sc : Scope} {E : Em} {p1 p2 p3 pt pt2 pos : Pos} {n n2 : Nat} (C : Cd X X.N sc k) (B : Bd X) (h2 : tgB X.N sc [i, j, l] = true) (h7 : plB X.N sc i = true) (h8 : plB X.N sc j = true) (h6 : plB X.N sc l = true) (h9 : i ≠ j) (h10 : i ≠ l) (h11 : j ≠ l)
    (pas : L2.PA X (emEs X.N (.cons a (.cons b (.cons c .nil))) E).1 (tAs (.cons a (.cons b (.cons c .nil)))))
    (hw : swappedStores [.Tuple [.Name (nm X.N i) p1, .Name (nm X.N j) p2, .Name (nm X.N l) p3] n pt] (.Tuple (emEs X.N (.cons a (.cons b (.cons c .nil))) E).1 n2 pt2) X.env = pure (some [nm X.N i, nm X.N j, nm X.N l])) :
    PS X (.Assign [.Tuple [.Name (nm X.N i) p1, .Name (nm X.N j) p2, .Name (nm X.N l) p3] n pt] (.Tuple (emEs X.N (.cons a (.cons b (.cons c .nil))) E).1 n2 pt2) pos) (tF (evalS (.set2 [i, j, l] (.cons a (.cons b (.cons c .nil)))))) := by
  have ti := tg_of C B h2 i (by simp)
  have tj := tg_of C B h2 j (by simp)
  have tl := tg_of C B h2 l (by simp)
  refine PS.imp (ps_par3 C.calm C.nd ti.1 tj.1 tl.1 h9 h10 h11 (by rw [C.hs]; exact pl_of h7) (by rw [C.hs]; exact pl_of h8) (by rw [C.hs]; exact pl_of h6) pas hw sw_tup) fun Ds σ H q => ?_
  obtain ⟨pa, H0, G0, G, s, xs, s1, S0, e1, kk⟩ := skey_two q
  refine ⟨pa, H0, G0, G, s, xs, s1, S0, e1, fun vs H1 G1 S1 E1 Rs => ?_⟩
  obtain ⟨l, _, kq⟩ := kk vs H1 G1 S1 E1 Rs
  match vs, l, kq with
  | [u, v, w], _, kq => exact ⟨u, v, w, rfl, kq⟩
theorem s_set2 (is : List Nat) (es : IEs) {X : Cx} {sc : Scope} {E : Em} (C : Cd X X.N sc k) (B : Bd X) (ho : okS X.N sc (.set2 is es) E = true) (ha : askEs (askOf (wdOf X) k) es) : PS X (emS X.N (.set2 is es) E).1 (tF (evalS (.set2 is es))) := by
  rw [okS] at ho
  obtain ⟨h1, ho⟩ := and1 ho
  obtain ⟨h2, ho⟩ := and1 ho
  obtain ⟨h3, ho⟩ := and1 ho
  obtain ⟨h4, h5⟩ := and1 ho
  have pas := sEs es C h1 ha
  cases hsw : swC sc (emNames X.N is E.np.np).1 (emEs X.N es (emTr X.N (.t is) E.np).2.np).1 with
  | none =>
    unfold swB at h5
    rw [hsw] at h5
    cases h5
  | some r =>
    have hw := fun a b p q => swC_ok (a := a) (b := b) (p := p) (q := q) C.hs h4 hsw
    cases r with
    | none =>
      refine PS.imp (ps_asg (pe_tup pas) (pg_tr C.nd C.calm (.t is) E.np (tg_of C B h2)) sw_tup (hw _ _ _ _)) fun Ds σ H q => ?_
      obtain ⟨pa, H0, G0, G, s, xs, s1, S0, e1, kk⟩ := skey_two q
      refine ⟨pa, H0, G0, G, s, xs, s1, S0, e1, fun vs H1 G1 S1 E1 Rs => ⟨?_, fun T hT => ?_⟩⟩
      · rw [Rs.len, ev_len es e1, ← em_len X.N es]; exact line1k (of_decide_eq_true h3)
      · obtain ⟨l, kq, _⟩ := kk vs H1 G1 S1 E1 Rs
        exact ⟨T, vs, rfl, .of upd_same, l.symm, gn_sets l (kq T hT)⟩
    | some l =>
      have hl := swC_len hsw
      rw [em_len, em_names_len] at hl
      unfold swB at h5
      rw [hsw] at h5
      dsimp only at h5
      clear hsw ho h1 h3 ha
      match is, es, hl, h5, pas, hw, h2 with
      | [i, j], .cons a (.cons b .nil), _, h5, pas, hw, h2 =>
        obtain ⟨h6, h5⟩ := and1 h5
        obtain ⟨h7, h5⟩ := and1 h5
        obtain ⟨h8, h9⟩ := and1 h5
        have e6 := of_decide_eq_true h6
        subst e6
        exact s_par2 C B h2 h7 h8 (of_decide_eq_true h9) pas (hw _ _ _ _)
      | [i, j, l2], .cons a (.cons b (.cons c .nil)), _, h5, pas, hw, h2 =>
        obtain ⟨h6, h5⟩ := and1 h5
        obtain ⟨h7, h5⟩ := and1 h5
        obtain ⟨h8, h5⟩ := and1 h5
        obtain ⟨h9, h5⟩ := and1 h5
        obtain ⟨h10, h5⟩ := and1 h5
        obtain ⟨h11, h12⟩ := and1 h5
        have e6 := of_decide_eq_true h6
        subst e6
        exact s_par3 C B h2 h7 h8 h9 (of_decide_eq_true h10) (of_decide_eq_true h11) (of_decide_eq_true h12) pas (hw _ _ _ _)
      | [], _, _, h5, _, _, _ => cases h5
      | [_], _, _, h5, _, _, _ => cases h5
      | _ :: _ :: _ :: _ :: _, _, _, h5, _, _, _ => cases h5
      | [_, _], .nil, hl, _, _, _, _ => simp [IEs.len] at hl
      | [_, _], .cons _ .nil, hl, _, _, _, _ => simp [IEs.len] at hl
      | [_, _], .cons _ (.cons _ (.cons _ _)), hl, _, _, _, _ => simp [IEs.len] at hl
      | [_, _, _], .nil, hl, _, _, _, _ => simp [IEs.len] at hl
      | [_, _, _], .cons _ .nil, hl, _, _, _, _ => simp [IEs.len] at hl
      | [_, _, _], .cons _ (.cons _ .nil), hl, _, _, _, _ => simp [IEs.len] at hl
      | [_, _, _], .cons _ (.cons _ (.cons _ (.cons _ _))), hl, _, _, _, _ => simp [IEs.len] at hl

theorem pv {X : Cx} {sc : Scope} (C : Cd X X.N sc k) {i : Nat} {p : Pos} (h : visB X.N sc i = true) : PE X (.Name (nm X.N i) p) (tVar i) := by
  obtain ⟨h1, h2, h3, h4⟩ := vis_of h
  exact pe_var h1 (by rw [C.hs]; exact h2) h3 h4
theorem few_one {e : Expr} {cpos : Pos} {env : Env} (h : plX e = true) : ((backTo cpos (starEach [e] env)).all (fun x => !x.1) && (backToKw cpos (keywordEach [] env)).all (fun x => x.1.isSome)
      && decide ([e].length + ([] : List Keyword).length + (if ([] : List Keyword).isEmpty then 0 else 1) < 30)) = true := by
  rw [star_pl h]; rfl
theorem mt_ins {X : Cx} : MtM X "list.insert" rInsert := mt_insert
theorem few_two {e e2 : Expr} {cpos : Pos} {env : Env} (h : plX e = true) (h2 : plX e2 = true) : ((backTo cpos (starEach [e, e2] env)).all (fun x => !x.1) && (backToKw cpos (keywordEach [] env)).all (fun x => x.1.isSome)
      && decide ([e, e2].length + ([] : List Keyword).length + (if ([] : List Keyword).isEmpty then 0 else 1) < 30)) = true := by
  rw [star_pl h, star_pl h2]; rfl
theorem plain_one {e : Expr} {cpos : Pos} {env : Env} (h : plX e = true) : (backTo cpos (starEach [e] env)).any (·.1) = false := by
  rw [star_pl h]; rfl
mutual
theorem sS : ∀ (st : IS) {X : Cx} {sc : Scope} {E : Em}, Cd X X.N sc k → Bd X → okS X.N sc st E = true → askS (askOf (wdOf X) k) st → PS X (emS X.N st E).1 (tF (evalS st))
  | .set i e, X, sc, E, C, B, ho, ha => by
    rw [okS] at ho
    rw [askS] at ha
    obtain ⟨h1, ho⟩ := and1 ho
    obtain ⟨h2, h3⟩ := and1 ho
    obtain ⟨l1, l2⟩ := loc_of h2
    refine PS.imp (ps_set C.nd l1 (by rw [C.hs]; exact l2) (sE e C h1 ha).pe ?_ (.inl (B.fn _))) fun Ds σ H q => skey_set q
    cases hz : isLc e with
    | false => exact sw_nolc (em_nolc X.N _ hz)
    | true =>
      rw [hz] at h3
      exact sw_cell (by rw [C.hs]; exact cel_of h3)
  | .setLc i elt tg src ifs, X, sc, E, C, B, ho, ha => by
    rw [okS] at ho
    rw [askS] at ha
    obtain ⟨h1, ho⟩ := and1 ho
    obtain ⟨h2, ho⟩ := and1 ho
    obtain ⟨h3, ho⟩ := and1 ho
    obtain ⟨h4, ho⟩ := and1 ho
    obtain ⟨h5, h6⟩ := and1 ho
    obtain ⟨l1, l2⟩ := loc_of h2
    have hy : X.env.scope.names.lookup (nm X.N i) = some .local := by rw [C.hs]; exact pl_of h3
    obtain ⟨p1, p2, p3, p4, p5⟩ := lc_parts elt tg src ifs (E := E.np.np) C h1 ha
    have q := ps_setLc (pos := E.np.np.p) (spos := E.p) (py := E.np.p) C.calm C.nd l1 hy (sw_true (by rw [C.hs]; exact kind_of h4) hy h5 (by simpa using h6)) p1 p2 p3 p4 p5 (fold_sr _ src _)
    rw [own_snd] at q
    exact PS.imp q fun Ds σ H z => skey_lc X.K (lc_pairs h1) z
  | .setT is e, X, sc, E, C, B, ho, ha => by
    rw [okS] at ho
    rw [askS] at ha
    obtain ⟨h1, ho⟩ := and1 ho
    obtain ⟨h2, h3⟩ := and1 ho
    have h3 : isTup e = false := by simpa using h3
    exact PS.imp (ps_asg (sE e C h1 ha).pe (pg_tr C.nd C.calm (.t is) E.np (tg_of C B h2)) sw_tup (ss_notup (em_notup X.N _ h3))) fun Ds σ H q => skey_setT X.K q
  | .set2 is es, X, sc, E, C, B, ho, ha => by
    rw [askS] at ha
    exact s_set2 is es C B ho ha
  | .setIx i kx e, X, sc, E, C, B, ho, ha => by
    rw [okS] at ho
    rw [askS] at ha
    obtain ⟨h1, ho⟩ := and1 ho
    obtain ⟨h2, h3⟩ := and1 ho
    exact PS.imp (ps_asg (sE e C h2 ha.2).pe (pg_sub (pv C h3) (sE kx C h1 ha.1).pe set_list (asg_sub (em_pl X.N kx _))) sw_sub) fun Ds σ H q => skey_setIx q
  | .pset i j e, X, sc, E, C, B, ho, ha => by
    rw [okS] at ho
    rw [askS] at ha
    obtain ⟨h1, h2⟩ := and1 ho
    exact PS.imp (ps_asg (sE e C h1 ha).pe (pg_sub (pv C h2) pe_int set_list (asg_sub (by rfl))) sw_sub) fun Ds σ H q => skey_pset q
  | .aug op i e, X, sc, E, C, B, ho, ha => by
    rw [okS] at ho
    rw [askS] at ha
    obtain ⟨h1, h2⟩ := and1 ho
    obtain ⟨l1, l2⟩ := loc_of h2
    have l2' : Loc X.env.scope (nm X.N i) := by rw [C.hs]; exact l2
    have pe := (sE e C h1 ha).pe
    by_cases hadd : op = .Add
    · subst hadd
      refine PS.imp (ps_aug C.nd l1 l2' pe ip_add (.inl (B.fn _))) fun Ds σ H q => ?_
      rcases skey_aug q with ⟨_, z⟩ | ⟨z, _⟩
      · exact z
      · cases z
    · by_cases hsub : op = .Sub
      · subst hsub
        refine PS.imp (ps_aug C.nd l1 l2' pe ip_sub (.inl (B.fn _))) fun Ds σ H q => ?_
        rcases skey_aug q with ⟨z, _⟩ | ⟨_, z⟩
        · cases z
        · exact z
      · refine PS.imp ps_never fun Ds σ H q => ?_
        rcases skey_aug q with ⟨z, _⟩ | ⟨z, _⟩
        · exact hadd z
        · exact hsub z
  | .app i e, X, sc, E, C, B, ho, ha => by
    rw [okS] at ho
    rw [askS] at ha
    obtain ⟨h1, ho⟩ := and1 ho
    obtain ⟨h2, h3⟩ := and1 ho
    exact PS.imp (ps_expr (pe_bm PySem.F.plainAttrs_list PySem.F.slot_list_append PySem.F.type_list_append mt_append (pv C h2) (pa_cons (sE e C h1 ha).pe pa_nil (star_pl (em_pl X.N e _))) (by rfl) (few_one (em_pl X.N e _)) h3 (star_pl (em_pl X.N e _)) (by rfl))) fun Ds σ H q => skey_app X.K q
  | .ins i kx e, X, sc, E, C, B, ho, ha => by
    rw [okS] at ho
    rw [askS] at ha
    obtain ⟨h0, ho⟩ := and1 ho
    obtain ⟨h1, ho⟩ := and1 ho
    obtain ⟨h2, h3⟩ := and1 ho
    exact PS.imp (ps_expr (pe_bm PySem.F.plainAttrs_list PySem.F.slot_list_insert PySem.F.type_list_insert mt_ins (pv C h2) (pa_cons (sE kx C h0 ha.1).pe (pa_cons (sE e C h1 ha.2).pe pa_nil (star_pl (em_pl X.N e _))) (star_pl (em_pl X.N kx _))) (by rfl) (few_two (em_pl X.N kx _) (em_pl X.N e _)) h3 (star_pl (em_pl X.N kx _)) (plain_one (em_pl X.N e _)))) fun Ds σ H q => skey_ins X.K q
  | .ext i e, X, sc, E, C, B, ho, ha => by
    rw [okS] at ho
    rw [askS] at ha
    obtain ⟨h1, ho⟩ := and1 ho
    obtain ⟨h2, h3⟩ := and1 ho
    exact PS.imp (ps_expr (pe_bm PySem.F.plainAttrs_list PySem.F.slot_list_extend PySem.F.type_list_extend mt_extend (pv C h2) (pa_cons (sE e C h1 ha).pe pa_nil (star_pl (em_pl X.N e _))) (by rfl) (few_one (em_pl X.N e _)) h3 (star_pl (em_pl X.N e _)) (by rfl))) fun Ds σ H q => skey_ext X.K q
  | .rev i, X, sc, E, C, B, ho, ha => by
    rw [okS] at ho
    obtain ⟨h2, h3⟩ := and1 ho
    exact PS.imp (ps_expr (pe_bm0 PySem.F.plainAttrs_list PySem.F.slot_list_reverse PySem.F.type_list_reverse mt_reverse (pv C h2) (by rfl) h3)) fun Ds σ H q => skey_rev X.K q
  | .expr e, X, sc, E, C, B, ho, ha => by
    rw [okS] at ho
    rw [askS] at ha
    obtain ⟨h1, h2⟩ := and1 ho
    have h2 : isLc e = false := by simpa using h2
    exact PS.imp (ps_expr (sE e C h1 ha).pe (sw_nolc (em_nolc X.N _ h2))) fun Ds σ H q => skey_expr q
  | .ite c a b, X, sc, E, C, B, ho, ha => by
    rw [okS] at ho
    rw [askS] at ha
    obtain ⟨h1, ho⟩ := and1 ho
    obtain ⟨h2, h3⟩ := and1 ho
    exact PS.imp (ps_if (sE c C h1 ha.1).pt (sSs a C B h2 ha.2.1) (sSs b C B h3 ha.2.2)) fun Ds σ H q => skey_ite q
  | .for tg src body, X, sc, E, C, B, ho, ha => by
    rw [okS] at ho
    rw [askS] at ha
    obtain ⟨h1, ho⟩ := and1 ho
    obtain ⟨h2, ho⟩ := and1 ho
    obtain ⟨h3, h4⟩ := and1 ho
    have pi := sSr src (tgt := (emTr X.N tg E.np).1) C h1 ha.1 fun hp => by
      rw [hp] at h3
      cases tg with
      | v i => cases h3
      | t is => exact ⟨_, _, _, rfl⟩
      | n i is => exact ⟨_, _, _, rfl⟩
    exact PS.imp (ps_for B.passes C.calm pi (pg_tr C.nd C.calm tg E.np (tg_of C B h2)) (sSs body C B h4 ha.2) (fold_sr _ src _)) fun Ds σ H q => skey_for X.K (fun hp => by rw [hp] at h3; cases tg with | v i => cases h3 | t is => rfl | n i is => rfl) q
  | .while n c body, X, sc, E, C, B, ho, ha => by
    rw [okS] at ho
    rw [askS] at ha
    obtain ⟨h1, h2⟩ := and1 ho
    exact PS.imp (ps_while B.passes (sE c C h1 ha.1).pt (sSs body C B h2 ha.2)) fun Ds σ H q => skey_while q
  | .ret e, X, sc, E, C, B, ho, ha => by
    rw [okS] at ho
    rw [askS] at ha
    exact PS.imp (ps_ret (sE e C ho ha).pe) fun Ds σ H q => skey_ret q
  | .retN, X, sc, E, C, B, ho, ha => PS.imp ps_retN fun Ds σ H q => by
    obtain ⟨pa, H0, G0, G, s, fl, s2, S0, ev, post⟩ := q
    rw [evalS] at ev; cases ev
    exact post .non σ H G .refl S0 .non
  | .pass, X, sc, E, C, B, ho, ha => PS.imp ps_pass fun Ds σ H q => by
    obtain ⟨pa, H0, G0, G, s, fl, s2, S0, ev, post⟩ := q
    rw [evalS] at ev; cases ev
    exact post σ H G .refl S0
  | .brk, X, sc, E, C, B, ho, ha => PS.imp ps_break fun Ds σ H q => by
    obtain ⟨pa, H0, G0, G, s, fl, s2, S0, ev, post⟩ := q
    rw [evalS] at ev; cases ev
    exact post σ H G .refl S0
  | .cont, X, sc, E, C, B, ho, ha => PS.imp ps_continue fun Ds σ H q => by
    obtain ⟨pa, H0, G0, G, s, fl, s2, S0, ev, post⟩ := q
    rw [evalS] at ev; cases ev
    exact post σ H G .refl S0
  | .never, X, sc, E, C, B, ho, ha => PS.imp ps_never fun Ds σ H q => by
    obtain ⟨pa, H0, G0, G, s, fl, s2, S0, ev, post⟩ := q
    rw [evalS] at ev; cases ev
theorem sSs : ∀ (ss : ISs) {X : Cx} {sc : Scope} {E : Em}, Cd X X.N sc k → Bd X → okSs X.N sc ss E = true → askSs (askOf (wdOf X) k) ss → PSs X (emSs X.N ss E).1 (tF (evalSs ss))
  | .nil, X, sc, E, C, B, ho, ha => PSs.imp pss_nil fun Ds σ H q => skey_nil q
  | .cons s ss, X, sc, E, C, B, ho, ha => by
    rw [okSs] at ho
    rw [askSs] at ha
    obtain ⟨h1, h2⟩ := and1 ho
    exact PSs.imp (pss_cons (sS s C B h1 ha.1) (sSs ss C B h2 ha.2)) fun Ds σ H q => skey_cons q
end
end

theorem start_at {N : List Str} {vs : List V} {i : Nat} {v : V} (h : vs[i]? = some v) : (L2.start N vs)[i]? = some (some v) := by
  unfold L2.start
  obtain ⟨hi, _⟩ := List.getElem?_eq_some_iff.mp h
  rw [List.getElem?_append_left (by simpa using hi), List.getElem?_map, h]; rfl
theorem sim_start {pa : PA} {G H : Hp} {N : List Str} {vs : List V} {ds : List D} {p : Option Pn} (u : Sub G H) (hp : PenAt pa G H p) (r : Rps pa G vs ds) (hl : ds.length ≤ N.length) : Sim pa H G G (L2.start N vs) H (start N.length ds p) := by
  have sl : ∀ {i : Nat} {d : D} {f : Bool}, (start N.length ds p).sl[i]? = some (some (d, f)) → f = false ∧ ds[i]? = some d := by
    intro i d f h
    have h : (ds.map (fun d => some (d, false)) ++ List.replicate (N.length - ds.length) none)[i]? = some (some (d, f)) := h
    by_cases hi : i < ds.length
    · rw [List.getElem?_append_left (by simpa using hi), List.getElem?_map] at h
      cases q : ds[i]? with
      | none => rw [q] at h; cases h
      | some e => rw [q] at h; cases h; exact ⟨rfl, rfl⟩
    · rw [List.getElem?_append_right (by simpa using hi), List.getElem?_replicate] at h
      split at h <;> cases h
  refine ⟨?_, u, .refl, fun a o h => .inl h, fun a o h _ => h, hp, fun i d h => ?_, fun i d h => ?_, fun i j d e a h => ?_⟩
  · show (L2.start N vs).length = (ds.map (fun d => some (d, false)) ++ List.replicate (N.length - ds.length) none).length
    unfold L2.start
    have := r.len
    simp only [List.length_append, List.length_map, List.length_replicate]
    omega
  · obtain ⟨_, hd⟩ := sl h
    obtain ⟨v, hv, rv⟩ := r.get hd
    exact ⟨v, start_at hv, rv⟩
  · cases (sl h).1
  · cases (sl h).1
/-- a def of the text does what runF says -/
theorem def_of {W : Wd} {k : Nat} {f : Addr} {name qual : Str} {params : Arguments} {body : List Stmt} {scope : Scope} {dV kV doc pm cdv ct oc : Value} {an od : Option Addr} {osl : Array (Option Value)} {N ps : List Str} (ir : ISs) (E : Em)
    (lk : W.K.lookup f = some ⟨oc, od, .func (PySem.W.fnOf name qual params body scope dV kV doc pm an cdv ct), osl⟩)
    (hcd : PySem.W.codeIn W.K cdv qual = true) (sc : FnScope N ps scope) (bl : ∀ x, x ∈ bnames → W.mg x = none)
    (he : (emSs N ir E).1 = body) (ok : okSs N scope ir E = true) (ask : askSs (askOf W k) ir) :
    GFn W (k + 1) f (PySem.W.fnOf name qual params body scope dV kV doc pm an cdv ct) ps (spF (runF N.length ir) ps.length) := by
  subst he
  have hpl : ps.length ≤ N.length := by have := congrArg List.length sc.pre; rw [List.length_take] at this; omega
  refine gfn_of lk hcd sc (fun vs H Q h => ?_) fun A outer s H vs Q room hgd promise => ⟨tF (evalSs ir), ?_, ?_⟩
  · obtain ⟨pa, G, ds, p, d, fr, p1, hl, _, _, r, _⟩ := h
    rw [r.len, hl]
  · exact sSs ir (X := gx W N qual scope f cdv A outer s H) (sc := scope) ⟨rfl, sc.nd, rfl, rfl, room, hgd, bl⟩ (bd0 rfl fun _ => rfl) ok ask
  · obtain ⟨pa, G, ds, p, d, fr, p1, hl, u, hp, r, e, kk⟩ := promise
    have S0 := sim_start (N := N) u hp r (by omega)
    unfold runF at e
    obtain ⟨⟨fl, s1⟩, e1, e2⟩ := Option.bind_eq_some_iff.mp e
    refine ⟨pa, H, G, G, _, fl, s1, S0, e1, ?_⟩
    cases fl with
    | nx =>
      cases e2
      intro σ1 H1 G1 u1 S1
      exact kk .non H1 G1 (fun a o h n => S1.kee a o h n) S1.base S1.sub (fun a o h => S1.new a o h) S1.pen .non
    | brk => cases e2
    | cont => cases e2
    | ret d' fr' =>
      cases e2
      intro v σ1 H1 G1 u1 S1 rt
      refine kk v H1 G1 (fun a o h n => S1.kee a o h n) S1.base S1.sub (fun a o h => S1.new a o h) S1.pen ?_
      cases fr with
      | false => exact rt
      | true =>
        obtain ⟨a, xs, es, e1, e2, e3, e4, e5, e6, e7⟩ := rt
        exact ⟨a, xs, es, e1, e2, e6, e3, e4, e5⟩
end Fs

set_option Elab.async false
set_option linter.all false
set_option maxRecDepth 100000
set_option maxHeartbeats 8000000
namespace Fs
open PySem L2
/-- a statement by its path -/
def nav : List Nat → List Stmt → Stmt
  | [i], b => b.getD i (.Pass ⟨0, 0, 0, 0⟩)
  | i :: j :: r, b => match b.getD i (.Pass ⟨0, 0, 0, 0⟩) with
    | .If _ x y _ => nav r (if j = 0 then x else y)
    | .For _ _ x _ _ => nav r x
    | .While _ x _ _ => nav r x
    | s => s
  | [], _ => .Pass ⟨0, 0, 0, 0⟩
def ir_spread : ISs := (.cons (.ite (.cmp .GtE (.var 0) (.bin .Pow (.int 10) (.int 18)))
  (.cons (.ret (.var 0))
  .nil)
  .nil)
  (.cons (.set 2 (.lst (.cons (.int 2147483629) (.cons (.int 2147483587) (.cons (.int 2147483579) (.cons (.int 2147483563) (.cons (.int 2147483549) (.cons (.int 2147483543) (.cons (.int 2147483497) .nil)))))))))
  (.cons (.set 2 (.bin .Add (.var 2) (.lst (.cons (.int 2147483489) (.cons (.int 2147483477) (.cons (.int 2147483423) (.cons (.int 2147483399) (.cons (.int 2147483353) (.cons (.int 2147483323) .nil)))))))))
  (.cons (.set 3 (.bin .Add (.bin .Add (.bin .Mult (.bin .Mod (.blt .int (.cons (.var 0) .nil)) (.int 1000000007)) (.bin .Add (.bin .Mult (.int 2) (.var 1)) (.int 69069))) (.bin .Mult (.var 1) (.int 40503))) (.int 977)))
  (.cons (.set 4 (.bin .Mod (.blt .int (.cons (.bin .Pow (.var 3) (.int 3)) .nil)) (.ix (.var 2) (.bin .Mod (.blt .int (.cons (.var 1) .nil)) (.int 13)))))
  (.cons (.set 5 (.bin .Add (.bin .Mod (.blt .int (.cons (.var 0) .nil)) (.int 65537)) (.int 5)))
  (.cons (.set 6 (.bin .Mod (.blt .int (.cons (.bin .Pow (.bin .Add (.bin .Mult (.var 4) (.bin .Add (.var 1) (.int 3))) (.var 5)) (.int 5)) .nil)) (.ix (.var 2) (.bin .Mod (.blt .int (.cons (.bin .Add (.var 1) (.int 5)) .nil)) (.int 13)))))
  (.cons (.set 7 (.bin .Mod (.blt .int (.cons (.bin .Pow (.bin .Add (.bin .Add (.var 6) (.bin .Mod (.blt .int (.cons (.var 4) .nil)) (.int 1009))) (.var 1)) (.int 3)) .nil)) (.ix (.var 2) (.bin .Mod (.blt .int (.cons (.bin .Add (.var 1) (.int 7)) .nil)) (.int 13)))))
  (.cons (.ret (.bin .Add (.bin .Mult (.bin .Add (.bin .Mult (.var 4) (.int 2147483647)) (.var 6)) (.int 2147483647)) (.var 7)))
  .nil)))))))))
def ir_anew : ISs := (.cons (.pset 0 2 (.int 0))
  (.cons (.ret (.var 0))
  .nil))
def ir_take : ISs := (.cons (.ite (.cmp .Lt (.pix 0 2) (.var 1))
  (.cons (.set 2 (.pix 0 1))
  (.cons (.set 3 (.int 0))
  (.cons (.ite (.cmp .Lt (.var 2) (.blt .len (.cons (.pix 0 0) .nil)))
  (.cons (.set 3 (.ix (.pix 0 0) (.var 2)))
  .nil)
  (.cons (.ite (.cmp .Gt (.blt .len (.cons (.pix 0 0) .nil)) (.int 0))
  (.cons (.set 3 (.bin .Mod (.blt .int (.cons (.ix (.pix 0 0) (.bin .Mod (.blt .int (.cons (.bin .Add (.bin .Mult (.var 2) (.int 5)) (.int 3)) .nil)) (.blt .len (.cons (.pix 0 0) .nil)))) .nil)) (.bin .Add (.bin .Pow (.int 10) (.int 17)) (.var 2))))
  .nil)
  .nil)
  .nil))
  (.cons (.pset 0 1 (.bin .Add (.var 2) (.int 1)))
  (.cons (.pset 0 2 (.call "_law_spread" (runF 8 ir_spread) (.cons (.var 3) (.cons (.var 2) .nil))))
  .nil)))))
  .nil)
  (.cons (.set 4 (.bin .Mod (.blt .int (.cons (.pix 0 2) .nil)) (.var 1)))
  (.cons (.pset 0 2 (.bin .FloorDiv (.pix 0 2) (.var 1)))
  (.cons (.ret (.var 4))
  .nil))))
def ir_one : ISs := .cons (.ret (.ix (.var 1) (.call "_law_take" FTake (.cons (.var 0) (.cons (.blt .len (.cons (.var 1) .nil)) .nil))))) .nil
def ir_turn : ISs := .cons (.setIx 1 (.bin .Mod (.blt .int (.cons (.var 2) .nil)) (.int 12)) (.bin .Add (.ix (.var 1) (.bin .Mod (.blt .int (.cons (.var 2) .nil)) (.int 12))) (.var 3))) .nil
def ir_open : ISs := .cons (.set 1 (.blt .list (.cons (.sl (.var 0) .none (.some (.int 12))) .nil)))
  (.cons (.for (.t [2, 3]) (.enum (.sl (.var 0) (.some (.int 12)) (.some (.int 63)))) ir_turn)
  (.cons (.ret (.lst (.cons (.var 1) (.cons (.int 0) (.cons (.int 0) .nil))))) .nil))

def primD : List D := [.int 2147483629, .int 2147483587, .int 2147483579, .int 2147483563, .int 2147483549, .int 2147483543, .int 2147483497, .int 2147483489, .int 2147483477, .int 2147483423, .int 2147483399, .int 2147483353, .int 2147483323]
theorem prim_cases {i : Int} (h0 : 0 ≤ i) (h1 : i < 13) : i = 0 ∨ i = 1 ∨ i = 2 ∨ i = 3 ∨ i = 4 ∨ i = 5 ∨ i = 6 ∨ i = 7 ∨ i = 8 ∨ i = 9 ∨ i = 10 ∨ i = 11 ∨ i = 12 := by omega
theorem prim_at {i : Int} (h0 : 0 ≤ i) (h1 : i < 13) : L2.atI primD i = some (.int (prim i)) := by
  rcases prim_cases h0 h1 with rfl | rfl | rfl | rfl | rfl | rfl | rfl | rfl | rfl | rfl | rfl | rfl | rfl <;> rfl
theorem prim_pos {i : Int} (h0 : 0 ≤ i) (h1 : i < 13) : 0 < prim i ∧ prim i < 2147483648 := by
  rcases prim_cases h0 h1 with rfl | rfl | rfl | rfl | rfl | rfl | rfl | rfl | rfl | rfl | rfl | rfl | rfl <;> decide
end Fs

set_option Elab.async false
set_option linter.all false
set_option maxRecDepth 100000
set_option maxHeartbeats 8000000
namespace Fs
open PySem L2
abbrev Ev1 (e : IE) (s : S) (d : D) (t : Tg) (s1 : S) : Prop := evalE e s = some ((d, t), s1)
abbrev EvB (e : IE) (s : S) (b : Bool) (s1 : S) : Prop := boolD (evalE e s) = some (b, s1)
abbrev EvS (es : IEs) (s : S) (xs : List (D × Tg)) (s1 : S) : Prop := evalEs es s = some (xs, s1)
abbrev St1 (st : IS) (s : S) (f : Fl) (s1 : S) : Prop := evalS st s = some (f, s1)
abbrev Sts (ss : ISs) (s : S) (f : Fl) (s1 : S) : Prop := evalSs ss s = some (f, s1)
section
variable {s s1 s2 s3 : S} {d d1 d2 d3 : D} {t t1 t2 t3 : Tg} {a b c e : IE} {es : IEs} {i j n : Nat} {fr : Bool}
theorem ev_int {n : Int} : Ev1 (.int n) s (.int n) .fz s := by rw [Ev1, evalE]
theorem ev_bool {n : Bool} : Ev1 (.bool n) s (.bool n) .fz s := by rw [Ev1, evalE]
theorem ev_non : Ev1 .non s .none .fz s := by rw [Ev1, evalE]
theorem ev_str {n : Str} : Ev1 (.str n) s (.str n) .fz s := by rw [Ev1, evalE]
theorem ev_var (h : rd s i = some (d, false)) : Ev1 (.var i) s d .fz s := by rw [Ev1, evalE, h]; rfl
theorem ev_own (h : rd s i = some (d, true)) : Ev1 (.var i) s d (.slot i) s := by rw [Ev1, evalE, h]; rfl
def tagB (fr : Bool) : Tg := if fr = true then .fresh else .fz
theorem ev_binG {op : Operator} (h1 : Ev1 a s d1 t1 s1) (h2 : Ev1 b s1 d2 t2 s2) (h : binD op d1 d2 = some (d, fr)) : Ev1 (.bin op a b) s d (tagB fr) s2 := by
  rw [Ev1, evalE, h1]
  show (evalE b s1 >>= _) = _
  rw [h2]
  show (binD op d1 d2 >>= _) = _
  rw [h]; rfl
theorem ev_bin {op : Operator} (h1 : Ev1 a s d1 t1 s1) (h2 : Ev1 b s1 d2 t2 s2) (h : binD op d1 d2 = some (d, false)) : Ev1 (.bin op a b) s d .fz s2 := ev_binG h1 h2 h
theorem ev_binL {op : Operator} (h1 : Ev1 a s d1 t1 s1) (h2 : Ev1 b s1 d2 t2 s2) (h : binD op d1 d2 = some (d, true)) : Ev1 (.bin op a b) s d .fresh s2 := ev_binG h1 h2 h
theorem bin_add {x y : Int} : binD .Add (.int x) (.int y) = some (.int (x + y), false) := rfl
theorem bin_sub {x y : Int} : binD .Sub (.int x) (.int y) = some (.int (x - y), false) := rfl
theorem bin_mul {x y : Int} (h : (-(2 ^ 64) < x ∧ x < 2 ^ 64) ∨ (-(2 ^ 64) < y ∧ y < 2 ^ 64)) : binD .Mult (.int x) (.int y) = some (.int (x * y), false) := if_pos h
theorem bin_mod {x y : Int} (h : 0 < y) : binD .Mod (.int x) (.int y) = some (.int (x % y), false) := if_pos h
theorem bin_div {x y : Int} (h : 0 < y ∧ y < 1073741824) : binD .FloorDiv (.int x) (.int y) = some (.int (x / y), false) := if_pos h
theorem bin_pow {x y : Int} (h : 0 ≤ y ∧ y ≤ 1000000 ∧ x.natAbs < 2 ^ 64) : binD .Pow (.int x) (.int y) = some (.int (x ^ y.toNat), false) := if_pos h
theorem bin_lst {x y : List D} (h : x.length + y.length ≤ sizeLine) : binD .Add (.list x) (.list y) = some (.list (x ++ y), true) := if_pos h
theorem bin_tup {x y : List D} (h : x.length + y.length ≤ sizeLine) : binD .Add (.tuple x) (.tuple y) = some (.tuple (x ++ y), false) := if_pos h
theorem ev_cmp {op : CmpOp} {k : Bool} (h1 : Ev1 a s d1 t1 s1) (h2 : Ev1 b s1 d2 t2 s2) (h : cmpD op d1 d2 = some k) : Ev1 (.cmp op a b) s (.bool k) .fz s2 := by
  rw [Ev1, evalE, h1]
  show (evalE b s1 >>= _) = _
  rw [h2]
  show (cmpD op d1 d2 >>= _) = _
  rw [h]; rfl
theorem cmp_lt {x y : Int} : cmpD .Lt (.int x) (.int y) = some (decide (x < y)) := rfl
theorem cmp_le {x y : Int} : cmpD .LtE (.int x) (.int y) = some (decide (x ≤ y)) := rfl
theorem cmp_gt {x y : Int} : cmpD .Gt (.int x) (.int y) = some (decide (y < x)) := rfl
theorem cmp_ge {x y : Int} : cmpD .GtE (.int x) (.int y) = some (decide (y ≤ x)) := rfl
theorem cmp_eqI {x y : Int} : cmpD .Eq (.int x) (.int y) = some (decide (x = y)) := by
  show (if okEq (.int x) (.int y) = true then some (PyData.eqv (.int x) (.int y)) else none) = _
  rw [if_pos (show okEq (.int x) (.int y) = true from rfl), ← Bool.beq_eq_decide_eq]; rfl
theorem cmp_neI {x y : Int} : cmpD .NotEq (.int x) (.int y) = some (!decide (x = y)) := by
  show (if okEq (.int x) (.int y) = true then some (!PyData.eqv (.int x) (.int y)) else none) = _
  rw [if_pos (show okEq (.int x) (.int y) = true from rfl), ← Bool.beq_eq_decide_eq]; rfl
theorem evb_of {k : Bool} (h : Ev1 e s (.bool k) t s1) : EvB e s k s1 := by rw [EvB, h]; rfl
theorem ev_ixG (h1 : Ev1 a s d1 t1 s1) (h2 : Ev1 b s1 d2 t2 s2) (h : ixD d1 d2 = some d) : Ev1 (.ix a b) s d .fz s2 := by
  rw [Ev1, evalE, h1]
  show (evalE b s1 >>= _) = _
  rw [h2]
  show (ixD d1 d2 >>= _) = _
  rw [h]; rfl
theorem evs_nil : EvS .nil s [] s := by rw [EvS, evalEs]
theorem evs_cons {xs : List (D × Tg)} (h1 : Ev1 e s d t s1) (h2 : EvS es s1 xs s2) : EvS (.cons e es) s ((d, t) :: xs) s2 := by
  rw [EvS, evalEs, h1]
  show (evalEs es s1 >>= _) = _
  rw [h2]; rfl
theorem ev_bltG {f : Bf} {xs : List (D × Tg)} (h1 : EvS es s xs s1) (h : bltD f (xs.map (·.1)) = some (d, fr)) : Ev1 (.blt f es) s d (tagB fr) s1 := by
  rw [Ev1, evalE, h1]
  show (bltD f (xs.map (·.1)) >>= _) = _
  rw [h]; rfl
theorem ev_int1 {x : Int} (h1 : Ev1 a s (.int x) t1 s1) : Ev1 (.blt .int (.cons a .nil)) s (.int x) .fz s1 := ev_bltG (fr := false) (evs_cons h1 evs_nil) rfl
theorem ev_lenL {x : List D} (h1 : Ev1 a s (.list x) t1 s1) : Ev1 (.blt .len (.cons a .nil)) s (.int x.length) .fz s1 := ev_bltG (fr := false) (evs_cons h1 evs_nil) rfl
theorem ev_tup {xs : List (D × Tg)} (h1 : EvS es s xs s1) : Ev1 (.tup es) s (.tuple (xs.map (·.1))) .fz (s1.keeps (xs.map (·.2))) := by
  rw [Ev1, evalE, h1]; rfl
theorem ev_lst {xs : List (D × Tg)} (h1 : EvS es s xs s1) : Ev1 (.lst es) s (.list (xs.map (·.1))) .fresh (s1.keeps (xs.map (·.2))) := by
  rw [Ev1, evalE, h1]; rfl
theorem ev_pix {q : Pn} (h : isPen (rd s i) = true) (hp : s.pn = some q) (hd : pixD j q = some d) : Ev1 (.pix i j) s d .fz s := by
  rw [Ev1, evalE, if_pos h, hp]
  show ((pixD j q).map _) = _
  rw [hd]; rfl
theorem ev_callS {x : Str} {F : Fn} {xs : List (D × Tg)} {pn : Option Pn} (h1 : EvS es s xs s1) (h : F (xs.map (·.1)) s1.pn = some ((d, fr), pn)) (z : scal d = true) : Ev1 (.call x F es) s d .fz { s1 with pn := pn } := by
  rw [Ev1, evalE, h1]
  show (F (xs.map (·.1)) s1.pn >>= _) = _
  rw [h]
  show (if scal d = true then _ else _) = _
  rw [if_pos z]
theorem ev_call {x : Str} {F : Fn} {xs : List (D × Tg)} {pn : Option Pn} (h1 : EvS es s xs s1) (h : F (xs.map (·.1)) s1.pn = some ((d, fr), pn)) (z : scal d = false) : Ev1 (.call x F es) s d (tagB fr) { (s1.keeps (xs.map (·.2))) with pn := pn } := by
  rw [Ev1, evalE, h1]
  show (F (xs.map (·.1)) s1.pn >>= _) = _
  rw [h]
  show (if scal d = true then _ else _) = _
  rw [if_neg (by rw [z]; decide)]; rfl
theorem st_set (h1 : Ev1 e s d t s1) (h : decide (i < s1.sl.length) = true) : St1 (.set i e) s .nx ((s1.keep t).put i (d, t.own)) := by
  rw [St1, evalS, h1]
  show (if i < s1.sl.length then _ else _) = _
  rw [if_pos (of_decide_eq_true h)]
theorem st_ret (h1 : Ev1 e s d .fz s1) : St1 (.ret e) s (.ret d false) s1 := by
  rw [St1, evalS, h1]; rfl
theorem st_retL (h1 : Ev1 e s d .fresh s1) : St1 (.ret e) s (.ret d true) s1 := by
  rw [St1, evalS, h1]; rfl
theorem st_ite {x y : ISs} {k : Bool} {f : Fl} (h1 : EvB c s k s1) (ht : k = true → Sts x s1 f s2) (hf : k = false → Sts y s1 f s2) : St1 (.ite c x y) s f s2 := by
  rw [St1, evalS, h1]
  cases k with
  | true => exact ht rfl
  | false => exact hf rfl
theorem st_iteT {x y : ISs} {f : Fl} (h1 : EvB c s true s1) (ht : Sts x s1 f s2) : St1 (.ite c x y) s f s2 := st_ite h1 (fun _ => ht) (fun z => by cases z)
theorem st_iteF {x y : ISs} {f : Fl} (h1 : EvB c s false s1) (hf : Sts y s1 f s2) : St1 (.ite c x y) s f s2 := st_ite h1 (fun z => by cases z) (fun _ => hf)
theorem st_pset {m : Int} {q q2 : Pn} (h1 : Ev1 e s (.int m) t s1) (h : isPen (rd s i) = true) (hp : s1.pn = some q) (hq : penSet j m q = some q2) : St1 (.pset i j e) s .nx { s1 with pn := some q2 } := by
  rw [St1, evalS, h1, h]
  show (s1.pn.bind (penSet j m)).map _ = _
  rw [hp]
  show (penSet j m q).map _ = _
  rw [hq]; rfl
theorem ss_nil : Sts .nil s .nx s := by rw [Sts, evalSs]
theorem ss_cons {x : IS} {xs : ISs} {f : Fl} (h1 : St1 x s .nx s1) (h2 : Sts xs s1 f s2) : Sts (.cons x xs) s f s2 := by
  rw [Sts, evalSs, h1]; exact h2
theorem ss_end {x : IS} {xs : ISs} (h1 : St1 x s (.ret d fr) s1) : Sts (.cons x xs) s (.ret d fr) s1 := by
  rw [Sts, evalSs, h1]; rfl
theorem run_of {m : Nat} {ir : ISs} {ds : List D} {pn : Option Pn} (h : Sts ir (start m ds pn) (.ret d fr) s1) : runF m ir ds pn = some ((d, fr), s1.pn) := by
  unfold runF
  rw [h]; rfl
end
theorem anew_ok (p : Pn) : runF 1 ir_anew [.dict []] (some p) = FAnew [.dict []] (some p) :=
  run_of (ss_cons (st_pset ev_int rfl rfl rfl) (ss_end (st_ret (ev_var rfl))))
theorem sizeL : sizeLine = 16777216 := PySem.sizeLine_eq
def spS (c a : Int) (x3 x4 x5 x6 x7 : Option (D × Bool)) (pn : Option Pn) : S := ⟨[some (.int c, false), some (.int a, false), some (.list primD, true), x3, x4, x5, x6, x7], pn⟩
theorem spread_ok (c a : Int) (h0 : 0 ≤ a) (h1 : a < 1073741824) (pn : Option Pn) : runF 8 ir_spread [.int c, .int a] pn = some ((.int (spreadF c a), false), pn) := by
  have hp18 : Ev1 (.bin .Pow (.int 10) (.int 18)) (start 8 [.int c, .int a] pn) (.int (10 ^ 18)) .fz (start 8 [.int c, .int a] pn) := ev_bin ev_int ev_int (bin_pow (by decide))
  unfold spreadF
  by_cases hc : 10 ^ 18 ≤ c
  · rw [if_pos hc]
    refine run_of (ss_end (st_iteT (evb_of (ev_cmp (ev_var rfl) hp18 ?_)) (ss_end (st_ret (ev_var rfl)))))
    rw [cmp_ge, decide_eq_true hc]
  · rw [if_neg hc]
    have e0 : cmpD .GtE (.int c) (.int (10 ^ 18)) = some false := by rw [cmp_ge, decide_eq_false hc]
    have p1 := prim_pos (i := a % 13) (by omega) (by omega)
    have p2 := prim_pos (i := (a + 5) % 13) (by omega) (by omega)
    have p3 := prim_pos (i := (a + 7) % 13) (by omega) (by omega)
    have q1 : ixD (.list primD) (.int (a % 13)) = some (.int (prim (a % 13))) := prim_at (by omega) (by omega)
    have q2 : ixD (.list primD) (.int ((a + 5) % 13)) = some (.int (prim ((a + 5) % 13))) := prim_at (by omega) (by omega)
    have q3 : ixD (.list primD) (.int ((a + 7) % 13)) = some (.int (prim ((a + 7) % 13))) := prim_at (by omega) (by omega)
    have m1 : 0 ≤ c % 1000000007 * (2 * a + 69069) ∧ c % 1000000007 * (2 * a + 69069) ≤ 1000000007 * 2147552717 :=
      ⟨Int.mul_nonneg (by omega) (by omega), Int.mul_le_mul (by omega) (by omega) (by omega) (by omega)⟩
    generalize hx : c % 1000000007 * (2 * a + 69069) + a * 40503 + 977 = x
    have bx : 0 ≤ x ∧ x < 2 ^ 63 := by omega
    generalize hu : x ^ 3 % prim (a % 13) = u
    have bu : 0 ≤ u ∧ u < 2147483648 := by
      have z1 := Int.emod_nonneg (x ^ 3) (show prim (a % 13) ≠ 0 by omega)
      have z2 := Int.emod_lt_of_pos (x ^ 3) p1.1
      omega
    have m2 : 0 ≤ u * (a + 3) ∧ u * (a + 3) ≤ 2147483648 * 1073741827 :=
      ⟨Int.mul_nonneg (by omega) (by omega), Int.mul_le_mul (by omega) (by omega) (by omega) (by omega)⟩
    generalize hv : (u * (a + 3) + (c % 65537 + 5)) ^ 5 % prim ((a + 5) % 13) = v
    have bv : 0 ≤ v ∧ v < 2147483648 := by
      have z1 := Int.emod_nonneg ((u * (a + 3) + (c % 65537 + 5)) ^ 5) (show prim ((a + 5) % 13) ≠ 0 by omega)
      have z2 := Int.emod_lt_of_pos ((u * (a + 3) + (c % 65537 + 5)) ^ 5) p2.1
      omega
    have s1 : Sts ir_spread (start 8 [.int c, .int a] pn) (.ret (.int ((u * 2147483647 + v) * 2147483647 + (v + u % 1009 + a) ^ 3 % prim ((a + 7) % 13))) false)
        (spS c a (some (.int x, false)) (some (.int u, false)) (some (.int (c % 65537 + 5), false)) (some (.int v, false)) (some (.int ((v + u % 1009 + a) ^ 3 % prim ((a + 7) % 13)), false)) pn) := by
      refine ss_cons (s1 := start 8 [.int c, .int a] pn) (st_iteF (evb_of (ev_cmp (ev_var rfl) hp18 e0)) ss_nil) ?_
      refine ss_cons (s1 := ⟨[some (.int c, false), some (.int a, false), some (.list (primD.take 7), true), none, none, none, none, none], pn⟩) ?_ ?_
      · refine st_set (ev_lst (s1 := start 8 [.int c, .int a] pn) (xs := (primD.take 7).map fun d => (d, .fz)) ?_) rfl
        repeat' (first | exact ev_int | exact ev_bool | exact ev_non | exact ev_str | exact evs_nil | exact ev_var rfl | exact ev_own rfl | exact bin_add | exact bin_sub | refine' evs_cons ?_ ?_ | refine' ev_int1 ?_ | refine' ev_bin ?_ ?_ ?_ | refine' ev_ixG ?_ ?_ ?_ | refine' bin_mul ?_ | refine' bin_mod ?_ | refine' bin_div ?_ | refine' bin_pow ?_)
      refine ss_cons (s1 := spS c a none none none none none pn) ?_ ?_
      · refine st_set (d := .list primD) (t := .fresh) (s1 := ⟨[some (.int c, false), some (.int a, false), some (.list (primD.take 7), true), none, none, none, none, none], pn⟩) (ev_binL (d2 := .list (primD.drop 7)) (ev_own rfl) (ev_lst (s1 := ⟨[some (.int c, false), some (.int a, false), some (.list (primD.take 7), true), none, none, none, none, none], pn⟩) (xs := (primD.drop 7).map fun d => (d, .fz)) ?_) (bin_lst (by decide))) rfl
        repeat' (first | exact ev_int | exact ev_bool | exact ev_non | exact ev_str | exact evs_nil | exact ev_var rfl | exact ev_own rfl | exact bin_add | exact bin_sub | refine' evs_cons ?_ ?_ | refine' ev_int1 ?_ | refine' ev_bin ?_ ?_ ?_ | refine' ev_ixG ?_ ?_ ?_ | refine' bin_mul ?_ | refine' bin_mod ?_ | refine' bin_div ?_ | refine' bin_pow ?_)
      refine ss_cons (s1 := spS c a (some (.int x, false)) none none none none pn) ?_ ?_
      · refine st_set (d := .int x) (t := .fz) (s1 := spS c a none none none none none pn) ?_ rfl
        rw [← hx]
        repeat' (first | exact ev_int | exact ev_bool | exact ev_non | exact ev_str | exact evs_nil | exact ev_var rfl | exact ev_own rfl | exact bin_add | exact bin_sub | refine' evs_cons ?_ ?_ | refine' ev_int1 ?_ | refine' ev_bin ?_ ?_ ?_ | refine' ev_ixG ?_ ?_ ?_ | refine' bin_mul ?_ | refine' bin_mod ?_ | refine' bin_div ?_ | refine' bin_pow ?_)
        all_goals omega
      refine ss_cons (s1 := spS c a (some (.int x, false)) (some (.int u, false)) none none none pn) ?_ ?_
      · refine st_set (d := .int u) (t := .fz) (s1 := spS c a (some (.int x, false)) none none none none pn) ?_ rfl
        rw [← hu]
        repeat' (first | exact ev_int | exact ev_bool | exact ev_non | exact ev_str | exact evs_nil | exact ev_var rfl | exact ev_own rfl | exact bin_add | exact bin_sub | refine' evs_cons ?_ ?_ | refine' ev_int1 ?_ | refine' ev_bin ?_ ?_ ?_ | refine' ev_ixG ?_ ?_ ?_ | refine' bin_mul ?_ | refine' bin_mod ?_ | refine' bin_div ?_ | refine' bin_pow ?_)
        all_goals first | exact q1 | omega
      refine ss_cons (s1 := spS c a (some (.int x, false)) (some (.int u, false)) (some (.int (c % 65537 + 5), false)) none none pn) ?_ ?_
      · refine st_set (d := .int (c % 65537 + 5)) (t := .fz) (s1 := spS c a (some (.int x, false)) (some (.int u, false)) none none none pn) ?_ rfl
        repeat' (first | exact ev_int | exact ev_bool | exact ev_non | exact ev_str | exact evs_nil | exact ev_var rfl | exact ev_own rfl | exact bin_add | exact bin_sub | refine' evs_cons ?_ ?_ | refine' ev_int1 ?_ | refine' ev_bin ?_ ?_ ?_ | refine' ev_ixG ?_ ?_ ?_ | refine' bin_mul ?_ | refine' bin_mod ?_ | refine' bin_div ?_ | refine' bin_pow ?_)
        all_goals omega
      refine ss_cons (s1 := spS c a (some (.int x, false)) (some (.int u, false)) (some (.int (c % 65537 + 5), false)) (some (.int v, false)) none pn) ?_ ?_
      · refine st_set (d := .int v) (t := .fz) (s1 := spS c a (some (.int x, false)) (some (.int u, false)) (some (.int (c % 65537 + 5), false)) none none pn) ?_ rfl
        rw [← hv]
        repeat' (first | exact ev_int | exact ev_bool | exact ev_non | exact ev_str | exact evs_nil | exact ev_var rfl | exact ev_own rfl | exact bin_add | exact bin_sub | refine' evs_cons ?_ ?_ | refine' ev_int1 ?_ | refine' ev_bin ?_ ?_ ?_ | refine' ev_ixG ?_ ?_ ?_ | refine' bin_mul ?_ | refine' bin_mod ?_ | refine' bin_div ?_ | refine' bin_pow ?_)
        all_goals first | exact q2 | omega
      refine ss_cons (s1 := spS c a (some (.int x, false)) (some (.int u, false)) (some (.int (c % 65537 + 5), false)) (some (.int v, false)) (some (.int ((v + u % 1009 + a) ^ 3 % prim ((a + 7) % 13)), false)) pn) ?_ ?_
      · refine st_set (d := .int ((v + u % 1009 + a) ^ 3 % prim ((a + 7) % 13))) (t := .fz) (s1 := spS c a (some (.int x, false)) (some (.int u, false)) (some (.int (c % 65537 + 5), false)) (some (.int v, false)) none pn) ?_ rfl
        repeat' (first | exact ev_int | exact ev_bool | exact ev_non | exact ev_str | exact evs_nil | exact ev_var rfl | exact ev_own rfl | exact bin_add | exact bin_sub | refine' evs_cons ?_ ?_ | refine' ev_int1 ?_ | refine' ev_bin ?_ ?_ ?_ | refine' ev_ixG ?_ ?_ ?_ | refine' bin_mul ?_ | refine' bin_mod ?_ | refine' bin_div ?_ | refine' bin_pow ?_)
        all_goals first | exact q3 | omega
      refine ss_end (st_ret ?_)
      repeat' (first | exact ev_int | exact ev_bool | exact ev_non | exact ev_str | exact evs_nil | exact ev_var rfl | exact ev_own rfl | exact bin_add | exact bin_sub | refine' evs_cons ?_ ?_ | refine' ev_int1 ?_ | refine' ev_bin ?_ ?_ ?_ | refine' ev_ixG ?_ ?_ ?_ | refine' bin_mul ?_ | refine' bin_mod ?_ | refine' bin_div ?_ | refine' bin_pow ?_)
      all_goals omega
    subst hv
    exact run_of s1
end Fs

set_option Elab.async false
set_option linter.all false
set_option maxRecDepth 100000
set_option maxHeartbeats 8000000
namespace Fs
open PySem L2
theorem ix_cells {cells : List Int} {i : Int} (h0 : 0 ≤ i) (h1 : i < cells.length) : ixD (.list (cells.map .int)) (.int i) = some (.int (cells.getD i.toNat 0)) := by
  have hl : i.toNat < cells.length := by omega
  have e : (cells.map PyData.int)[i.toNat]? = some (.int (cells.getD i.toNat 0)) := by
    rw [List.getElem?_map, List.getElem?_eq_getElem hl, List.getD_eq_getElem?_getD, List.getElem?_eq_getElem hl]; rfl
  have q := L2.atI_nat e
  have e2 : ((i.toNat : Nat) : Int) = i := by omega
  rw [e2] at q
  exact q
def tkS (n : Int) (x2 x3 x4 : Option (D × Bool)) (p : Pn) : S := ⟨[some (.dict [], false), some (.int n, false), x2, x3, x4], some p⟩
theorem tail_ok {n : Int} {x2 x3 : Option (D × Bool)} {q : Pn} (h0 : 0 < n) (h1 : n < 1073741824) :
    Sts (.cons (.set 4 (.bin .Mod (.blt .int (.cons (.pix 0 2) .nil)) (.var 1))) (.cons (.pset 0 2 (.bin .FloorDiv (.pix 0 2) (.var 1))) (.cons (.ret (.var 4)) .nil))) (tkS n x2 x3 none q) (.ret (.int (q.r % n)) false) (tkS n x2 x3 (some (.int (q.r % n), false)) ⟨q.cells, q.a, q.r / n⟩) := by
  refine ss_cons (s1 := tkS n x2 x3 (some (.int (q.r % n), false)) q) ?_ (ss_cons (s1 := tkS n x2 x3 (some (.int (q.r % n), false)) ⟨q.cells, q.a, q.r / n⟩) ?_ (ss_end (st_ret (ev_var rfl))))
  · refine st_set (d := .int (q.r % n)) (t := .fz) (s1 := tkS n x2 x3 none q) ?_ rfl
    repeat' (first | exact ev_int | exact ev_bool | exact ev_non | exact ev_str | exact evs_nil | exact ev_var rfl | exact ev_own rfl | exact ev_pix rfl rfl rfl | exact bin_add | exact bin_sub | refine' evs_cons ?_ ?_ | refine' ev_int1 ?_ | refine' ev_lenL ?_ | refine' ev_bin ?_ ?_ ?_ | refine' ev_ixG ?_ ?_ ?_ | refine' bin_mul ?_ | refine' bin_mod ?_ | refine' bin_div ?_ | refine' bin_pow ?_)
    all_goals omega
  · refine st_pset (m := q.r / n) (t := .fz) (s1 := tkS n x2 x3 (some (.int (q.r % n), false)) q) (q := q) ?_ rfl rfl rfl
    repeat' (first | exact ev_int | exact ev_bool | exact ev_non | exact ev_str | exact evs_nil | exact ev_var rfl | exact ev_own rfl | exact ev_pix rfl rfl rfl | exact bin_add | exact bin_sub | refine' evs_cons ?_ ?_ | refine' ev_int1 ?_ | refine' ev_lenL ?_ | refine' ev_bin ?_ ?_ ?_ | refine' ev_ixG ?_ ?_ ?_ | refine' bin_mul ?_ | refine' bin_mod ?_ | refine' bin_div ?_ | refine' bin_pow ?_)
    all_goals omega
theorem take_ok {n : Int} {p : Pn} {r : Int × Pn} (h : takeF n p = some r) : runF 5 ir_take [.dict [], .int n] (some p) = some ((.int r.1, false), some r.2) := by
  unfold takeF at h
  split at h
  case isFalse => cases h
  rename_i hh
  obtain ⟨h0, h1, h2, h3⟩ := hh
  by_cases hr : p.r < n
  · rw [if_pos hr] at h
    cases h
    have pre : ∀ {x : Int}, cellF p = x → St1 (.ite (.cmp .Lt (.var 2) (.blt .len (.cons (.pix 0 0) .nil))) (.cons (.set 3 (.ix (.pix 0 0) (.var 2))) .nil)
        (.cons (.ite (.cmp .Gt (.blt .len (.cons (.pix 0 0) .nil)) (.int 0)) (.cons (.set 3 (.bin .Mod (.blt .int (.cons (.ix (.pix 0 0) (.bin .Mod (.blt .int (.cons (.bin .Add (.bin .Mult (.var 2) (.int 5)) (.int 3)) .nil)) (.blt .len (.cons (.pix 0 0) .nil)))) .nil)) (.bin .Add (.bin .Pow (.int 10) (.int 17)) (.var 2)))) .nil) .nil) .nil))
        (tkS n (some (.int p.a, false)) (some (.int 0, false)) none p) .nx (tkS n (some (.int p.a, false)) (some (.int x, false)) none p) := by
      intro x hx
      unfold cellF at hx
      have el : ((p.cells.map PyData.int).length : Int) = (p.cells.length : Int) := by rw [List.length_map]
      by_cases ha : p.a < p.cells.length
      · rw [if_pos ha] at hx
        refine (st_iteT (s1 := tkS n (some (.int p.a, false)) (some (.int 0, false)) none p) (evb_of (ev_cmp (k := true) (ev_var rfl) (ev_lenL (ev_pix rfl rfl rfl)) ?_)) (ss_cons (s1 := tkS n (some (.int p.a, false)) (some (.int x, false)) none p) ?_ ss_nil))
        · rw [cmp_lt, el, decide_eq_true ha]
        · refine st_set (d := .int x) (t := .fz) (s1 := tkS n (some (.int p.a, false)) (some (.int 0, false)) none p) ?_ rfl
          rw [← hx]
          exact ev_ixG (ev_pix rfl rfl rfl) (ev_var rfl) (ix_cells h2 ha)
      · rw [if_neg ha] at hx
        refine (st_iteF (s1 := tkS n (some (.int p.a, false)) (some (.int 0, false)) none p) (evb_of (ev_cmp (k := false) (ev_var rfl) (ev_lenL (ev_pix rfl rfl rfl)) ?_)) (ss_cons (s1 := tkS n (some (.int p.a, false)) (some (.int x, false)) none p) ?_ ss_nil))
        · rw [cmp_lt, el, decide_eq_false ha]
        · by_cases hz : 0 < p.cells.length
          · rw [if_pos hz] at hx
            refine st_iteT (s1 := tkS n (some (.int p.a, false)) (some (.int 0, false)) none p) (evb_of (ev_cmp (k := true) (ev_lenL (ev_pix rfl rfl rfl)) ev_int ?_)) (ss_cons (s1 := tkS n (some (.int p.a, false)) (some (.int x, false)) none p) ?_ ss_nil)
            · rw [cmp_gt, el, decide_eq_true (by omega)]
            · refine st_set (d := .int x) (t := .fz) (s1 := tkS n (some (.int p.a, false)) (some (.int 0, false)) none p) ?_ rfl
              rw [← hx]
              have z1 := Int.emod_nonneg (p.a * 5 + 3) (show (p.cells.length : Int) ≠ 0 by omega)
              have z2 := Int.emod_lt_of_pos (p.a * 5 + 3) (show (0 : Int) < (p.cells.length : Int) by omega)
              have e0 : Ev1 (.blt .len (.cons (.pix 0 0) .nil)) (tkS n (some (.int p.a, false)) (some (.int 0, false)) none p) (.int (p.cells.length : Int)) .fz (tkS n (some (.int p.a, false)) (some (.int 0, false)) none p) := by
                rw [← el]; exact ev_lenL (ev_pix rfl rfl rfl)
              have e1 : Ev1 (.bin .Add (.bin .Mult (.var 2) (.int 5)) (.int 3)) (tkS n (some (.int p.a, false)) (some (.int 0, false)) none p) (.int (p.a * 5 + 3)) .fz (tkS n (some (.int p.a, false)) (some (.int 0, false)) none p) :=
                ev_bin (ev_bin (ev_var rfl) ev_int (bin_mul (by omega))) ev_int bin_add
              have e2 : Ev1 (.bin .Add (.bin .Pow (.int 10) (.int 17)) (.var 2)) (tkS n (some (.int p.a, false)) (some (.int 0, false)) none p) (.int (10 ^ 17 + p.a)) .fz (tkS n (some (.int p.a, false)) (some (.int 0, false)) none p) :=
                ev_bin (ev_bin ev_int ev_int (bin_pow (by decide))) (ev_var rfl) bin_add
              exact ev_bin (ev_int1 (ev_ixG (ev_pix rfl rfl rfl) (ev_bin (ev_int1 e1) e0 (bin_mod (by omega))) (ix_cells z1 z2))) e2 (bin_mod (by omega))
          · rw [if_neg hz] at hx
            subst hx
            refine st_iteF (s1 := tkS n (some (.int p.a, false)) (some (.int 0, false)) none p) (evb_of (ev_cmp (k := false) (ev_lenL (ev_pix rfl rfl rfl)) ev_int ?_)) ss_nil
            rw [cmp_gt, el, decide_eq_false (by omega)]
    refine Eq.trans (run_of (d := .int (spreadF (cellF p) p.a % n)) (fr := false) (s1 := tkS n (some (.int p.a, false)) (some (.int (cellF p), false)) (some (.int (spreadF (cellF p) p.a % n), false)) ⟨p.cells, p.a + 1, spreadF (cellF p) p.a / n⟩)
      (ss_cons (s1 := tkS n (some (.int p.a, false)) (some (.int (cellF p), false)) none ⟨p.cells, p.a + 1, spreadF (cellF p) p.a⟩) (st_iteT (s1 := tkS n none none none p) (evb_of (ev_cmp (k := true) (ev_pix rfl rfl rfl) (ev_var rfl) ?_)) ?_) (tail_ok h0 h1))) rfl
    · rw [cmp_lt, decide_eq_true hr]
    · refine ss_cons (s1 := tkS n (some (.int p.a, false)) none none p) (st_set (d := .int p.a) (t := .fz) (s1 := tkS n none none none p) (ev_pix rfl rfl rfl) rfl) ?_
      refine ss_cons (s1 := tkS n (some (.int p.a, false)) (some (.int 0, false)) none p) (st_set (d := .int 0) (t := .fz) (s1 := tkS n (some (.int p.a, false)) none none p) ev_int rfl) ?_
      refine ss_cons (s1 := tkS n (some (.int p.a, false)) (some (.int (cellF p), false)) none p) (pre rfl) ?_
      refine ss_cons (s1 := tkS n (some (.int p.a, false)) (some (.int (cellF p), false)) none ⟨p.cells, p.a + 1, p.r⟩) (st_pset (m := p.a + 1) (t := .fz) (s1 := tkS n (some (.int p.a, false)) (some (.int (cellF p), false)) none p) (q := p) (ev_bin (ev_var rfl) ev_int bin_add) rfl rfl rfl) ?_
      refine ss_cons (s1 := tkS n (some (.int p.a, false)) (some (.int (cellF p), false)) none ⟨p.cells, p.a + 1, spreadF (cellF p) p.a⟩) ?_ ss_nil
      exact st_pset (m := spreadF (cellF p) p.a) (t := .fz) (s1 := tkS n (some (.int p.a, false)) (some (.int (cellF p), false)) none ⟨p.cells, p.a + 1, p.r⟩) (q := ⟨p.cells, p.a + 1, p.r⟩)
        (ev_callS (evs_cons (ev_var rfl) (evs_cons (ev_var rfl) evs_nil)) (spread_ok (cellF p) p.a h2 h3 (some ⟨p.cells, p.a + 1, p.r⟩)) rfl) rfl rfl rfl
  · rw [if_neg hr] at h
    cases h
    refine run_of (s1 := tkS n none none (some (.int (p.r % n), false)) ⟨p.cells, p.a, p.r / n⟩) (ss_cons (s1 := tkS n none none none p) (st_iteF (s1 := tkS n none none none p) (evb_of (ev_cmp (k := false) (ev_pix rfl rfl rfl) (ev_var rfl) ?_)) ss_nil) (tail_ok h0 h1))
    rw [cmp_lt, decide_eq_false hr]
end Fs

set_option Elab.async false
set_option linter.all false
set_option maxRecDepth 100000
set_option maxHeartbeats 8000000
namespace Fs
open PySem L2
theorem spF_imp {F F' : Fn} {n : Nat} (h : ∀ ds p r, F ds p = some r → F' ds p = some r) {vs : List V} {H : Hp} {Q : VK} (q : spF F n vs H Q) : spF F' n vs H Q := by
  obtain ⟨pa, G, ds, p, d, fr, p1, h1, h2, h3, h4, h5, h6⟩ := q
  exact ⟨pa, G, ds, p, d, fr, p1, h1, h2, h3, h4, h _ _ _ h5, h6⟩
theorem FTake_run : ∀ ds p r, FTake ds p = some r → runF 5 ir_take ds p = some r := by
  intro ds p r h
  unfold FTake at h
  split at h
  · obtain ⟨x, h1, h2⟩ := Option.map_eq_some_iff.mp h
    cases h2
    exact take_ok h1
  · cases h
theorem FAnew_run : ∀ ds p r, FAnew ds p = some r → runF 1 ir_anew ds p = some r := by
  intro ds p r h
  unfold FAnew at h
  split at h
  · rw [anew_ok]; exact h
  · cases h
theorem takeF_in {n : Int} {p : Pn} {r : Int × Pn} (h : takeF n p = some r) : 0 ≤ r.1 ∧ r.1 < n := by
  unfold takeF at h
  split at h
  · rename_i hh
    cases h
    exact ⟨Int.emod_nonneg _ (by omega), Int.emod_lt_of_pos _ hh.1⟩
  · cases h
theorem one_out {x y : D} {p : Option Pn} {d : D} {p1 : Option Pn} (h : oneF x y p = some (d, p1)) : ∃ q ys r, x = .dict [] ∧ p = some q ∧ itemsD y = some ys ∧ takeF ys.length q = some r ∧ ys[r.1.toNat]? = some d ∧ p1 = some r.2 := by
  unfold oneF at h
  split at h
  · obtain ⟨ys, h1, h⟩ := Option.bind_eq_some_iff.mp h
    obtain ⟨r, h2, h⟩ := Option.bind_eq_some_iff.mp h
    obtain ⟨d', h3, h⟩ := Option.map_eq_some_iff.mp h
    cases h
    exact ⟨_, ys, r, rfl, rfl, h1, h2, h3, rfl⟩
  · cases h
abbrev nOne (y : Str) : List Str := ["_law_pen", y]
theorem gfn_one {yn : Str} {W : Wd} {k : Nat} {f : Addr} {name qual : Str} {params : Arguments} {body : List Stmt} {scope : Scope} {dV kV doc pm cdv ct oc : Value} {an od : Option Addr} {osl : Array (Option Value)} (E : Em)
    (lk : W.K.lookup f = some ⟨oc, od, .func (PySem.W.fnOf name qual params body scope dV kV doc pm an cdv ct), osl⟩)
    (hcd : PySem.W.codeIn W.K cdv qual = true) (sc : FnScope (nOne yn) (nOne yn) scope) (bl : ∀ x, x ∈ bnames → W.mg x = none)
    (he : (emSs (nOne yn) ir_one E).1 = body) (ok : okSs (nOne yn) scope ir_one E = true) (tk : Call1 W k "_law_take" 2 (spF FTake 2)) :
    GFn W (k + 1) f (PySem.W.fnOf name qual params body scope dV kV doc pm an cdv ct) (nOne yn) spOne := by
  subst he
  refine gfn_of lk hcd sc (fun vs H Q h => ?_) fun A outer s H vs Q room hgd promise => ?_
  · obtain ⟨pa, G, v, w, x, y, p, d, p1, rfl, _⟩ := h
    rfl
  · have C : Cd (gx W (nOne yn) qual scope f cdv A outer s H) (nOne yn) scope k := ⟨rfl, sc.nd, rfl, rfl, room, hgd, bl⟩
    have C' : Cd (gx W (nOne yn) qual scope f cdv A outer s H) (gx W (nOne yn) qual scope f cdv A outer s H).N scope k := C
    unfold ir_one at ok
    rw [okSs, okS, okE, okE, okE] at ok
    obtain ⟨ok, _⟩ := and1 ok
    obtain ⟨o1, ok⟩ := and1 ok
    obtain ⟨o2, ok⟩ := and1 ok
    obtain ⟨o3, _⟩ := and1 ok
    rw [okEs, okE, okEs] at o2
    obtain ⟨o4, o2⟩ := and1 o2
    obtain ⟨o2, _⟩ := and1 o2
    rw [okE] at o2
    · obtain ⟨o5, o6⟩ := and1 o2
      rw [okEs] at o5
      obtain ⟨o5, _⟩ := and1 o5
      rw [okE] at o5
      obtain ⟨ft, fdt, pst, Gt, hm, hk, hb⟩ := tk
      have pl : ∀ p1 p2 p3 : Pos, PE (gx W (nOne yn) qual scope f cdv A outer s H) (.Call (.Name "len" p1) [.Name (nm (nOne yn) 1) p2] [] p3) (tCB (rBlt .len) (tCons (tVar 1) tNil)) := fun p1 p2 p3 =>
        pe_callB b_len (gl_of C o6).1 (C.no _) PySem.boot_len (pa_cons (pv C' o5) pa_nil (by rfl)) (by decide) (gl_of C o6).2 (by rfl) (by rfl)
      have pt : ∀ p1 p2 p3 p4 p5 p6 : Pos, PE (gx W (nOne yn) qual scope f cdv A outer s H) (.Call (.Name "_law_take" p1) [.Name (nm (nOne yn) 0) p2, .Call (.Name "len" p3) [.Name (nm (nOne yn) 1) p4] [] p5] [] p6)
          (fun σ H Q => tCons (tVar 0) (tCons (tCB (rBlt .len) (tCons (tVar 1) tNil)) tNil) σ H fun vs H1 => spF FTake 2 vs H1 Q) := fun p1 p2 p3 p4 p5 p6 =>
        pe_gcall Gt C.room C.gd (gl_of C o3).1 hm hk hb (pa_cons (pv C' o4) (pa_cons (pl _ _ _) pa_nil (by rfl)) (by rfl)) (gl_of C o3).2 (by rfl) (by rfl)
      refine ⟨_, pss_cons (ps_ret (pe_ix ix_D (pv C' o1) (pt _ _ _ _ _ _) (fun _ _ => rfl))) pss_nil, ?_⟩
      obtain ⟨pa, G, v, w, x, y, p, d, p1, rfl, gh, hp, rx, ry, np, ho, kk⟩ := promise
      obtain ⟨q, ys, r, rfl, rfl, hi, ht, hd, rfl⟩ := one_out ho
      have hl : bltD .len [y] = some (.int ys.length, false) := by
        cases y <;> first | (cases hi; rfl) | cases hi
      refine ⟨w, rfl, v, rfl, w, rfl, pa, G, [y], .int ys.length, false, gh, ⟨ry, trivial⟩, hl, fun u H1 res => ?_⟩
      obtain ⟨k1, res⟩ := res
      have hu : u = .int ys.length := by
        rcases res with ⟨_, r | ⟨_, _, _, _, e, _⟩⟩ | ⟨z, _⟩
        · cases r; rfl
        · cases e
        · cases z
      subst hu
      have hv : Rp pa G v (.dict []) := rx
      refine ⟨pa, G, [.dict [], .int ys.length], some q, .int r.1, false, some r.2, rfl, gh.trans k1, hp.heap k1, .cons hv (.cons (.int _) .nil), ?_, fun u H2 G1 kept g1 g2 nw hp2 res2 => ?_⟩
      · show (takeF ys.length q).map _ = _
        rw [ht]; rfl
      · rw [if_neg (by decide)] at res2
        have hu2 : u = .int r.1 := by cases res2; rfl
        subst hu2
        have gH2 : Sub G H2 := g1.trans g2
        have ry2 : RpT pa G H2 w y := by
          cases y with
          | list ds =>
            obtain ⟨b, xs, rfl, hb2, rb⟩ := ry.lst
            exact ⟨b, xs, rfl, kept b _ (k1 b _ hb2) (np b rfl), rb⟩
          | tuple ds => exact ry
          | _ => cases hi
        have ri := takeF_in ht
        have hix : ixD y (.int r.1) = some d := by
          have e1 := L2.atI_nat hd
          have e2 : ((r.1.toNat : Nat) : Int) = r.1 := by omega
          rw [e2] at e1
          cases y <;> first | (cases hi; exact e1) | cases hi
        refine ⟨pa, G, y, .int r.1, d, gH2, ry2, (show Rp pa G (.int r.1) (.int r.1) from .int _), hix, fun z rz => ?_⟩
        exact kk z H2 (fun a o h n => kept a o (k1 a o h) n) (hp2.back (hp.heap k1) g1) rz
    all_goals first | (intro z; cases z; done) | (intro m z; cases z; done)
end Fs

set_option Elab.async false
set_option linter.all false
set_option maxRecDepth 100000
set_option maxHeartbeats 8000000
namespace Fs
open PySem L2
theorem for_core (K : PySem.W.Frag) {pr : Bool} {tg : Tr} (hb : pr = true → tg.isT = true) {body : ISs} {J : It} {items : List D} {pa : PA} {H0 G0 G' H1 : Hp} {σ : L2.St} {s1 sE : S} {fl : Fl} {Ds : Ends} (S' : Sim pa H0 G0 G' σ H1 s1) (ok : SrF pr pa G' items J)
    (ev : fGo tg (evalSs body) items s1 = some (fl, sE)) (post : SPost pa H0 G0 G' fl sE Ds) :
    ∃ W : Nat → Nat → L2.St → Hp → Prop, (∃ m, W 0 m σ H1) ∧ ∀ i m σ H, W i m σ H →
      (J.stop i H ∧ Ds.nx σ H) ∨ (J.go i H ∧ ∃ Nn : L2.St → Hp → Prop, (∀ σ' H', Nn σ' H' → ∃ m', m' < m ∧ W (i + 1) m' σ' H') ∧ ∀ x H', J.yld i H x H' → tTr K tg x σ H' fun σ2 H2 => tF (evalSs body) { Ds with nx := Nn, ct := Nn, bk := Ds.nx } σ2 H2) := by
  obtain ⟨Gd, Y, w, hg, hy⟩ := ok
  refine for_it w (fun i σ' H' => ∃ G2 s2, Sub G' G2 ∧ Sim pa H0 G0 G2 σ' H' s2 ∧ fGo tg (evalSs body) (items.drop i) s2 = some (fl, sE)) ⟨G', s1, .refl, S', ev⟩ ?_ ?_ ?_
  · rintro i σ' H' _ ⟨G2, s2, u, S2, _⟩
    exact hg H' (u.trans S2.sub)
  · rintro i x σ' H' H'' hi ⟨G2, s2, u, S2, e⟩ y
    obtain ⟨d2, hd, res⟩ := hy i H' x H'' hi (hg H' (u.trans S2.sub)) y
    have edrop : items.drop i = d2 :: items.drop (i + 1) := by
      obtain ⟨hlt, e⟩ := List.getElem?_eq_some_iff.mp hd
      rw [List.drop_eq_getElem_cons hlt, e]
    rw [edrop, fGo] at e
    obtain ⟨sb, eb, e⟩ := obind e
    obtain ⟨⟨f, s3⟩, e2, e⟩ := obind e
    dsimp only at e
    refine item_ok K hb S2 (res.mono u) eb fun Gb σ3 Eb S3 _ _ _ _ => ⟨pa, H0, G0, Gb, sb, f, s3, S3, e2, ?_⟩
    have ub := u.trans Eb.gk
    cases f with
    | nx => exact fun σ4 H4 G4 k S4 => ⟨G4, s3, ub.trans k, S4, e⟩
    | cont => exact fun σ4 H4 G4 k S4 => ⟨G4, s3, ub.trans k, S4, e⟩
    | brk => cases e; exact fun σ4 H4 G4 k S4 => post σ4 H4 G4 (ub.trans k) S4
    | ret d fr => cases e; exact fun v σ4 H4 G4 k S4 r => post v σ4 H4 G4 (ub.trans k) S4 r
  · rintro σ' H' ⟨G2, s2, u, S2, e⟩
    rw [List.drop_length, fGo] at e
    cases e
    exact post σ' H' G2 u S2

def spOpen (K : PySem.W.Frag) : GSp := fun vs H Q => ∃ (a : Addr) (ns : List Int), vs = [.ref a] ∧ SqL K H a (ns.map V.int) ∧
  ∀ (H1 : Hp) (p c : Addr) (cells : List Int), Sub H H1 → H1 p = some (.lst [.ref c, .int 0, .int 0]) → H1 c = some (.lst (cells.map V.int)) → c ≠ p → Q (.ref p) H1
def spLaw (K : PySem.W.Frag) : GSp := fun vs H Q => ∃ (a : Addr) (ns : List Int), vs = [.ref a] ∧ SqL K H a (ns.map V.int) ∧ ∀ H', Q (.bl true) H'
def FNo : Fn := fun _ _ => none
def lawS (n : Nat) (p : Pn) : S := ⟨none :: some (.dict [], false) :: List.replicate (n - 2) none, some p⟩
theorem gfn_law {W : Wd} {k : Nat} {f : Addr} {name qual : Str} {params : Arguments} {body : List Stmt} {scope : Scope} {dV kV doc pm cdv ct oc : Value} {an od : Option Addr} {osl : Array (Option Value)} {N : List Str} {x0 : Str} (rest : ISs) (E : Em)
    (lk : W.K.lookup f = some ⟨oc, od, .func (PySem.W.fnOf name qual params body scope dV kV doc pm an cdv ct), osl⟩)
    (hcd : PySem.W.codeIn W.K cdv qual = true) (sc : FnScope N [x0] scope) (bl : ∀ x, x ∈ bnames → W.mg x = none) (h2 : 2 ≤ N.length)
    (he : (emSs N (.cons (.set 1 (.call "_law_open" FNo (.cons (.var 0) .nil))) rest) E).1 = body)
    (ok : okSs N scope (.cons (.set 1 (.call "_law_open" FNo (.cons (.var 0) .nil))) rest) E = true)
    (opn : Call1 W k "_law_open" 1 (spOpen W.K)) (ask : askSs (askOf W k) rest)
    (hlaw : ∀ cells : List Int, ∃ s1, evalSs rest (lawS N.length ⟨cells, 0, 0⟩) = some (.ret (.bool true) false, s1)) :
    GFn W (k + 1) f (PySem.W.fnOf name qual params body scope dV kV doc pm an cdv ct) [x0] (spLaw W.K) := by
  subst he
  refine gfn_of lk hcd sc (fun vs H Q h => ?_) fun A outer s H vs Q room hgd promise => ?_
  · obtain ⟨a, ns, rfl, _⟩ := h
    rfl
  · have C : Cd (gx W N qual scope f cdv A outer s H) (gx W N qual scope f cdv A outer s H).N scope k := ⟨rfl, sc.nd, rfl, rfl, room, hgd, bl⟩
    have B : Bd (gx W N qual scope f cdv A outer s H) := bd0 rfl fun _ => rfl
    rw [okSs, okS, okE, okEs, okE] at ok
    obtain ⟨ok, okr⟩ := and1 ok
    obtain ⟨ok, o2⟩ := and1 ok
    obtain ⟨o2, _⟩ := and1 o2
    obtain ⟨ok, o3⟩ := and1 ok
    obtain ⟨o3, _⟩ := and1 o3
    obtain ⟨o1, _⟩ := and1 ok
    obtain ⟨l1, l2⟩ := loc_of o2
    obtain ⟨ft, fdt, pst, Gt, hm, hk, hb⟩ := opn
    have pt : ∀ p1 p2 p3 : Pos, PE (gx W N qual scope f cdv A outer s H) (.Call (.Name "_law_open" p1) [.Name (nm N 0) p2] [] p3) (fun σ H Q => tCons (tVar 0) tNil σ H fun vs H1 => spOpen W.K vs H1 Q) := fun p1 p2 p3 =>
      pe_gcall Gt C.room C.gd (gl_of C o3).1 hm hk hb (pa_cons (pv C o1) pa_nil (by rfl)) (gl_of C o3).2 (by rfl) (by rfl)
    refine ⟨_, pss_cons (ps_set C.nd l1 l2 (pt _ _ _) (by rfl) (.inl rfl)) (sSs rest C B okr ask), ?_⟩
    obtain ⟨a, ns, rfl, hS, kk⟩ := promise
    refine ⟨.ref a, rfl, a, ns, rfl, hS, fun H1 p c cells u hp hc hne => ?_⟩
    obtain ⟨s1, hev⟩ := hlaw cells
    refine ⟨some (p, c), H1, upd (fun _ => none) c (.lst (cells.map V.int)), upd (fun _ => none) c (.lst (cells.map V.int)), lawS N.length ⟨cells, 0, 0⟩, _, s1, ?_, hev, ?_⟩
    · have gp : upd (fun _ => none) c (HO.lst (cells.map V.int)) p = none := by rw [upd_ne (Ne.symm hne)]
      have sl : ∀ {i : Nat} {d : D} {fl : Bool}, (lawS N.length ⟨cells, 0, 0⟩).sl[i]? = some (some (d, fl)) → i = 1 ∧ d = .dict [] ∧ fl = false := by
        intro i d fl h
        have h : (none :: some (PyData.dict [], false) :: List.replicate (N.length - 2) none)[i]? = some (some (d, fl)) := h
        match i, h with
        | 0, h => cases h
        | 1, h => cases h; exact ⟨rfl, rfl, rfl⟩
        | i + 2, h =>
          rw [List.getElem?_cons_succ, List.getElem?_cons_succ, List.getElem?_replicate] at h
          split at h <;> cases h
      refine ⟨?_, fun b o h => ?_, .refl, fun b o h => .inl h, fun b o h _ => h, ⟨hne, hp, upd_same, gp⟩, fun i d h => ?_, fun i d h => ?_, fun i j d e b h => ?_⟩
      · show ((L2.start N [.ref a]).set 1 _).length = (none :: some (PyData.dict [], false) :: List.replicate (N.length - 2) none).length
        unfold L2.start
        simp only [List.length_set, List.length_append, List.length_map, List.length_replicate, List.length_cons, List.length_nil]
        omega
      · by_cases z : b = c
        · subst z; rw [upd_same] at h; cases h; exact hc
        · rw [upd_ne z] at h; cases h
      · obtain ⟨rfl, rfl, _⟩ := sl h
        refine ⟨.ref p, ?_, .pen rfl⟩
        rw [List.getElem?_set_self]
        unfold L2.start
        simp only [List.length_append, List.length_map, List.length_replicate, List.length_cons, List.length_nil]
        omega
      · obtain ⟨_, _, z⟩ := sl h
        cases z
      · obtain ⟨_, _, z⟩ := sl h
        cases z
    · intro v σ1 H2 G1 _ _ r
      have r : Rp _ G1 v (.bool true) := r
      cases r
      exact kk H2
end Fs

set_option Elab.async false
set_option linter.all false
set_option maxRecDepth 100000
set_option maxHeartbeats 8000000
namespace Fs
open PySem L2
abbrev nOpen : List Str := ["_law_script", "_law_cells", "_law_k", "_law_cell"]
def opS (cs : List Int) (x2 x3 : Option (D × Bool)) : S := ⟨[none, some (.list (cs.map .int), true), x2, x3], none⟩
theorem ixN_small {n : Nat} {i : Int} (h0 : 0 ≤ i) (h1 : i < n) : ixN n i = some i.toNat := by
  unfold ixN
  rw [if_pos h0, if_pos h1]
theorem st_setIx {s s1 s2 : S} {d : D} {t t2 : Tg} {i j : Nat} {kx e : IE} {n : Int} {xs : List D} {p0 : D × Bool} (h0 : rd s i = some p0) (h1 : Ev1 e s d t s1) (h2 : Ev1 kx (s1.keep t) (.int n) t2 s2)
    (h3 : rd s2 i = some (.list xs, true)) (h4 : ixN xs.length n = some j) : St1 (.setIx i kx e) s .nx (s2.put i (.list (xs.set j d), true)) := by
  rw [St1, evalS, h0]
  show (evalE e s >>= _) = _
  rw [h1]
  show (evalE kx (s1.keep t) >>= _) = _
  rw [h2]
  show (match rd s2 i, PyData.int n with
    | some (.list xs, true), .int n => (ixN xs.length n).map fun j => (Fl.nx, s2.put i (.list (xs.set j d), true))
    | _, _ => none) = _
  rw [h3]
  show (ixN xs.length n).map _ = _
  rw [h4]; rfl
theorem turn_ev (cs : List Int) (h : cs.length = 12) (k : Nat) (z : Int) :
    ∃ cs' : List Int, cs'.length = 12 ∧ evalSs ir_turn (opS cs (some (.int k, false)) (some (.int z, false))) = some (.nx, opS cs' (some (.int k, false)) (some (.int z, false))) := by
  have m0 := Int.emod_nonneg (k : Int) (show (12 : Int) ≠ 0 by decide)
  have m1 := Int.emod_lt_of_pos (k : Int) (show (0 : Int) < 12 by decide)
  have hl : (((k : Int) % 12) : Int) < cs.length := by omega
  have e1 : ixD (.list (cs.map .int)) (.int ((k : Int) % 12)) = some (.int (cs.getD ((k : Int) % 12).toNat 0)) := ix_cells m0 hl
  have ek : Ev1 (.bin .Mod (.blt .int (.cons (.var 2) .nil)) (.int 12)) (opS cs (some (.int k, false)) (some (.int z, false))) (.int ((k : Int) % 12)) .fz (opS cs (some (.int k, false)) (some (.int z, false))) :=
    ev_bin (ev_int1 (ev_var rfl)) ev_int (bin_mod (by decide))
  have ee : Ev1 (.bin .Add (.ix (.var 1) (.bin .Mod (.blt .int (.cons (.var 2) .nil)) (.int 12))) (.var 3)) (opS cs (some (.int k, false)) (some (.int z, false))) (.int (cs.getD ((k : Int) % 12).toNat 0 + z)) .fz (opS cs (some (.int k, false)) (some (.int z, false))) :=
    ev_bin (ev_ixG (ev_own rfl) ek e1) (ev_var rfl) bin_add
  refine ⟨cs.set ((k : Int) % 12).toNat (cs.getD ((k : Int) % 12).toNat 0 + z), by rw [List.length_set]; exact h, ?_⟩
  refine ss_cons (s1 := opS (cs.set ((k : Int) % 12).toNat (cs.getD ((k : Int) % 12).toNat 0 + z)) (some (.int k, false)) (some (.int z, false))) ?_ ss_nil
  have q := st_setIx (i := 1) (s := opS cs (some (.int k, false)) (some (.int z, false))) (xs := cs.map .int) (j := ((k : Int) % 12).toNat) rfl ee ek rfl (by rw [List.length_map]; exact ixN_small m0 hl)
  rw [show (cs.map PyData.int).set ((k : Int) % 12).toNat (.int (cs.getD ((k : Int) % 12).toNat 0 + z)) = (cs.set ((k : Int) % 12).toNat (cs.getD ((k : Int) % 12).toNat 0 + z)).map PyData.int from List.map_set.symm] at q
  exact q
theorem turns_ev : ∀ (zs : List Int) (j : Nat) (cs : List Int) (x2 x3 : Option (D × Bool)), (zs = [] ∨ cs.length = 12) →
    ∃ (cs' : List Int) (y2 y3 : Option (D × Bool)), fGo (.t [2, 3]) (evalSs ir_turn) ((zs.map PyData.int).zipIdx j |>.map fun p => .tuple [.int (p.2 : Nat), p.1]) (opS cs x2 x3) = some (.nx, opS cs' y2 y3)
  | [], j, cs, x2, x3, _ => ⟨cs, x2, x3, by rw [List.map_nil, List.zipIdx_nil, List.map_nil, fGo]⟩
  | z :: zs, j, cs, x2, x3, h => by
    have h : cs.length = 12 := h.resolve_left (by simp)
    obtain ⟨cs1, h1, e1⟩ := turn_ev cs h j z
    obtain ⟨cs', y2, y3, e2⟩ := turns_ev zs (j + 1) cs1 (some (.int j, false)) (some (.int z, false)) (.inr h1)
    refine ⟨cs', y2, y3, ?_⟩
    rw [List.map_cons, List.zipIdx_cons, List.map_cons, fGo]
    show (S.bindT (opS cs x2 x3) (.t [2, 3]) (.tuple [.int (j : Nat), .int z]) >>= _) = _
    rw [show S.bindT (opS cs x2 x3) (.t [2, 3]) (.tuple [.int (j : Nat), .int z]) = some (opS cs (some (.int j, false)) (some (.int z, false))) from rfl]
    show (evalSs ir_turn (opS cs (some (.int j, false)) (some (.int z, false))) >>= _) = _
    rw [e1]
    exact e2
theorem cutV_ints (xs : List Int) (lo hi : Option Int) : cutV (xs.map V.int) lo hi = ((xs.drop (HT.sIx xs.length 0 lo)).take (HT.sIx xs.length xs.length hi - HT.sIx xs.length 0 lo)).map V.int := by
  unfold cutV
  rw [List.length_map, ← List.map_drop, ← List.map_take]
theorem sq_up {K : PySem.W.Frag} {H H' : Hp} {a : Addr} {xs : List V} (u : Sub H H') (h : SqL K H a xs) : SqL K H' a xs := by
  rcases h with (h | ⟨o, h⟩) | h
  · exact .inl (.inl (u _ _ h))
  · exact .inl (.inr ⟨o, u _ _ h⟩)
  · exact .inr h
theorem intsOf_map : ∀ l : List Int, intsOf (l.map .int) = some l
  | [] => rfl
  | n :: r => by
    show (intsOf (r.map .int)).map (n :: ·) = _
    rw [intsOf_map r]; rfl
theorem gfn_open {W : Wd} {k : Nat} {f : Addr} {name qual : Str} {params : Arguments} {body : List Stmt} {scope : Scope} {dV kV doc pm cdv ct oc : Value} {an od : Option Addr} {osl : Array (Option Value)} (E : Em)
    (lk : W.K.lookup f = some ⟨oc, od, .func (PySem.W.fnOf name qual params body scope dV kV doc pm an cdv ct), osl⟩)
    (hcd : PySem.W.codeIn W.K cdv qual = true) (sc : FnScope nOpen ["_law_script"] scope) (bl : ∀ x, x ∈ bnames → W.mg x = none)
    (he : (emSs nOpen ir_open E).1 = body) (ok : okSs nOpen scope ir_open E = true) :
    GFn W (k + 1) f (PySem.W.fnOf name qual params body scope dV kV doc pm an cdv ct) ["_law_script"] (spOpen W.K) := by
  subst he
  refine gfn_of lk hcd sc (fun vs H Q h => ?_) fun A outer s H vs Q room hgd promise => ?_
  · obtain ⟨a, ns, rfl, _⟩ := h
    rfl
  · have C : Cd (gx W nOpen qual scope f cdv A outer s H) (gx W nOpen qual scope f cdv A outer s H).N scope k := ⟨rfl, sc.nd, rfl, rfl, room, hgd, bl⟩
    have B : Bd (gx W nOpen qual scope f cdv A outer s H) := bd0 rfl fun _ => rfl
    unfold ir_open at ok
    rw [okSs, okSs, okSs] at ok
    obtain ⟨k1, ok⟩ := and1 ok
    obtain ⟨k2, ok⟩ := and1 ok
    obtain ⟨k3, _⟩ := and1 ok
    rw [okS] at k1
    rw [okS] at k2
    obtain ⟨k1, k4⟩ := and1 k1
    obtain ⟨k4, _⟩ := and1 k4
    obtain ⟨l1, l2⟩ := loc_of k4
    obtain ⟨k5, k2⟩ := and1 k2
    obtain ⟨k6, k2⟩ := and1 k2
    obtain ⟨_, k7⟩ := and1 k2
    rw [okSr] at k5
    obtain ⟨k5, k8⟩ := and1 k5
    rw [okE] at k5
    obtain ⟨k5, _⟩ := and1 k5
    rw [okE] at k5
    have glist : glB scope "list" = true := by
      rw [okE] at k1
      · exact (and1 k1).2
      all_goals first | (intro z; cases z; done) | (intro m z; cases z; done)
    have psl : ∀ (lo hi : Option Expr) (tl th : TO) (p1 p2 p3 : Pos), PO (gx W nOpen qual scope f cdv A outer s H) lo tl → PO (gx W nOpen qual scope f cdv A outer s H) hi th →
        PE (gx W nOpen qual scope f cdv A outer s H) (.Subscript (.Name (nm nOpen 0) p1) (.Slice lo hi none p2) p3) (tSl (rSlL W.K) (tVar 0) tl th) := fun lo hi tl th p1 p2 p3 h1 h2 =>
      pe_slice sl_list (pv C k5) h1 h2
    have ps1 : ∀ p1 p2 p3 p4 p5 p6 : Pos, PE (gx W nOpen qual scope f cdv A outer s H) (.Call (.Name "list" p1) [.Subscript (.Name (nm nOpen 0) p2) (.Slice none (some (.Constant (.int 12) 0 p3)) none p4) p5] [] p6) (tCB _ (tCons (tSl (rSlL W.K) (tVar 0) tNoPart (tPart (tC (.int 12)))) tNil)) := fun p1 p2 p3 p4 p5 p6 =>
      pe_callTy call_list_of (gl_of C glist).1 (C.no _) PyProof.Rows.boot_list (pa_cons (psl _ _ _ _ _ _ _ po_none (po_some pe_int)) pa_nil (by rfl)) (by decide) (gl_of C glist).2 (by rfl) (by rfl)
    have ps2 : ∀ (tgE : List Expr) (n : Nat) (p0 p1 p2 p3 p4 p5 p6 p7 : Pos), PI (gx W nOpen qual scope f cdv A outer s H) (.Tuple tgE n p0) (.Call (.Name "enumerate" p1) [.Subscript (.Name (nm nOpen 0) p2) (.Slice (some (.Constant (.int 12) 0 p3)) (some (.Constant (.int 63) 0 p4)) none p5) p6] [] p7)
        (iEnA W.K (tCons (tSl (rSlL W.K) (tVar 0) (tPart (tC (.int 12))) (tPart (tC (.int 63)))) tNil)) := fun tgE n p0 p1 p2 p3 p4 p5 p6 p7 =>
      pi_enA (gl_of C k8).1 (C.no _) (pa_cons (psl _ _ _ _ _ _ _ (po_some pe_int) (po_some pe_int)) pa_nil (by rfl)) (by rfl)
    refine ⟨_, pss_cons (ps_set C.nd l1 l2 (ps1 _ _ _ _ _ _) (by rfl) (.inl rfl)) (pss_cons (ps_for B.passes C.calm (ps2 _ _ _ _ _ _ _ _ _ _) (pg_tr C.nd C.calm (.t [2, 3]) _ (tg_of C B k6)) (sSs ir_turn C B k7 (by simp [ir_turn, askSs, askS, askE, askEs])) (by intro _; rfl)) (pss_cons (sS (.ret (.lst (.cons (.var 1) (.cons (.int 0) (.cons (.int 0) .nil))))) C B k3 (by simp [askS, askE, askEs])) pss_nil)), ?_⟩
    obtain ⟨a, ns, rfl, hS, kk⟩ := promise
    obtain ⟨c1, hc1⟩ : ∃ c1 : List Int, cutV (ns.map V.int) none (some 12) = c1.map V.int := ⟨_, cutV_ints _ _ _⟩
    obtain ⟨c2, hc2⟩ : ∃ c2 : List Int, cutV (ns.map V.int) (some 12) (some 63) = c2.map V.int := ⟨_, cutV_ints _ _ _⟩
    have hcase : c2 = [] ∨ c1.length = 12 := by
      have e1 := congrArg List.length hc1
      have e2 := congrArg List.length hc2
      rw [cutV_ints] at e1 e2
      simp only [List.length_map, List.length_take, List.length_drop] at e1 e2
      rw [show (12 : Int) = ((12 : Nat) : Int) from rfl, HT.sIx_nat, HT.sIx_none] at e1
      rw [show (12 : Int) = ((12 : Nat) : Int) from rfl, show (63 : Int) = ((63 : Nat) : Int) from rfl, HT.sIx_nat, HT.sIx_nat] at e2
      by_cases hz : c2.length = 0
      · exact .inl (List.length_eq_zero_iff.mp hz)
      · right; omega
    refine ⟨.ref a, rfl, 12, rfl, a, ns.map V.int, rfl, hS, fun p1 hp1 => ?_⟩
    rw [hc1]
    refine ⟨p1, c1.map V.int, rfl, .inl (.of upd_same), fun p2 hp2 => ?_⟩
    have u1 : Sub H (upd H p1 (.lst (c1.map V.int))) := .upd hp1
    have u2 : Sub H (upd (upd H p1 (.lst (c1.map V.int))) p2 (.lst (c1.map V.int))) := u1.trans (.upd hp2)
    refine ⟨.ref a, rfl, 12, rfl, 63, rfl, a, ns.map V.int, rfl, sq_up u2 hS, fun p3 hp3 => ?_⟩
    rw [hc2]
    refine ⟨p3, c2.map V.int, rfl, .inl ⟨.of upd_same, ?_⟩⟩
    have u3 := u2.trans (Sub.upd (o := .lst (c2.map V.int)) hp3)
    have n32 : p2 ≠ p3 := ne_of_none upd_same hp3
    have h3n : H p3 = none := by
      cases z : H p3 with
      | none => rfl
      | some o => rw [u2 _ _ z] at hp3; cases hp3
    have h2n : H p2 = none := by
      cases z : H p2 with
      | none => rfl
      | some o => rw [u1 _ _ z] at hp2; cases hp2
    obtain ⟨cs', y2, y3, hev⟩ := turns_ev c2 0 c1 none none hcase
    have sl : ∀ {i : Nat} {d : D} {fl : Bool}, (opS c1 none none).sl[i]? = some (some (d, fl)) → i = 1 ∧ d = .list (c1.map .int) ∧ fl = true := by
      intro i d fl h
      match i, h with
      | 0, h => cases h
      | 1, h => cases h; exact ⟨rfl, rfl, rfl⟩
      | 2, h => cases h
      | 3, h => cases h
      | i + 4, h => cases h
    have np : ∀ b, ¬ pen1 none b := fun b n => by obtain ⟨c, z⟩ := n; cases z
    have S' : Sim none H (fun _ => none) (upd (fun _ => none) p3 (.lst (c2.map V.int))) ((L2.start nOpen [.ref a]).set 1 (some (.ref p2))) (upd (upd (upd H p1 (.lst (c1.map V.int))) p2 (.lst (c1.map V.int))) p3 (.lst (c2.map V.int))) (opS c1 none none) := by
      refine ⟨rfl, fun b o h => ?_, fun b o h => (by cases h), fun b o h => ?_, fun b o h _ => u3 b o h, trivial, fun i d h => ?_, fun i d h => ?_, fun i j d e b h h' _ _ => ?_⟩
      · by_cases z : b = p3
        · subst z; rw [upd_same] at h ⊢; exact h
        · rw [upd_ne z] at h; cases h
      · by_cases z : b = p3
        · subst z; exact .inr h3n
        · rw [upd_ne z] at h; cases h
      · obtain ⟨_, _, z⟩ := sl h
        cases z
      · obtain ⟨rfl, rfl, _⟩ := sl h
        exact ⟨p2, c1.map V.int, c1.map .int, rfl, rfl, by rw [upd_ne n32, upd_same], Rps.ofInts _, by rw [upd_ne n32], h2n, np _⟩
      · rw [(sl h).1, (sl h').1]
    refine for_core W.K (fun _ => rfl) S' (fsr_en W.K upd_same (Rps.ofInts c2)) hev ?_
    intro σ1 H1 G1 u S1
    refine ⟨none, H, _, G1, opS cs' y2 y3, .ret (.list [.list (cs'.map .int), .int 0, .int 0]) true, _, S1, st_retL (ev_lst (evs_cons (ev_own rfl) (evs_cons ev_int (evs_cons ev_int evs_nil)))), ?_⟩
    intro v σ2 H4 G4 _ S4 r
    obtain ⟨b, xs, es, rfl, e, hb, rb, gb, _, _⟩ := r
    cases e
    match xs, rb with
    | [x, y, z], .cons r1 (.cons r2 (.cons r3 .nil)) =>
      cases r1 with
      | lst hc rc =>
        rename_i c zs
        cases r2
        cases r3
        have ez : zs = cs'.map V.int := rc.ints (intsOf_map cs')
        subst ez
        exact kk H4 b c cs' (fun d o h => S4.kee d o h (np d)) hb (S4.sub _ _ hc) (fun z => by rw [z, gb] at hc; cases hc)
end Fs

set_option Elab.async false
set_option linter.all false
set_option maxRecDepth 100000
set_option maxHeartbeats 8000000
namespace Fs
open PySem L2
structure DefAt (K : PySem.W.Frag) (mg : Str → Option Value) (x : Str) (st : Stmt) : Prop where
  of : ∃ f fd, mg x = some (.ref f) ∧ L2.Fun K x x st f fd
theorem defAt_mk {K : PySem.W.Frag} {h : Heap} {mg : Str → Option Value} (X : K.In h) (G : h.Ns mainGlobals mg) {x : Str} {st : Stmt} {f : Addr} {oc : Value} {od an : Option Addr} {osl : Array (Option Value)} {kV doc pm cdv ct : Value}
    (a : PySem.W.nsIn K mainGlobals x = some (some (.ref f))) (l : K.lookup f = some ⟨oc, od, .func (PySem.W.fnOf x x (defArgs st) (defBody st) (defScope st) .none kV doc pm an cdv ct), osl⟩)
    (c : PySem.W.codeIn K cdv x = true) (k : PySem.W.keepIn K (.ref f) = true) : DefAt K mg x st := ⟨f, _, PySem.W.mg_of X G a, fun_mk l c k⟩
theorem Call1.mono {W : Wd} {j k : Nat} {x : Str} {n : Nat} {sp : GSp} (c : Call1 W j x n sp) (h : j ≤ k) : Call1 W k x n sp := by
  obtain ⟨⟨f, fd, ps, F, r⟩⟩ := c
  exact ⟨f, fd, ps, F.mono h, r⟩
abbrev BindsAt (x : Str) (st : Stmt) (ps : List Str) : Prop := ∀ (kV doc pm : Value) (an : Option Addr) (cdv ct : Value) (us : List Value), us.length = ps.length →
  bindArgs (PySem.W.fnOf x x (defArgs st) (defBody st) (defScope st) .none kV doc pm an cdv ct) ⟨us, []⟩ = pure (ps.zip us)
section
variable {W : Wd} {k : Nat} {x : Str} {st : Stmt} {N ps : List Str}
theorem def_at (d : DefAt W.K W.mg x st) (ir : ISs) (E : Em) (sc : FnScope N ps (defScope st)) (bl : ∀ x, x ∈ bnames → W.mg x = none) (he : (emSs N ir E).1 = defBody st) (ok : okSs N (defScope st) ir E = true)
    (ask : askSs (askOf W k) ir) (hb : BindsAt x st ps) : Call1 W (k + 1) x ps.length (spF (runF N.length ir) ps.length) := by
  obtain ⟨f, fd, hm, F⟩ := d.of
  have b := F.binds hb
  obtain ⟨oc, od, kV, doc, pm, an, cdv, ct, osl, rfl, lk, hcd⟩ := F.ex
  exact ⟨f, _, ps, def_of ir E lk hcd sc bl he ok ask, hm, F.kp, b⟩
theorem def_imp {n : Nat} {F F' : Fn} (h : ∀ ds p r, F ds p = some r → F' ds p = some r) (c : Call1 W k x n (spF F' n)) : Call1 W k x n (spF F n) := by
  obtain ⟨⟨f, fd, ps, G, r⟩⟩ := c
  exact ⟨f, fd, ps, G.imp fun vs H Q q => spF_imp h q, r⟩
theorem one_at {yn : Str} (d : DefAt W.K W.mg x st) (E : Em) (sc : FnScope (nOne yn) (nOne yn) (defScope st)) (bl : ∀ x, x ∈ bnames → W.mg x = none) (he : (emSs (nOne yn) ir_one E).1 = defBody st) (ok : okSs (nOne yn) (defScope st) ir_one E = true)
    (tk : Call1 W k "_law_take" 2 (spF FTake 2)) (hb : BindsAt x st (nOne yn)) : Call1 W (k + 1) x 2 spOne := by
  obtain ⟨f, fd, hm, F⟩ := d.of
  have b := F.binds hb
  obtain ⟨oc, od, kV, doc, pm, an, cdv, ct, osl, rfl, lk, hcd⟩ := F.ex
  exact ⟨f, _, (nOne yn), gfn_one E lk hcd sc bl he ok tk, hm, F.kp, b⟩
theorem open_at (d : DefAt W.K W.mg x st) (E : Em) (sc : FnScope nOpen ["_law_script"] (defScope st)) (bl : ∀ x, x ∈ bnames → W.mg x = none) (he : (emSs nOpen ir_open E).1 = defBody st) (ok : okSs nOpen (defScope st) ir_open E = true)
    (hb : BindsAt x st ["_law_script"]) : Call1 W (k + 1) x 1 (spOpen W.K) := by
  obtain ⟨f, fd, hm, F⟩ := d.of
  have b := F.binds hb
  obtain ⟨oc, od, kV, doc, pm, an, cdv, ct, osl, rfl, lk, hcd⟩ := F.ex
  exact ⟨f, _, ["_law_script"], gfn_open E lk hcd sc bl he ok, hm, F.kp, b⟩
end
theorem law_at {l : PySem.W.OpenLaw} {w : World} {K : PySem.W.Frag} {mg : Str → Option Value} {fa : Addr} {k : Nat} {st : Stmt} {N : List Str} {x0 : Str} (rest : ISs) (E : Em) (d : DefAt K mg "law" st) (hfa : mg "law" = some (.ref fa))
    (sc : FnScope N [x0] (defScope st)) (bl : ∀ x, x ∈ bnames → mg x = none) (h2 : 2 ≤ N.length)
    (he : (emSs N (.cons (.set 1 (.call "_law_open" FNo (.cons (.var 0) .nil))) rest) E).1 = defBody st)
    (ok : okSs N (defScope st) (.cons (.set 1 (.call "_law_open" FNo (.cons (.var 0) .nil))) rest) E = true)
    (parts : ∀ base : Heap, K.In base → base.Ns mainGlobals mg → Call1 ⟨l.prog, w, K, mg, base⟩ k "_law_open" 1 (spOpen K) ∧ askSs (askOf ⟨l.prog, w, K, mg, base⟩ k) rest)
    (hlaw : ∀ cells : List Int, ∃ s1, evalSs rest (lawS N.length ⟨cells, 0, 0⟩) = some (.ret (.bool true) false, s1))
    (hbind : ∀ (kV doc pm : Value) (an : Option Addr) (cdv ct u : Value), bindArgs (PySem.W.fnOf "law" "law" (defArgs st) (defBody st) (defScope st) .none kV doc pm an cdv ct) ⟨[u], []⟩ = pure [(x0, u)]) :
    ∃ fd : FuncData, (∀ (s : Shared) (u : Value), BindsTo s fd ⟨[u], []⟩ [(x0, u)]) ∧ ∀ base : Heap, K.In base → base.Ns mainGlobals mg → GFn ⟨l.prog, w, K, mg, base⟩ (k + 1) fa fd [x0] (spLaw K) := by
  obtain ⟨f, fd, hm, F⟩ := d.of
  rw [hfa] at hm
  cases hm
  obtain ⟨oc, od, kV, doc, pm, an, cdv, ct, osl, rfl, lk, hcd⟩ := F.ex
  refine ⟨PySem.W.fnOf "law" "law" (defArgs st) (defBody st) (defScope st) .none kV doc pm an cdv ct, fun s u => .of_eq (hbind kV doc pm an cdv ct u), fun base hK hN => ?_⟩
  obtain ⟨p1, p2⟩ := parts base hK hN
  exact gfn_law (W := ⟨l.prog, w, K, mg, base⟩) rest E lk hcd sc bl h2 he ok p1 p2 hlaw
theorem walk_law {l : PySem.W.OpenLaw} {k : Nat} {x0 : Str} {q : Program} {loose : List Str} {XP : (Str → Option Value) → Heap → Prop} {YP : World → Heap → Prop} {d : DefRec} {K : Params → PySem.W.Frag}
    (hn : l.most = some 63) (hdf : d.params.defaults = []) (room : Room k callerA) (hY : ∀ (w : World) (h : Heap), YP w h → (K w.params).In h)
    (F : ∀ (w : World) (mg : Str → Option Value) (fa : Addr) (h : Heap), (K w.params).In h → h.Ns mainGlobals mg → mg d.name = some (.ref fa) →
      ∃ fd : FuncData, (∀ (s : Shared) (u : Value), BindsTo s fd ⟨[u], []⟩ [(x0, u)]) ∧ ∀ base : Heap, (K w.params).In base → base.Ns mainGlobals mg → GFn ⟨l.prog, w, K w.params, mg, base⟩ k fa fd [x0] (spLaw (K w.params))) :
    PySem.W.WalkO q loose XP YP l.row.toRowW d [] (fun f vs => PySem.call f vs) :=
  gwalk_of (n := 63) (sp := fun w => spLaw (K w.params)) hn (by decide) hdf room rfl hY F fun w H a ns hl _ hS => ⟨a, ns, rfl, hS, fun _ => rfl⟩
theorem bl_mk {mg : Str → Option Value} (z_len : mg "len" = none) (z_all : mg "all" = none) (z_any : mg "any" = none) (z_sum : mg "sum" = none) (z_max : mg "max" = none) (z_min : mg "min" = none) (z_tuple : mg "tuple" = none) (z_list : mg "list" = none) (z_repr : mg "repr" = none) (z_int : mg "int" = none) (z_sorted : mg "sorted" = none) (z_set : mg "set" = none) (z_range : mg "range" = none) (z_enumerate : mg "enumerate" = none) (z_zip : mg "zip" = none) (z_isinstance : mg "isinstance" = none) (z_bool : mg "bool" = none) (z_str : mg "str" = none) : ∀ x, x ∈ bnames → mg x = none := by
  intro x hx
  unfold bnames at hx
  simp only [List.mem_cons, List.not_mem_nil, or_false] at hx
  rcases hx with rfl | rfl | rfl | rfl | rfl | rfl | rfl | rfl | rfl | rfl | rfl | rfl | rfl | rfl | rfl | rfl | rfl | rfl <;> assumption
theorem glob_int {mg : Str → Option Value} {x : Str} {n : Int} {t : Tok} (h : mg x = some (.int n t)) : ∃ v u, mg x = some u ∧ RelV v u ∧ Rp none (fun _ => none) v (.int n) := ⟨.int n, .int n t, h, ⟨t, rfl⟩, .int n⟩
end Fs

set_option Elab.async false
set_option linter.all false
set_option maxRecDepth 100000
set_option maxHeartbeats 8000000
namespace Fs
open PySem L2
/-- b draws are still allowed -/
def Bud (b : Int) (p : Pn) : Prop := 0 ≤ p.a ∧ 0 ≤ b ∧ p.a + b ≤ 1073741824
theorem Bud.less {b c : Int} {p : Pn} (h : Bud b p) (h0 : 0 ≤ c) (hc : c ≤ b) : Bud c p := ⟨h.1, h0, by have := h.2.2; omega⟩
section
variable {s s1 s2 : S} {d d1 d2 : D} {t t1 t2 : Tg} {a b e : IE}
theorem ev_one {x : Str} {pn : Option Pn} (h1 : Ev1 a s d1 t1 s1) (h2 : Ev1 b s1 d2 t2 s2) (h : oneF d1 d2 s2.pn = some (d, pn)) : Ev1 (.one x a b) s d .fz { s2 with pn := pn } := by
  rw [Ev1, evalE, h1]
  show (evalE b s1 >>= _) = _
  rw [h2]
  show (oneF d1 d2 s2.pn >>= _) = _
  rw [h]; rfl
theorem st_app {i : Nat} {xs : List D} {d0 : D} (h0 : rd s i = some (d0, true)) (h1 : Ev1 e s d t s1) (h2 : rd (s1.keep t) i = some (.list xs, true)) (h3 : xs.length < sizeLine) : St1 (.app i e) s .nx ((s1.keep t).put i (.list (xs ++ [d]), true)) := by
  rw [St1, evalS, h0]
  show (evalE e s >>= _) = _
  rw [h1]
  show (match true, rd (s1.keep t) i with
    | true, some (.list xs, true) => if xs.length < sizeLine then some (Fl.nx, (s1.keep t).put i (.list (xs ++ [d]), true)) else none
    | _, _ => none) = _
  rw [h2]
  show (if xs.length < sizeLine then _ else _) = _
  rw [if_pos h3]
end
end Fs

set_option Elab.async false
set_option linter.all false
set_option maxRecDepth 100000
set_option maxHeartbeats 8000000
namespace Fs
open PySem L2
theorem lcGo_by {fi : S → Option (Bool × S)} {fe : S → Option ((D × Tg) × S)} {tg : Tr} (P : Nat → List D → S → Prop) : ∀ (items : List D) (j : Nat) (acc : List D) (s : S), P j acc s →
    (∀ i x acc s, items[i]? = some x → P (j + i) acc s → ∃ sb b sc, s.bindT tg x = some sb ∧ fi sb = some (b, sc) ∧ (b = false → P (j + i + 1) acc (sc.wipe tg.slots)) ∧
      (b = true → ∃ d t sd, fe sc = some ((d, t), sd) ∧ P (j + i + 1) (acc ++ [d]) ((sd.keep t).wipe tg.slots))) → ∃ ds s2, lcGo fi fe tg items s = some (ds, s2) ∧ P (j + items.length) (acc ++ ds) s2
  | [], j, acc, s, h, _ => ⟨[], s, by rw [lcGo], by rw [List.append_nil]; exact h⟩
  | x :: xs, j, acc, s, h, step => by
    obtain ⟨sb, b, sc, e1, e2, hf, ht⟩ := step 0 x acc s rfl h
    have next : ∀ i y acc s, xs[i]? = some y → P (j + 1 + i) acc s → ∃ sb b sc, s.bindT tg y = some sb ∧ fi sb = some (b, sc) ∧ (b = false → P (j + 1 + i + 1) acc (sc.wipe tg.slots)) ∧
        (b = true → ∃ d t sd, fe sc = some ((d, t), sd) ∧ P (j + 1 + i + 1) (acc ++ [d]) ((sd.keep t).wipe tg.slots)) := fun i y acc s hy hp => by
      have q := step (i + 1) y acc s hy (by rw [show j + (i + 1) = j + 1 + i by omega]; exact hp)
      rw [show j + (i + 1) + 1 = j + 1 + i + 1 by omega] at q
      exact q
    cases b with
    | false =>
      obtain ⟨ds, s2, e3, h2⟩ := lcGo_by P xs (j + 1) acc _ (hf rfl) next
      refine ⟨ds, s2, ?_, by rw [List.length_cons, show j + (xs.length + 1) = j + 1 + xs.length by omega]; exact h2⟩
      rw [lcGo, e1]
      show (fi sb >>= _) = _
      rw [e2]
      exact e3
    | true =>
      obtain ⟨d, t, sd, e4, h3⟩ := ht rfl
      obtain ⟨ds, s2, e3, h2⟩ := lcGo_by P xs (j + 1) (acc ++ [d]) _ h3 next
      refine ⟨d :: ds, s2, ?_, by rw [List.length_cons, show j + (xs.length + 1) = j + 1 + xs.length by omega]; rw [List.append_assoc] at h2; exact h2⟩
      rw [lcGo, e1]
      show (fi sb >>= _) = _
      rw [e2]
      show (fe sc >>= _) = _
      rw [e4]
      show (lcGo fi fe tg xs ((sd.keep t).wipe tg.slots) >>= _) = _
      rw [e3]; rfl
end Fs

set_option Elab.async false
set_option linter.all false
set_option maxRecDepth 100000
set_option maxHeartbeats 8000000
namespace Fs
open PySem L2
section
variable {s s1 s2 s3 : S} {d d1 d2 d3 : D} {t t1 t2 t3 : Tg} {a b c e : IE} {es : IEs} {i j n : Nat} {fr : Bool}
theorem ev_iteT (h1 : EvB c s true s1) (h2 : Ev1 a s1 d t s2) : Ev1 (.ite c a b) s d t s2 := by
  rw [Ev1, evalE, h1]
  show (if true = true then evalE a s1 else evalE b s1) = _
  rw [if_pos rfl]; exact h2
theorem ev_iteF (h1 : EvB c s false s1) (h2 : Ev1 b s1 d t s2) : Ev1 (.ite c a b) s d t s2 := by
  rw [Ev1, evalE, h1]
  show (if false = true then evalE a s1 else evalE b s1) = _
  rw [if_neg (by decide)]; exact h2
theorem ev_not {k : Bool} (h1 : EvB a s k s1) : Ev1 (.not a) s (.bool (!k)) .fz s1 := by
  rw [Ev1, evalE, h1]; rfl
theorem ev_isN (h1 : Ev1 a s d t s1) : Ev1 (.isN a) s (.bool (isn d)) .fz s1 := by
  rw [Ev1, evalE, h1]
  cases d <;> rfl
theorem ev_notN (h1 : Ev1 a s d t s1) : Ev1 (.notN a) s (.bool (!isn d)) .fz s1 := by
  rw [Ev1, evalE, h1]
  cases d <;> rfl
theorem ev_isi {ty : Ty5} {k : Bool} (h1 : Ev1 a s d t s1) (h : isiD ty d = some k) : Ev1 (.isi a ty) s (.bool k) .fz s1 := by
  rw [Ev1, evalE, h1]
  show (isiD ty d >>= _) = _
  rw [h]; rfl
theorem sr_rngE {m : Int} (h1 : Ev1 a s (.int m) t1 s1) (h0 : -(2 ^ 62) ≤ m) (h2 : m < 2 ^ 62) : evalSr (.rng a) s = some (((List.range m.toNat).map fun i => .int (i : Nat), .fz), s1) := by
  rw [evalSr, h1]
  show (if -(2 ^ 62) ≤ m ∧ m < 2 ^ 62 then _ else _) = _
  rw [if_pos ⟨h0, h2⟩]
theorem and_one (h1 : EvB e s fr s1) : Ev1 (.and (.cons e .nil)) s (.bool fr) .fz s1 := by
  rw [Ev1, evalE, evalAnd, h1]; rfl
theorem and_F {e2 : IE} (h1 : EvB e s false s1) : Ev1 (.and (.cons e (.cons e2 es))) s (.bool false) .fz s1 := by
  rw [Ev1, evalE, evalAnd, h1]; rfl
theorem or_one (h1 : EvB e s fr s1) : Ev1 (.or (.cons e .nil)) s (.bool fr) .fz s1 := by
  rw [Ev1, evalE, evalOr, h1]; rfl
theorem or_T {e2 : IE} (h1 : EvB e s true s1) : Ev1 (.or (.cons e (.cons e2 es))) s (.bool true) .fz s1 := by
  rw [Ev1, evalE, evalOr, h1]; rfl
theorem cmp_ne {x y : D} (h : okEq x y = true) : cmpD .NotEq x y = some (!PyData.eqv x y) := if_pos h
theorem cmp_eq {x y : D} (h : okEq x y = true) : cmpD .Eq x y = some (PyData.eqv x y) := if_pos h
theorem st_set2 {is : List Nat} {xs : List (D × Tg)} (h1 : EvS es s xs s1) (h2 : is.length = xs.length ∧ (is.all fun i => decide (i < s1.sl.length)) = true) : St1 (.set2 is es) s .nx ((s1.keeps (xs.map (·.2))).puts is xs) := by
  rw [St1, evalS, h1]
  show (if is.length = xs.length ∧ (is.all fun i => decide (i < s1.sl.length)) = true then _ else _) = _
  rw [if_pos h2]
theorem st_setT {is : List Nat} (h1 : Ev1 e s d t s1) (h2 : s1.bindT (.t is) d = some s2) : St1 (.setT is e) s .nx s2 := by
  rw [St1, evalS, h1]
  show (s1.bindT (.t is) d >>= _) = _
  rw [h2]; rfl
end
end Fs

set_option Elab.async false
set_option linter.all false
set_option maxRecDepth 100000
set_option maxHeartbeats 8000000
namespace Fs
open PySem L2
structure WE (e : IE) (s : S) (Q : D → Tg → S → Prop) : Prop where
  ex : ∃ d t s1, evalE e s = some ((d, t), s1) ∧ Q d t s1
structure WL (es : IEs) (s : S) (Q : List D → List Tg → S → Prop) : Prop where
  ex : ∃ xs s1, evalEs es s = some (xs, s1) ∧ Q (xs.map (·.1)) (xs.map (·.2)) s1
structure WB (e : IE) (s : S) (Q : Bool → S → Prop) : Prop where
  ex : ∃ b s1, boolD (evalE e s) = some (b, s1) ∧ Q b s1
structure WAl (es : IEs) (s : S) (Q : Bool → S → Prop) : Prop where
  ex : ∃ b s1, evalAll es s = some (b, s1) ∧ Q b s1
structure WR (src : Sr) (s : S) (Q : List D → Tg → S → Prop) : Prop where
  ex : ∃ xs t s1, evalSr src s = some ((xs, t), s1) ∧ Q xs t s1
structure WO (o : IO) (s : S) (Q : Option D → S → Prop) : Prop where
  ex : ∃ d s1, evalO o s = some (d, s1) ∧ Q d s1
structure WC (F : Fn) (ds : List D) (pn : Option Pn) (Q : D → Bool → Option Pn → Prop) : Prop where
  ex : ∃ d fr p1, F ds pn = some ((d, fr), p1) ∧ Q d fr p1
structure WT (tg : Tr) (s : S) (x : D) (Q : S → Prop) : Prop where
  ex : ∃ sb, s.bindT tg x = some sb ∧ Q sb
/-- a statement: N behind it, Q where it leaves -/
structure W1 (st : IS) (s : S) (N : S → Prop) (Q : Fl → S → Prop) : Prop where
  ex : ∃ f s1, evalS st s = some (f, s1) ∧ (match f with | .nx => N s1 | f => Q f s1)
structure WS (ss : ISs) (s : S) (N : S → Prop) (Q : Fl → S → Prop) : Prop where
  ex : ∃ f s1, evalSs ss s = some (f, s1) ∧ (match f with | .nx => N s1 | f => Q f s1)
/-- steps on data -/
structure WD (op : Operator) (x y : D) (Q : D → Tg → Prop) : Prop where
  ex : ∃ r, binD op x y = some r ∧ Q r.1 (tagB r.2)
structure WK (op : CmpOp) (x y : D) (Q : Bool → Prop) : Prop where
  ex : ∃ k, cmpD op x y = some k ∧ Q k
structure WI (x y : D) (Q : D → Prop) : Prop where
  ex : ∃ d, ixD x y = some d ∧ Q d
structure WF (f : Bf) (xs : List D) (Q : D → Tg → Prop) : Prop where
  ex : ∃ r, bltD f xs = some r ∧ Q r.1 (tagB r.2)
structure WV (d : D) (Q : Bool → Prop) : Prop where
  ex : ∃ b, d = .bool b ∧ Q b
structure WSl (x : D) (l m : Option D) (Q : D → Tg → Prop) : Prop where
  ex : ∃ r, slD x l m = some r ∧ Q r.1 (tagB r.2)
structure WZ (x y : D) (Q : List D → List D → Prop) : Prop where
  ex : ∃ xs ys, itemsD x = some xs ∧ itemsD y = some ys ∧ kin x y = true ∧ Q xs ys
structure W1n (x y : D) (pn : Option Pn) (Q : D → Option Pn → Prop) : Prop where
  ex : ∃ d p1, oneF x y pn = some (d, p1) ∧ Q d p1
section
variable {s : S} {Q : D → Tg → S → Prop} {a b c e : IE} {es : IEs} {i j n : Nat}
theorem w_int {n : Int} (h : Q (.int n) .fz s) : WE (.int n) s Q := ⟨_, _, _, by rw [evalE], h⟩
theorem w_bool {n : Bool} (h : Q (.bool n) .fz s) : WE (.bool n) s Q := ⟨_, _, _, by rw [evalE], h⟩
theorem w_non (h : Q .none .fz s) : WE .non s Q := ⟨_, _, _, by rw [evalE], h⟩
theorem w_str {n : Str} (h : Q (.str n) .fz s) : WE (.str n) s Q := ⟨_, _, _, by rw [evalE], h⟩
theorem w_glob {x : Str} {d : D} (h : Q d .fz s) : WE (.glob x d) s Q := ⟨_, _, _, by rw [evalE], h⟩
theorem w_var {d : D} (hd : rd s i = some (d, false)) (h : Q d .fz s) : WE (.var i) s Q := ⟨_, _, _, ev_var hd, h⟩
theorem w_own {d : D} (hd : rd s i = some (d, true)) (h : Q d (.slot i) s) : WE (.var i) s Q := ⟨_, _, _, ev_own hd, h⟩
theorem w_bin {op : Operator} (h : WE a s fun x _ s1 => WE b s1 fun y _ s2 => WD op x y fun d t => Q d t s2) : WE (.bin op a b) s Q := by
  obtain ⟨x, t, s1, e1, ⟨y, t2, s2, e2, ⟨⟨d, fr⟩, e3, h⟩⟩⟩ := h
  exact ⟨_, _, _, ev_binG e1 e2 e3, h⟩
theorem w_neg {n : Int} (h : WE a s fun x _ s1 => x = .int n ∧ Q (.int (-n)) .fz s1) : WE (.neg a) s Q := by
  obtain ⟨x, t, s1, e1, rfl, h⟩ := h
  exact ⟨_, _, _, by rw [evalE, e1]; rfl, h⟩
theorem w_not (h : WB a s fun k s1 => Q (.bool (!k)) .fz s1) : WE (.not a) s Q := by
  obtain ⟨k, s1, e1, h⟩ := h
  exact ⟨_, _, _, ev_not e1, h⟩
theorem w_cmp {op : CmpOp} (h : WE a s fun x _ s1 => WE b s1 fun y _ s2 => WK op x y fun k => Q (.bool k) .fz s2) : WE (.cmp op a b) s Q := by
  obtain ⟨x, t, s1, e1, ⟨y, t2, s2, e2, ⟨d, e3, h⟩⟩⟩ := h
  exact ⟨_, _, _, ev_cmp e1 e2 e3, h⟩
theorem w_isN (h : WE a s fun x _ s1 => Q (.bool (isn x)) .fz s1) : WE (.isN a) s Q := by
  obtain ⟨x, t, s1, e1, h⟩ := h
  exact ⟨_, _, _, ev_isN e1, h⟩
theorem w_notN (h : WE a s fun x _ s1 => Q (.bool (!isn x)) .fz s1) : WE (.notN a) s Q := by
  obtain ⟨x, t, s1, e1, h⟩ := h
  exact ⟨_, _, _, ev_notN e1, h⟩
/-- both steps leave the state alone: one answer -/
theorem w_cmp2P {o p : CmpOp} {K M : Bool} {s2 : S} (h : WE a s fun x _ s1 => WE b s1 fun y _ s2' => s2' = s2 ∧ WK o x y fun k => k = K ∧ (K = true → WE c s2 fun z _ s3 => s3 = s2 ∧ WK p y z fun m => m = M)) (q : Q (.bool (K && M)) .fz s2) : WE (.cmp2 o p a b c) s Q := by
  obtain ⟨x, t, s1, e1, ⟨y, t2, s2', e2, rfl, ⟨k, e3, rfl, hT⟩⟩⟩ := h
  cases k with
  | true =>
    obtain ⟨z, t3, s3, e4, rfl, ⟨m, e5, rfl⟩⟩ := hT rfl
    refine ⟨_, _, _, ?_, q⟩
    rw [evalE, e1]; show (evalE b s1 >>= _) = _
    rw [e2]; show (cmpD o x y >>= _) = _
    rw [e3]; show (evalE c s3 >>= _) = _
    rw [e4]; show (cmpD p y z >>= _) = _
    rw [e5]; rfl
  | false =>
    refine ⟨_, _, _, ?_, q⟩
    rw [evalE, e1]; show (evalE b s1 >>= _) = _
    rw [e2]; show (cmpD o x y >>= _) = _
    rw [e3]; rfl
theorem w_ite (h : WB c s fun k s1 => (k = true → WE a s1 Q) ∧ (k = false → WE b s1 Q)) : WE (.ite c a b) s Q := by
  obtain ⟨k, s1, e1, hT, hF⟩ := h
  cases k with
  | true => obtain ⟨d, t, s2, e2, h⟩ := hT rfl; exact ⟨_, _, _, ev_iteT e1 e2, h⟩
  | false => obtain ⟨d, t, s2, e2, h⟩ := hF rfl; exact ⟨_, _, _, ev_iteF e1 e2, h⟩
theorem w_tup (h : WL es s fun ds ts s1 => Q (.tuple ds) .fz (s1.keeps ts)) : WE (.tup es) s Q := by
  obtain ⟨xs, s1, e1, h⟩ := h
  exact ⟨_, _, _, ev_tup e1, h⟩
theorem w_lst (h : WL es s fun ds ts s1 => Q (.list ds) .fresh (s1.keeps ts)) : WE (.lst es) s Q := by
  obtain ⟨xs, s1, e1, h⟩ := h
  exact ⟨_, _, _, ev_lst e1, h⟩
theorem w_ix (h : WE a s fun x _ s1 => WE b s1 fun y _ s2 => WI x y fun d => Q d .fz s2) : WE (.ix a b) s Q := by
  obtain ⟨x, t, s1, e1, ⟨y, t2, s2, e2, ⟨d, e3, h⟩⟩⟩ := h
  exact ⟨_, _, _, ev_ixG e1 e2 e3, h⟩
theorem w_sl {lo hi : IO} (h : WE a s fun x _ s1 => WO lo s1 fun l s2 => WO hi s2 fun m s3 => WSl x l m fun d t => Q d t s3) : WE (.sl a lo hi) s Q := by
  obtain ⟨x, t, s1, e1, ⟨l, s2, e2, ⟨m, s3, e3, ⟨⟨d, fr⟩, e4, h⟩⟩⟩⟩ := h
  refine ⟨_, _, _, ?_, h⟩
  rw [evalE, e1]; show (evalO lo s1 >>= _) = _
  rw [e2]; show (evalO hi s2 >>= _) = _
  rw [e3]; show (slD x l m >>= _) = _
  rw [e4]; rfl
theorem w_isi {ty : Ty5} (h : WE a s fun x _ s1 => ∃ k, isiD ty x = some k ∧ Q (.bool k) .fz s1) : WE (.isi a ty) s Q := by
  obtain ⟨x, t, s1, e1, k, e2, h⟩ := h
  exact ⟨_, _, _, ev_isi e1 e2, h⟩
theorem w_blt {f : Bf} (h : WL es s fun ds _ s1 => WF f ds fun d t => Q d t s1) : WE (.blt f es) s Q := by
  obtain ⟨xs, s1, e1, ⟨⟨d, fr⟩, e2, h⟩⟩ := h
  exact ⟨_, _, _, ev_bltG e1 e2, h⟩
def cst (s1 : S) (ts : List Tg) (d : D) (pn : Option Pn) : S := if scal d = true then { s1 with pn := pn } else { (s1.keeps ts) with pn := pn }
def ctg (d : D) (fr : Bool) : Tg := if scal d = true then .fz else tagB fr
theorem w_call {x : Str} {F : Fn} (h : WL es s fun ds ts s1 => WC F ds s1.pn fun d fr pn => Q d (ctg d fr) (cst s1 ts d pn)) : WE (.call x F es) s Q := by
  obtain ⟨xs, s1, e1, ⟨d, fr, pn, e2, h⟩⟩ := h
  cases z : scal d with
  | true =>
    refine ⟨_, _, _, ev_callS e1 e2 z, ?_⟩
    unfold ctg cst at h
    rw [if_pos z, if_pos z] at h; exact h
  | false =>
    refine ⟨_, _, _, ev_call e1 e2 z, ?_⟩
    unfold ctg cst at h
    rw [if_neg (by rw [z]; decide), if_neg (by rw [z]; decide)] at h; exact h
theorem w_one {x : Str} (h : WE a s fun x _ s1 => WE b s1 fun y _ s2 => W1n x y s2.pn fun d pn => Q d .fz { s2 with pn := pn }) : WE (.one x a b) s Q := by
  obtain ⟨x, t, s1, e1, ⟨y, t2, s2, e2, ⟨d, pn, e3, h⟩⟩⟩ := h
  exact ⟨_, _, _, ev_one e1 e2 e3, h⟩
theorem w_and (h : WB (.and es) s fun k s1 => Q (.bool k) .fz s1) : WE (.and es) s Q := by
  obtain ⟨k, s1, e1, h⟩ := h
  obtain ⟨⟨⟨d, t⟩, s2⟩, e2, h2⟩ := Option.bind_eq_some_iff.mp e1
  have key : ∀ (es : IEs) (s : S) r, evalAnd es s = some r → r.1.2 = .fz := by
    intro es
    induction es using IEs.rec (motive_1 := fun _ => True) (motive_3 := fun _ => True) (motive_4 := fun _ => True) with
    | nil => intro s r h; rw [evalAnd] at h; cases h
    | cons e es _ ih =>
      intro s r h
      rw [evalAnd] at h
      obtain ⟨⟨b, s1⟩, h1, h⟩ := Option.bind_eq_some_iff.mp h
      cases es with
      | nil => cases h; rfl
      | cons _ _ =>
        dsimp only at h
        split at h
        · exact ih _ _ h
        · cases h; rfl
    | _ => trivial
  have ht : t = .fz := by
    have e3 := e2
    rw [evalE] at e3
    exact key es s _ e3
  subst ht
  dsimp only at h2
  cases d <;> cases h2
  exact ⟨_, _, _, e2, h⟩
theorem w_or (h : WB (.or es) s fun k s1 => Q (.bool k) .fz s1) : WE (.or es) s Q := by
  obtain ⟨k, s1, e1, h⟩ := h
  obtain ⟨⟨⟨d, t⟩, s2⟩, e2, h2⟩ := Option.bind_eq_some_iff.mp e1
  have key : ∀ (es : IEs) (s : S) r, evalOr es s = some r → r.1.2 = .fz := by
    intro es
    induction es using IEs.rec (motive_1 := fun _ => True) (motive_3 := fun _ => True) (motive_4 := fun _ => True) with
    | nil => intro s r h; rw [evalOr] at h; cases h
    | cons e es _ ih =>
      intro s r h
      rw [evalOr] at h
      obtain ⟨⟨b, s1⟩, h1, h⟩ := Option.bind_eq_some_iff.mp h
      cases es with
      | nil => cases h; rfl
      | cons _ _ =>
        dsimp only at h
        split at h
        · cases h; rfl
        · exact ih _ _ h
    | _ => trivial
  have ht : t = .fz := by
    have e3 := e2
    rw [evalE] at e3
    exact key es s _ e3
  subst ht
  dsimp only at h2
  cases d <;> cases h2
  exact ⟨_, _, _, e2, h⟩
end
section
variable {s : S} {Q : Bool → S → Prop} {a b c e : IE} {es : IEs}
theorem wb_of (h : WE e s fun d _ s1 => WV d fun k => Q k s1) : WB e s Q := by
  obtain ⟨d, t, s1, e1, ⟨k, rfl, h⟩⟩ := h
  exact ⟨_, _, evb_of e1, h⟩
theorem wv {k : Bool} {Q : Bool → Prop} (h : Q k) : WV (.bool k) Q := ⟨_, rfl, h⟩
theorem wb_and1 (h : WB e s Q) : WB (.and (.cons e .nil)) s Q := by
  obtain ⟨k, s1, e1, h⟩ := h
  exact ⟨_, _, evb_of (and_one e1), h⟩
theorem wb_or1 (h : WB e s Q) : WB (.or (.cons e .nil)) s Q := by
  obtain ⟨k, s1, e1, h⟩ := h
  exact ⟨_, _, evb_of (or_one e1), h⟩
theorem wb_and {e2 : IE} (h : WB e s fun k s1 => (k = true → WB (.and (.cons e2 es)) s1 Q) ∧ (k = false → Q false s1)) : WB (.and (.cons e (.cons e2 es))) s Q := by
  obtain ⟨k, s1, e1, hT, hF⟩ := h
  cases k with
  | true =>
    obtain ⟨m, s2, e2, h⟩ := hT rfl
    refine ⟨_, _, ?_, h⟩
    rw [evalE] at e2 ⊢
    rw [evalAnd, e1]; exact e2
  | false => exact ⟨_, _, evb_of (and_F e1), hF rfl⟩
theorem wb_or {e2 : IE} (h : WB e s fun k s1 => (k = true → Q true s1) ∧ (k = false → WB (.or (.cons e2 es)) s1 Q)) : WB (.or (.cons e (.cons e2 es))) s Q := by
  obtain ⟨k, s1, e1, hT, hF⟩ := h
  cases k with
  | true => exact ⟨_, _, evb_of (or_T e1), hT rfl⟩
  | false =>
    obtain ⟨m, s2, e2, h⟩ := hF rfl
    refine ⟨_, _, ?_, h⟩
    rw [evalE] at e2 ⊢
    rw [evalOr, e1]; exact e2
theorem wb_andP {e2 : IE} {K M : Bool} (h1 : WB e s fun k s1 => s1 = s ∧ k = K) (h2 : K = true → WB (.and (.cons e2 es)) s fun m s2 => s2 = s ∧ m = M) (q : Q (K && M) s) : WB (.and (.cons e (.cons e2 es))) s Q := by
  obtain ⟨k, s1, e1, rfl, rfl⟩ := h1
  refine wb_and ⟨_, _, e1, fun z => ?_, fun z => by subst z; exact q⟩
  subst z
  obtain ⟨m, s2, e2, rfl, rfl⟩ := h2 rfl
  exact ⟨_, _, e2, q⟩
theorem wb_orP {e2 : IE} {K M : Bool} (h1 : WB e s fun k s1 => s1 = s ∧ k = K) (h2 : K = false → WB (.or (.cons e2 es)) s fun m s2 => s2 = s ∧ m = M) (q : Q (K || M) s) : WB (.or (.cons e (.cons e2 es))) s Q := by
  obtain ⟨k, s1, e1, rfl, rfl⟩ := h1
  refine wb_or ⟨_, _, e1, fun z => by subst z; exact q, fun z => ?_⟩
  subst z
  obtain ⟨m, s2, e2, rfl, rfl⟩ := h2 rfl
  exact ⟨_, _, e2, q⟩
theorem wal_nil (h : Q true s) : WAl .nil s Q := ⟨_, _, by rw [evalAll], h⟩
theorem wal_one {es : IEs} (h : WB e s Q) : WAl (.cons e es) s Q := by
  obtain ⟨k, s1, e1, h⟩ := h
  exact ⟨_, _, by rw [evalAll, e1], h⟩
end
section
variable {s : S} {a b c e : IE} {es : IEs}
theorem wl_nil {Q : List D → List Tg → S → Prop} (h : Q [] [] s) : WL .nil s Q := ⟨_, _, evs_nil, h⟩
theorem wl_cons {Q : List D → List Tg → S → Prop} (h : WE e s fun d t s1 => WL es s1 fun ds ts s2 => Q (d :: ds) (t :: ts) s2) : WL (.cons e es) s Q := by
  obtain ⟨d, t, s1, e1, ⟨xs, s2, e2, h⟩⟩ := h
  exact ⟨_, _, evs_cons e1 e2, h⟩
theorem wo_none {Q : Option D → S → Prop} (h : Q none s) : WO .none s Q := ⟨_, _, by rw [evalO], h⟩
theorem wo_some {Q : Option D → S → Prop} (h : WE e s fun d _ s1 => Q (some d) s1) : WO (.some e) s Q := by
  obtain ⟨d, t, s1, e1, h⟩ := h
  exact ⟨_, _, by rw [evalO, e1]; rfl, h⟩
theorem wr_seq {Q : List D → Tg → S → Prop} (h : WE e s fun d t s1 => ∃ xs, itemsD d = some xs ∧ Q xs t s1) : WR (.seq e) s Q := by
  obtain ⟨d, t, s1, e1, xs, e2, h⟩ := h
  refine ⟨_, _, _, ?_, h⟩
  rw [evalSr, e1]; show (itemsD d >>= _) = _
  rw [e2]; rfl
theorem wr_enum {Q : List D → Tg → S → Prop} (h : WE e s fun d t s1 => ∃ xs, itemsD d = some xs ∧ Q (xs.zipIdx.map fun p => .tuple [.int (p.2 : Nat), p.1]) t s1) : WR (.enum e) s Q := by
  obtain ⟨d, t, s1, e1, xs, e2, h⟩ := h
  refine ⟨_, _, _, ?_, h⟩
  rw [evalSr, e1]; show (itemsD d >>= _) = _
  rw [e2]; rfl
theorem wr_zip {Q : List D → Tg → S → Prop} (h : WE a s fun x t s1 => WE b s1 fun y u s2 => WZ x y fun xs ys => Q (List.zipWith (fun u v => .tuple [u, v]) xs ys) .fz ((s2.keep t).keep u)) : WR (.zip a b) s Q := by
  obtain ⟨x, t, s1, e1, ⟨y, u, s2, e2, ⟨xs, ys, e3, e4, e5, h⟩⟩⟩ := h
  refine ⟨_, _, _, ?_, h⟩
  rw [evalSr, e1]; show (evalE b s1 >>= _) = _
  rw [e2]; show (itemsD x >>= _) = _
  rw [e3]; show (itemsD y >>= _) = _
  rw [e4]; show (if kin x y = true then _ else _) = _
  rw [if_pos e5]
theorem wr_rng {Q : List D → Tg → S → Prop} (h : WE a s fun x _ s1 => ∃ n : Int, x = .int n ∧ (-(2 ^ 62) ≤ n ∧ n < 2 ^ 62) ∧ Q ((List.range n.toNat).map fun i => .int (i : Nat)) .fz s1) : WR (.rng a) s Q := by
  obtain ⟨x, t, s1, e1, n, rfl, z, h⟩ := h
  exact ⟨_, _, _, sr_rngE e1 z.1 z.2, h⟩
theorem wr_rng2 {Q : List D → Tg → S → Prop} (h : WE a s fun x _ s1 => WE b s1 fun y _ s2 => ∃ m n : Int, x = .int m ∧ y = .int n ∧ (-(2 ^ 62) ≤ m ∧ m < 2 ^ 62 ∧ -(2 ^ 62) ≤ n ∧ n < 2 ^ 62) ∧ Q ((List.range (n - m).toNat).map fun i => .int (m + (i : Nat))) .fz s2) : WR (.rng2 a b) s Q := by
  obtain ⟨x, t, s1, e1, ⟨y, t2, s2, e2, m, n, rfl, rfl, z, h⟩⟩ := h
  refine ⟨_, _, _, ?_, h⟩
  rw [evalSr, e1]; show (evalE b s1 >>= _) = _
  rw [e2]; show (if _ then _ else _) = _
  rw [if_pos z]
end
section
variable {Q : D → Tg → Prop}
theorem d_add {x y : Int} (h : Q (.int (x + y)) .fz) : WD .Add (.int x) (.int y) Q := ⟨_, rfl, h⟩
theorem d_sub {x y : Int} (h : Q (.int (x - y)) .fz) : WD .Sub (.int x) (.int y) Q := ⟨_, rfl, h⟩
theorem d_addL {x y : List D} (z : x.length + y.length ≤ sizeLine) (h : Q (.list (x ++ y)) .fresh) : WD .Add (.list x) (.list y) Q := ⟨_, bin_lst z, h⟩
theorem d_addT {x y : List D} (z : x.length + y.length ≤ sizeLine) (h : Q (.tuple (x ++ y)) .fz) : WD .Add (.tuple x) (.tuple y) Q := ⟨_, bin_tup z, h⟩
end
section
variable {Q : Bool → Prop}
theorem k_lt {x y : Int} (h : Q (decide (x < y))) : WK .Lt (.int x) (.int y) Q := ⟨_, cmp_lt, h⟩
theorem k_le {x y : Int} (h : Q (decide (x ≤ y))) : WK .LtE (.int x) (.int y) Q := ⟨_, cmp_le, h⟩
theorem k_gt {x y : Int} (h : Q (decide (y < x))) : WK .Gt (.int x) (.int y) Q := ⟨_, cmp_gt, h⟩
theorem k_ge {x y : Int} (h : Q (decide (y ≤ x))) : WK .GtE (.int x) (.int y) Q := ⟨_, cmp_ge, h⟩
theorem k_eqI {x y : Int} (h : Q (decide (x = y))) : WK .Eq (.int x) (.int y) Q := ⟨_, cmp_eqI, h⟩
theorem k_neI {x y : Int} (h : Q (!decide (x = y))) : WK .NotEq (.int x) (.int y) Q := ⟨_, cmp_neI, h⟩
theorem k_eq {x y : D} (z : okEq x y = true) (h : Q (PyData.eqv x y)) : WK .Eq x y Q := ⟨_, cmp_eq z, h⟩
theorem k_ne {x y : D} (z : okEq x y = true) (h : Q (!PyData.eqv x y)) : WK .NotEq x y Q := ⟨_, cmp_ne z, h⟩
theorem eqv_int {x y : Int} : PyData.eqv (.int x) (.int y) = decide (x = y) := by rw [← Bool.beq_eq_decide_eq]; rfl
theorem any_ints {x : Int} : ∀ {ns : List Int}, (ns.map PyData.int).any (fun z => PyData.eqv z (.int x)) = decide (x ∈ ns)
  | [] => rfl
  | n :: ns => by
    rw [List.map_cons, List.any_cons, any_ints, eqv_int]
    by_cases h : n = x
    · subst h; simp
    · rw [decide_eq_false h, Bool.false_or]
      have : x ∈ n :: ns ↔ x ∈ ns := by
        constructor
        · intro z; rcases List.mem_cons.mp z with z | z
          · exact absurd z.symm h
          · exact z
        · exact List.mem_cons_of_mem _
      exact (decide_eq_decide.mpr this).symm
theorem goods_ints {k : Nat} : ∀ {ns : List Int}, goods k (ns.map PyData.int) = true
  | [] => by rw [List.map_nil, goods]
  | n :: ns => by
    rw [List.map_cons, goods, goods_ints (ns := ns)]
    cases k <;> rfl
theorem okEq_inT {x : Int} {ns : List Int} : okEq (.int x) (.tuple (ns.map .int)) = true := by
  show (good 60 (.int x) && good 60 (.tuple (ns.map .int))) = true
  rw [good, good, goods_ints]; rfl
theorem okEq_inL {x : Int} {ns : List Int} : okEq (.int x) (.list (ns.map .int)) = true := by
  show (good 60 (.int x) && good 60 (.list (ns.map .int))) = true
  rw [good, good, goods_ints]; rfl
theorem k_inT {x : Int} {ns : List Int} (h : Q (decide (x ∈ ns))) : WK .In (.int x) (.tuple (ns.map .int)) Q := by
  refine ⟨decide (x ∈ ns), ?_, h⟩
  show (if okEq (.int x) (.tuple (ns.map .int)) = true then some ((ns.map PyData.int).any fun z => PyData.eqv z (.int x)) else none) = _
  rw [if_pos okEq_inT, any_ints]
theorem k_inL {x : Int} {ns : List Int} (h : Q (decide (x ∈ ns))) : WK .In (.int x) (.list (ns.map .int)) Q := by
  refine ⟨decide (x ∈ ns), ?_, h⟩
  show (if okEq (.int x) (.list (ns.map .int)) = true then some ((ns.map PyData.int).any fun z => PyData.eqv z (.int x)) else none) = _
  rw [if_pos okEq_inL, any_ints]
theorem k_ninT {x : Int} {ns : List Int} (h : Q (!decide (x ∈ ns))) : WK .NotIn (.int x) (.tuple (ns.map .int)) Q := by
  refine ⟨!decide (x ∈ ns), ?_, h⟩
  show (if okEq (.int x) (.tuple (ns.map .int)) = true then some (!(ns.map PyData.int).any fun z => PyData.eqv z (.int x)) else none) = _
  rw [if_pos okEq_inT, any_ints]
theorem k_ninL {x : Int} {ns : List Int} (h : Q (!decide (x ∈ ns))) : WK .NotIn (.int x) (.list (ns.map .int)) Q := by
  refine ⟨!decide (x ∈ ns), ?_, h⟩
  show (if okEq (.int x) (.list (ns.map .int)) = true then some (!(ns.map PyData.int).any fun z => PyData.eqv z (.int x)) else none) = _
  rw [if_pos okEq_inL, any_ints]
end
section
variable {Q : D → Tg → Prop}
theorem f_lenL {xs : List D} (h : Q (.int xs.length) .fz) : WF .len [.list xs] Q := ⟨_, rfl, h⟩
theorem f_lenT {xs : List D} (h : Q (.int xs.length) .fz) : WF .len [.tuple xs] Q := ⟨_, rfl, h⟩
theorem boolsOf_map : ∀ {bs : List Bool}, boolsOf (bs.map .bool) = some bs
  | [] => rfl
  | b :: bs => by rw [List.map_cons, boolsOf, boolsOf_map]; rfl
theorem f_max2 {a b : Int} (h : Q (.int (if b > a then b else a)) .fz) : WF .max [.int a, .int b] Q := ⟨_, rfl, h⟩
theorem f_min2 {a b : Int} (h : Q (.int (if b < a then b else a)) .fz) : WF .min [.int a, .int b] Q := ⟨_, rfl, h⟩
theorem f_tupL {xs : List D} (h : Q (.tuple xs) .fz) : WF .tuple [.list xs] Q := ⟨_, rfl, h⟩
theorem f_tupT {xs : List D} (h : Q (.tuple xs) .fz) : WF .tuple [.tuple xs] Q := ⟨_, rfl, h⟩
theorem f_listL {xs : List D} (h : Q (.list xs) .fresh) : WF .list [.list xs] Q := ⟨_, rfl, h⟩
theorem f_listT {xs : List D} (h : Q (.list xs) .fresh) : WF .list [.tuple xs] Q := ⟨_, rfl, h⟩
theorem f_int {x : Int} (h : Q (.int x) .fz) : WF .int [.int x] Q := ⟨_, rfl, h⟩
theorem f_repr {d : D} (z : (good 60 d && d.showable && decide (d.shown.length ≤ sizeLine)) = true) (h : Q (.str d.shown) .fz) : WF .repr [d] Q := ⟨(.str d.shown, false), if_pos z, h⟩
end
theorem wi {x y d : D} {Q : D → Prop} (z : ixD x y = some d) (h : Q d) : WI x y Q := ⟨_, z, h⟩
theorem atI_in {xs : List D} {i : Int} {d : D} (h0 : 0 ≤ i) (h : xs[i.toNat]? = some d) : L2.atI xs i = some d := by
  have e1 := L2.atI_nat h
  have e2 : ((i.toNat : Nat) : Int) = i := by omega
  rw [e2] at e1; exact e1
theorem z_TT {xs ys : List D} {Q : List D → List D → Prop} (h : Q xs ys) : WZ (.tuple xs) (.tuple ys) Q := ⟨_, _, rfl, rfl, rfl, h⟩
theorem z_LL {xs ys : List D} {Q : List D → List D → Prop} (h : Q xs ys) : WZ (.list xs) (.list ys) Q := ⟨_, _, rfl, rfl, rfl, h⟩
theorem cutF {xs : List D} {k : Nat} : cutD xs (some (k : Int)) none = xs.drop k := by
  unfold cutD
  rw [HT.sIx_none, HT.sIx_nat]
  by_cases h : k ≤ xs.length
  · rw [Nat.min_eq_left h, List.take_of_length_le (by rw [List.length_drop]; exact Nat.le_refl _)]
  · rw [Nat.min_eq_right (by omega), List.drop_eq_nil_of_le (Nat.le_refl _), List.drop_eq_nil_of_le (by omega), List.take_nil]
theorem cutT {xs : List D} {k : Nat} : cutD xs none (some (k : Int)) = xs.take k := by
  unfold cutD
  rw [HT.sIx_none, HT.sIx_nat, List.drop_zero, Nat.sub_zero]
  by_cases h : k ≤ xs.length
  · rw [Nat.min_eq_left h]
  · rw [Nat.min_eq_right (by omega), List.take_length, List.take_of_length_le (by omega)]
theorem nat_of {k : Int} (z : decide (0 ≤ k) = true) : ((k.toNat : Nat) : Int) = k := by have := of_decide_eq_true z; omega
theorem slF_T {xs : List D} {k : Int} {Q : D → Tg → Prop} (z : decide (0 ≤ k) = true) (h : Q (.tuple (xs.drop k.toNat)) .fz) : WSl (.tuple xs) (some (.int k)) none Q := by
  refine ⟨(.tuple (xs.drop k.toNat), false), ?_, h⟩
  rw [← cutF, nat_of z]; rfl
theorem slT_T {xs : List D} {k : Int} {Q : D → Tg → Prop} (z : decide (0 ≤ k) = true) (h : Q (.tuple (xs.take k.toNat)) .fz) : WSl (.tuple xs) none (some (.int k)) Q := by
  refine ⟨(.tuple (xs.take k.toNat), false), ?_, h⟩
  rw [← cutT, nat_of z]; rfl
theorem slF_L {xs : List D} {k : Int} {Q : D → Tg → Prop} (z : decide (0 ≤ k) = true) (h : Q (.list (xs.drop k.toNat)) .fresh) : WSl (.list xs) (some (.int k)) none Q := by
  refine ⟨(.list (xs.drop k.toNat), true), ?_, h⟩
  rw [← cutF, nat_of z]; rfl
theorem slT_L {xs : List D} {k : Int} {Q : D → Tg → Prop} (z : decide (0 ≤ k) = true) (h : Q (.list (xs.take k.toNat)) .fresh) : WSl (.list xs) none (some (.int k)) Q := by
  refine ⟨(.list (xs.take k.toNat), true), ?_, h⟩
  rw [← cutT, nat_of z]; rfl
theorem wt_v {i : Nat} {s : S} {x : D} {Q : S → Prop} (z : decide (i < s.sl.length) = true) (h : Q (s.put i (x, false))) : WT (.v i) s x Q := ⟨_, if_pos (of_decide_eq_true z), h⟩
theorem wt {tg : Tr} {s sb : S} {x : D} {Q : S → Prop} (z : s.bindT tg x = some sb) (h : Q sb) : WT tg s x Q := ⟨_, z, h⟩
end Fs

set_option Elab.async false
set_option linter.all false
set_option maxRecDepth 100000
set_option maxHeartbeats 8000000
namespace Fs
open PySem L2
def flQ (N : S → Prop) (Q : Fl → S → Prop) : Fl → S → Prop
  | .nx, s => N s
  | .ret d fr, s => Q (.ret d fr) s
  | .brk, s => Q .brk s
  | .cont, s => Q .cont s
def loopQ (C N : S → Prop) (Q : Fl → S → Prop) : Fl → S → Prop
  | .nx, s => C s
  | .cont, s => C s
  | .brk, s => N s
  | .ret d fr, s => Q (.ret d fr) s
theorem W1.of {st : IS} {s s1 : S} {N : S → Prop} {Q : Fl → S → Prop} {f : Fl} (e : evalS st s = some (f, s1)) (h : flQ N Q f s1) : W1 st s N Q := by
  refine ⟨f, s1, e, ?_⟩
  cases f <;> exact h
theorem W1.out {st : IS} {s : S} {N : S → Prop} {Q : Fl → S → Prop} (h : W1 st s N Q) : ∃ f s1, evalS st s = some (f, s1) ∧ flQ N Q f s1 := by
  obtain ⟨f, s1, e, h⟩ := h
  refine ⟨f, s1, e, ?_⟩
  cases f <;> exact h
theorem WS.of {st : ISs} {s s1 : S} {N : S → Prop} {Q : Fl → S → Prop} {f : Fl} (e : evalSs st s = some (f, s1)) (h : flQ N Q f s1) : WS st s N Q := by
  refine ⟨f, s1, e, ?_⟩
  cases f <;> exact h
theorem WS.out {st : ISs} {s : S} {N : S → Prop} {Q : Fl → S → Prop} (h : WS st s N Q) : ∃ f s1, evalSs st s = some (f, s1) ∧ flQ N Q f s1 := by
  obtain ⟨f, s1, e, h⟩ := h
  refine ⟨f, s1, e, ?_⟩
  cases f <;> exact h
structure WLc (elt : IE) (tg : Tr) (ifs : IEs) (items : List D) (s : S) (Q : List D → S → Prop) : Prop where
  ex : ∃ ds s1, lcRun (evalAll ifs) (evalE elt) tg items s = some (ds, s1) ∧ Q ds s1
structure WFor (items : List D) (tg : Tr) (body : ISs) (s : S) (N : S → Prop) (Q : Fl → S → Prop) : Prop where
  ex : ∃ f s2, fGo tg (evalSs body) items s = some (f, s2) ∧ flQ N Q f s2
structure WRet (f : Fl) (K : D → Bool → Prop) : Prop where
  ex : ∃ d fr, f = .ret d fr ∧ K d fr
theorem wret {d : D} {fr : Bool} {K : D → Bool → Prop} (h : K d fr) : WRet (.ret d fr) K := ⟨_, _, rfl, h⟩
def rfr (t : Tg) (s : S) : Bool := match t with | .fz => false | .fresh => true | .slot i => match rd s i with | some (_, true) => true | _ => false
section
variable {s : S} {N : S → Prop} {Q : Fl → S → Prop} {e c k elt : IE} {es ifs : IEs} {i j n : Nat} {tg : Tr} {src : Sr} {x y body : ISs} {st : IS}
theorem ws_nil (h : N s) : WS .nil s N Q := .of ss_nil h
theorem ws_cons {ss : ISs} (h : W1 st s (fun s1 => WS ss s1 N Q) Q) : WS (.cons st ss) s N Q := by
  obtain ⟨f, s1, e, h⟩ := h.out
  cases f with
  | nx =>
    obtain ⟨f2, s2, e2, h⟩ := WS.out (show WS ss s1 N Q from h)
    exact .of (ss_cons e e2) h
  | ret d fr => exact .of (ss_end e) h
  | brk => exact .of (f := .brk) (s1 := s1) (by rw [evalSs, e]; rfl) h
  | cont => exact .of (f := .cont) (s1 := s1) (by rw [evalSs, e]; rfl) h
theorem w1_set (h : WE e s fun d t s1 => decide (i < s1.sl.length) = true ∧ N ((s1.keep t).put i (d, t.own))) : W1 (.set i e) s N Q := by
  obtain ⟨d, t, s1, e1, z, h⟩ := h
  exact .of (st_set e1 z) h
theorem w1_setLc (h : WR src s fun items _ s1 => WLc elt tg ifs items s1 fun ds s2 => decide (i < s2.sl.length) = true ∧ N (s2.put i (.list ds, true))) : W1 (.setLc i elt tg src ifs) s N Q := by
  obtain ⟨items, t, s1, e1, ⟨ds, s2, e2, z, h⟩⟩ := h
  refine .of (f := .nx) ?_ h
  rw [evalS, e1]; show (lcRun (evalAll ifs) (evalE elt) tg items s1 >>= _) = _
  rw [e2]; show (if i < s2.sl.length then _ else _) = _
  rw [if_pos (of_decide_eq_true z)]
theorem w1_setT {is : List Nat} (h : WE e s fun d _ s1 => WT (.t is) s1 d N) : W1 (.setT is e) s N Q := by
  obtain ⟨d, t, s1, e1, ⟨sb, e2, h⟩⟩ := h
  exact .of (st_setT e1 e2) h
theorem w1_set2 {is : List Nat} (h : WL es s fun ds ts s1 => (decide (is.length = ds.length) && (is.all fun i => decide (i < s1.sl.length))) = true ∧ N ((s1.keeps ts).puts is (ds.zip ts))) : W1 (.set2 is es) s N Q := by
  obtain ⟨xs, s1, e1, z, h⟩ := h
  rw [Bool.and_eq_true, decide_eq_true_iff, List.length_map] at z
  rw [show (xs.map (·.1)).zip (xs.map (·.2)) = xs by rw [List.zip_map']; simp] at h
  exact .of (st_set2 e1 z) h
theorem w1_ins {d0 : D} {kx : IE} (h0 : rd s i = some (d0, true)) (h : WE kx s fun kd _ s0 => WE e s0 fun d t s1 => ∃ xs n, rd (s1.keep t) i = some (.list xs, true) ∧ kd = .int n ∧ (xs.length < sizeLine ∧ 0 ≤ n ∧ n < 2 ^ 63) ∧ N ((s1.keep t).put i (.list (xs.take n.toNat ++ [d] ++ xs.drop n.toNat), true))) : W1 (.ins i kx e) s N Q := by
  obtain ⟨kd, tk, s0, ek, ⟨d, t, s1, e1, xs, n, h1, rfl, h2, h⟩⟩ := h
  refine .of (f := .nx) ?_ h
  rw [evalS, h0]
  show (evalE kx s >>= _) = _
  rw [ek]
  show (evalE e s0 >>= _) = _
  rw [e1]
  show (match true, rd (s1.keep t) i, (PyData.int n) with
    | true, some (.list xs, true), .int n => if xs.length < sizeLine ∧ 0 ≤ n ∧ n < 2 ^ 63 then some (Fl.nx, (s1.keep t).put i (.list (xs.take n.toNat ++ [d] ++ xs.drop n.toNat), true)) else none
    | _, _, _ => none) = _
  rw [h1]
  show (if xs.length < sizeLine ∧ 0 ≤ n ∧ n < 2 ^ 63 then _ else _) = _
  rw [if_pos h2]
theorem w1_app {d0 : D} (h0 : rd s i = some (d0, true)) (h : WE e s fun d t s1 => ∃ xs, rd (s1.keep t) i = some (.list xs, true) ∧ xs.length < sizeLine ∧ N ((s1.keep t).put i (.list (xs ++ [d]), true))) : W1 (.app i e) s N Q := by
  obtain ⟨d, t, s1, e1, xs, h1, h2, h⟩ := h
  exact .of (st_app h0 e1 h1 h2) h
theorem w1_ext {d0 : D} (h0 : rd s i = some (d0, true)) (h : WE e s fun d t s1 => ∃ xs ys, d = .list ys ∧ rd (s1.keep t) i = some (.list xs, true) ∧ xs.length + ys.length ≤ sizeLine ∧ N ((s1.keep t).put i (.list (xs ++ ys), true))) : W1 (.ext i e) s N Q := by
  obtain ⟨d, t, s1, e1, xs, ys, rfl, h1, h2, h⟩ := h
  refine .of (f := .nx) ?_ h
  rw [evalS, h0]; show (evalE e s >>= _) = _
  rw [e1]
  show (match true, rd (s1.keep t) i, (PyData.list ys) with
    | true, some (.list xs, true), .list ys => if xs.length + ys.length ≤ sizeLine then some (Fl.nx, (s1.keep t).put i (.list (xs ++ ys), true)) else none
    | _, _, _ => none) = _
  rw [h1]; show (if xs.length + ys.length ≤ sizeLine then _ else _) = _
  rw [if_pos h2]
theorem w1_rev {xs : List D} (h0 : rd s i = some (.list xs, true)) (h : N (s.put i (.list xs.reverse, true))) : W1 (.rev i) s N Q := .of (f := .nx) (by rw [evalS, h0]) h
theorem w1_expr (h : WE e s fun _ _ s1 => N s1) : W1 (.expr e) s N Q := by
  obtain ⟨d, t, s1, e1, h⟩ := h
  exact .of (f := .nx) (by rw [evalS, e1]; rfl) h
theorem w1_ite (h : WB c s fun b s1 => (b = true → WS x s1 N Q) ∧ (b = false → WS y s1 N Q)) : W1 (.ite c x y) s N Q := by
  obtain ⟨b, s1, e1, hT, hF⟩ := h
  cases b with
  | true => obtain ⟨f, s2, e2, h⟩ := (hT rfl).out; exact .of (st_iteT e1 e2) h
  | false => obtain ⟨f, s2, e2, h⟩ := (hF rfl).out; exact .of (st_iteF e1 e2) h
theorem w1_iteT (h : WB c s fun b s1 => b = true ∧ WS x s1 N Q) : W1 (.ite c x y) s N Q := by
  obtain ⟨b, s1, e1, rfl, h⟩ := h
  exact w1_ite ⟨_, _, e1, fun _ => h, fun z => by cases z⟩
theorem w1_iteF (h : WB c s fun b s1 => b = false ∧ WS y s1 N Q) : W1 (.ite c x y) s N Q := by
  obtain ⟨b, s1, e1, rfl, h⟩ := h
  exact w1_ite ⟨_, _, e1, fun z => by (cases z), fun _ => h⟩
theorem wb_orT {Q : Bool → S → Prop} {e2 : IE} (h : WB e s fun k s1 => k = true ∧ Q true s1) : WB (.or (.cons e (.cons e2 es))) s Q := by
  obtain ⟨b, s1, e1, rfl, h⟩ := h
  exact wb_or ⟨_, _, e1, fun _ => h, fun z => by (cases z)⟩
theorem wb_orF {Q : Bool → S → Prop} {e2 : IE} (h : WB e s fun k s1 => k = false ∧ WB (.or (.cons e2 es)) s1 Q) : WB (.or (.cons e (.cons e2 es))) s Q := by
  obtain ⟨b, s1, e1, rfl, h⟩ := h
  exact wb_or ⟨_, _, e1, fun z => by (cases z), fun _ => h⟩
theorem wb_andF {Q : Bool → S → Prop} {e2 : IE} (h : WB e s fun k s1 => k = false ∧ Q false s1) : WB (.and (.cons e (.cons e2 es))) s Q := by
  obtain ⟨b, s1, e1, rfl, h⟩ := h
  exact wb_and ⟨_, _, e1, fun z => by (cases z), fun _ => h⟩
theorem w1_ret (h : WE e s fun d t s1 => Q (.ret d (rfr t s1)) s1) : W1 (.ret e) s N Q := by
  obtain ⟨d, t, s1, e1, h⟩ := h
  exact .of (f := .ret d (rfr t s1)) (by rw [evalS, e1]; rfl) h
theorem w1_retN (h : Q (.ret .none false) s) : W1 .retN s N Q := .of (f := .ret .none false) (by rw [evalS]) h
theorem w1_pass (h : N s) : W1 .pass s N Q := .of (f := .nx) (by rw [evalS]) h
theorem w1_brk (h : Q .brk s) : W1 .brk s N Q := .of (f := .brk) (by rw [evalS]) h
theorem w1_cont (h : Q .cont s) : W1 .cont s N Q := .of (f := .cont) (by rw [evalS]) h
theorem fGo_w (P : Nat → S → Prop) : ∀ (items : List D) (j : Nat) (s : S), P j s →
    (∀ i x s, items[i]? = some x → P (j + i) s → WT tg s x fun sb => WS body sb (P (j + i + 1)) (loopQ (P (j + i + 1)) N Q)) → (∀ s, P (j + items.length) s → N s) → ∃ f s2, fGo tg (evalSs body) items s = some (f, s2) ∧ flQ N Q f s2
  | [], j, s, h, _, fin => ⟨.nx, s, by rw [fGo], fin s h⟩
  | z :: zs, j, s, h, step, fin => by
    obtain ⟨sb, e1, h1⟩ := step 0 z s rfl h
    obtain ⟨f, s', e2, h1⟩ := h1.out
    have go : P (j + 1) s' → ∃ f s2, fGo tg (evalSs body) zs s' = some (f, s2) ∧ flQ N Q f s2 := fun hp =>
      fGo_w P zs (j + 1) s' hp (fun i y s hy hp => by
        have q := step (i + 1) y s hy (by rw [show j + (i + 1) = j + 1 + i by omega]; exact hp)
        rw [show j + (i + 1) + 1 = j + 1 + i + 1 by omega] at q
        exact q) (fun s hp => fin s (by rw [List.length_cons, show j + (zs.length + 1) = j + 1 + zs.length by omega]; exact hp))
    rw [fGo, e1]
    show ∃ f s2, (evalSs body sb >>= _) = _ ∧ _
    rw [e2]
    cases f with
    | nx => exact go h1
    | cont => exact go h1
    | brk => exact ⟨.nx, s', rfl, h1⟩
    | ret d fr => exact ⟨.ret d fr, s', rfl, h1⟩
theorem w1_for (h : WR src s fun items t s1 => WFor items tg body (s1.keep t) N Q) : W1 (.for tg src body) s N Q := by
  obtain ⟨items, t, s1, e1, ⟨f, s2, e2, h⟩⟩ := h
  refine .of ?_ h
  rw [evalS, e1]; exact e2
theorem wfor {items : List D} (P : Nat → S → Prop) (h0 : P 0 s) (step : ∀ i x s, items[i]? = some x → P i s → WT tg s x fun sb => WS body sb (P (i + 1)) (loopQ (P (i + 1)) N Q)) (fin : ∀ s, P items.length s → N s) : WFor items tg body s N Q :=
  ⟨fGo_w (N := N) (Q := Q) P items 0 s h0 (fun i x s hx hp => by
    have q := step i x s hx (by simpa using hp)
    simpa using q) (fun s hp => fin s (by simpa using hp))⟩
/-- over the numbers below m -/
theorem wfor_rng {m : Int} (P : Nat → S → Prop) (h0 : P 0 s) (step : ∀ (i : Nat) s, (i : Int) < m → P i s → WT tg s (.int (i : Nat)) fun sb => WS body sb (P (i + 1)) (loopQ (P (i + 1)) N Q)) (fin : ∀ s, P m.toNat s → N s) :
    WFor ((List.range m.toNat).map fun i => .int (i : Nat)) tg body s N Q := by
  refine wfor P h0 (fun i x s hx hp => ?_) fun s hp => fin s (by simpa using hp)
  have hi : i < m.toNat := by simpa using (List.getElem?_eq_some_iff.mp hx).1
  rw [List.getElem?_map, List.getElem?_range hi] at hx
  cases hx
  exact step i s (by omega) hp
/-- over typed items -/
theorem wfor_M {α : Type} {xs : List α} {g : α → D} {items : List D} (P : Nat → S → Prop) (he : items = xs.map g) (h0 : P 0 s) (step : ∀ i y s, xs[i]? = some y → P i s → WT tg s (g y) fun sb => WS body sb (P (i + 1)) (loopQ (P (i + 1)) N Q)) (fin : ∀ s, P xs.length s → N s) :
    WFor items tg body s N Q := by
  subst he
  refine wfor P h0 (fun i x s hx hp => ?_) fun s hp => fin s (by simpa using hp)
  rw [List.getElem?_map] at hx
  obtain ⟨y, hy, rfl⟩ := Option.map_eq_some_iff.mp hx
  exact step i y s hy hp
/-- over numbered typed items -/
theorem wfor_E {α : Type} {xs : List α} {g : α → D} {items : List D} (P : Nat → S → Prop) (he : items = (xs.map g).zipIdx.map (fun p => .tuple [.int (p.2 : Nat), p.1])) (h0 : P 0 s) (step : ∀ i y s, xs[i]? = some y → P i s → WT tg s (.tuple [.int (i : Nat), g y]) fun sb => WS body sb (P (i + 1)) (loopQ (P (i + 1)) N Q)) (fin : ∀ s, P xs.length s → N s) :
    WFor items tg body s N Q := by
  subst he
  refine wfor P h0 (fun i x s hx hp => ?_) fun s hp => fin s (by simpa using hp)
  rw [List.getElem?_map] at hx
  obtain ⟨⟨z, m⟩, hy, rfl⟩ := Option.map_eq_some_iff.mp hx
  rw [List.getElem?_zipIdx, List.getElem?_map] at hy
  cases hz : xs[i]? with
  | none => rw [hz] at hy; cases hy
  | some y =>
    rw [hz] at hy
    cases hy
    simp only [Nat.zero_add]
    exact step i y s hz hp
end
section
variable {s : S} {e elt : IE} {ifs : IEs} {tg : Tr} {src : Sr}
theorem w_lc {Q : D → Tg → S → Prop} (h : WR src s fun items _ s1 => WLc elt tg ifs items s1 fun ds s2 => Q (.list ds) .fresh s2) : WE (.lc elt tg src ifs) s Q := by
  obtain ⟨items, t, s1, e1, ⟨ds, s2, e2, h⟩⟩ := h
  refine ⟨_, _, _, ?_, h⟩
  rw [evalE, e1]; show (lcRun (evalAll ifs) (evalE elt) tg items s1 >>= _) = _
  rw [e2]; rfl
theorem wlc_inv {items : List D} {Q : List D → S → Prop} (P : Nat → List D → S → Prop) (un : s.unowned tg.slots = true) (hl : items.length ≤ sizeLine) (h0 : P 0 [] (s.wipe tg.slots))
    (step : ∀ i x acc s, items[i]? = some x → P i acc s → WT tg s x fun sb => WAl ifs sb fun b s1 => (b = true → WE elt s1 fun d t s2 => P (i + 1) (acc ++ [d]) ((s2.keep t).wipe tg.slots)) ∧ (b = false → P (i + 1) acc (s1.wipe tg.slots)))
    (fin : ∀ ds s', P items.length ds s' → Q ds (s'.restore s tg.slots)) : WLc elt tg ifs items s Q := by
  obtain ⟨ds, s2, e, h⟩ := lcGo_by (fi := evalAll ifs) (fe := evalE elt) (tg := tg) P items 0 [] (s.wipe tg.slots) h0 fun i x acc s hx hp => by
    obtain ⟨sb, e1, ⟨b, s1, e2, hT, hF⟩⟩ := step i x acc s hx (by simpa using hp)
    refine ⟨sb, b, s1, e1, e2, fun z => by simpa using hF z, fun z => ?_⟩
    obtain ⟨d, t, sd, e3, q⟩ := hT z
    exact ⟨d, t, sd, e3, by simpa using q⟩
  refine ⟨ds, _, ?_, fin ds s2 (by simpa using h)⟩
  unfold lcRun
  rw [if_pos ⟨un, hl⟩, e]; rfl
/-- nothing is drawn: a filter and a map -/
theorem wlc_map {α : Type} {xs : List α} {g : α → D} {p : α → Bool} {f : α → D} {items : List D} {Q : List D → S → Prop} (he : items = xs.map g) (un : s.unowned tg.slots = true) (hl : xs.length ≤ sizeLine)
    (step : ∀ x, x ∈ xs → WT tg (s.wipe tg.slots) (g x) fun sb => WAl ifs sb fun b s1 => b = p x ∧ (b = true → WE elt s1 fun d t s2 => d = f x ∧ (s2.keep t).wipe tg.slots = s.wipe tg.slots) ∧ (b = false → s1.wipe tg.slots = s.wipe tg.slots))
    (res : (s.wipe tg.slots).restore s tg.slots = s) (q : Q ((xs.filter p).map f) s) : WLc elt tg ifs items s Q := by
  subst he
  refine wlc_inv (fun i acc s' => acc = ((xs.take i).filter p).map f ∧ s' = s.wipe tg.slots) un (by simpa using hl) ⟨by simp, rfl⟩ ?_ ?_
  · rintro i x acc s' hx ⟨rfl, rfl⟩
    rw [List.getElem?_map] at hx
    obtain ⟨y, hy, rfl⟩ := Option.map_eq_some_iff.mp hx
    obtain ⟨hlt, hy'⟩ := List.getElem?_eq_some_iff.mp hy
    obtain ⟨sb, e1, ⟨b, s1, e2, hb, hT, hF⟩⟩ := step y (List.mem_of_getElem? hy)
    have ht : xs.take (i + 1) = xs.take i ++ [y] := by rw [List.take_add_one, hy]; rfl
    refine ⟨sb, e1, ⟨b, s1, e2, fun z => ?_, fun z => ?_⟩⟩
    · obtain ⟨d, t, s2, e3, rfl, e4⟩ := hT z
      refine ⟨_, t, s2, e3, ?_, e4⟩
      rw [ht, List.filter_append, List.map_append, List.filter_cons_of_pos (by rw [← hb, z])]; rfl
    · refine ⟨?_, hF z⟩
      rw [ht, List.filter_append, List.map_append, List.filter_cons_of_neg (by rw [← hb, z]; decide)]; simp
  · rintro ds s' ⟨rfl, rfl⟩
    rw [List.length_map, List.take_length, res]; exact q
theorem wlc_all {α : Type} {xs : List α} {g : α → D} {f : α → D} {items : List D} {Q : List D → S → Prop} (he : items = xs.map g) (un : s.unowned tg.slots = true) (hl : xs.length ≤ sizeLine)
    (step : ∀ x, x ∈ xs → WT tg (s.wipe tg.slots) (g x) fun sb => WE elt sb fun d t s2 => d = f x ∧ (s2.keep t).wipe tg.slots = s.wipe tg.slots)
    (res : (s.wipe tg.slots).restore s tg.slots = s) (q : Q (xs.map f) s) : WLc elt tg .nil items s Q := by
  refine wlc_map (p := fun _ => true) (f := f) he un hl (fun x hx => ?_) res (by rw [List.filter_eq_self.mpr (fun _ _ => rfl)]; exact q)
  obtain ⟨sb, e1, h⟩ := step x hx
  exact ⟨sb, e1, wal_nil ⟨rfl, fun _ => h, fun z => by cases z⟩⟩
end
theorem it_id {xs : List D} : xs = xs.map fun x => x := (List.map_id' _).symm
theorem it_enum {α : Type} {xs : List α} {g : α → D} : (xs.map g).zipIdx.map (fun p => PyData.tuple [.int (p.2 : Nat), p.1]) = xs.zipIdx.map fun p => .tuple [.int (p.2 : Nat), g p.1] := by
  rw [List.zipIdx_map, List.map_map]; rfl
theorem f_allM {α : Type} {xs : List α} {p : α → Bool} {Q : D → Tg → Prop} (h : Q (.bool (xs.all p)) .fz) : WF .all [.list (xs.map fun x => .bool (p x))] Q :=
  ⟨(.bool (xs.all p), false), by
    show (boolsOf _).map _ = _
    rw [show (xs.map fun x => PyData.bool (p x)) = (xs.map p).map .bool by rw [List.map_map]; rfl, boolsOf_map]
    show some (PyData.bool ((xs.map p).all id), false) = _
    rw [List.all_map]; rfl, h⟩
theorem f_anyM {α : Type} {xs : List α} {p : α → Bool} {Q : D → Tg → Prop} (h : Q (.bool (xs.any p)) .fz) : WF .any [.list (xs.map fun x => .bool (p x))] Q :=
  ⟨(.bool (xs.any p), false), by
    show (boolsOf _).map _ = _
    rw [show (xs.map fun x => PyData.bool (p x)) = (xs.map p).map .bool by rw [List.map_map]; rfl, boolsOf_map]
    show some (PyData.bool ((xs.map p).any id), false) = _
    rw [List.any_map]; rfl, h⟩
theorem f_sumM {α : Type} {xs : List α} {p : α → Int} {Q : D → Tg → Prop} (h : Q (.int (xs.map p).sum) .fz) : WF .sum [.list (xs.map fun x => .int (p x))] Q :=
  ⟨(.int (xs.map p).sum, false), by
    show (intsOf _).map _ = _
    rw [show (xs.map fun x => PyData.int (p x)) = (xs.map p).map .int by rw [List.map_map]; rfl, intsOf_map]; rfl, h⟩
theorem f_rev1T {xs : List D} {Q : D → Tg → Prop} (h : Q (.tuple xs.reverse) .fz) : WF .rev1 [.tuple xs] Q := ⟨_, rfl, h⟩
theorem f_rev1L {xs : List D} {Q : D → Tg → Prop} (h : Q (.list xs.reverse) .fresh) : WF .rev1 [.list xs] Q := ⟨_, rfl, h⟩
theorem f_stp {xs : List D} {y : D} {Q : D → Tg → Prop} (z : xs.length ≤ 1000) (hy : hardD y = true) (h : Q (.tuple (xs ++ [y])) .fz) : WF .stp [.tuple xs, y] Q :=
  ⟨(.tuple (xs ++ [y]), false), by show (if (hardD y && decide (xs.length ≤ 1000)) = true then _ else _) = _; rw [hy, decide_eq_true z]; rfl, h⟩
theorem goods_of {n : Nat} : ∀ {xs : List D}, (∀ x ∈ xs, good n x = true) → goods n xs = true
  | [], _ => by rw [goods]
  | y :: ys, h => by rw [goods, h y (List.mem_cons_self ..), goods_of fun x m => h x (List.mem_cons_of_mem _ m)]; rfl
theorem nodict {kv : List (D × D)} (g : good 60 (.dict kv) = true) : False := by simp [good] at g
theorem wi_atT {xs : List D} {k : Int} {d : D} {Q : D → Prop} (z : decide (0 ≤ k) = true) (e : xs[k.toNat]? = some d) (h : Q d) : WI (.tuple xs) (.int k) Q := ⟨d, atI_in (of_decide_eq_true z) e, h⟩
theorem wi_atL {xs : List D} {k : Int} {d : D} {Q : D → Prop} (z : decide (0 ≤ k) = true) (e : xs[k.toNat]? = some d) (h : Q d) : WI (.list xs) (.int k) Q := ⟨d, atI_in (of_decide_eq_true z) e, h⟩
theorem wt_t2 {i j : Nat} {s : S} {x y : D} {Q : S → Prop} (z : (decide (i < s.sl.length) && decide (j < s.sl.length)) = true) (h : Q ((s.put i (x, false)).put j (y, false))) : WT (.t [i, j]) s (.tuple [x, y]) Q := by
  simp only [Bool.and_eq_true, decide_eq_true_eq] at z
  exact ⟨_, if_pos ⟨rfl, by simp [z]⟩, h⟩
theorem wt_t3 {i j k : Nat} {s : S} {x y w : D} {Q : S → Prop} (z : (decide (i < s.sl.length) && decide (j < s.sl.length) && decide (k < s.sl.length)) = true) (h : Q (((s.put i (x, false)).put j (y, false)).put k (w, false))) : WT (.t [i, j, k]) s (.tuple [x, y, w]) Q := by
  simp only [Bool.and_eq_true, decide_eq_true_eq] at z
  exact ⟨_, if_pos ⟨rfl, by simp [z]⟩, h⟩
theorem wt_t4 {i j k l : Nat} {s : S} {x y w u : D} {Q : S → Prop} (z : (decide (i < s.sl.length) && decide (j < s.sl.length) && decide (k < s.sl.length) && decide (l < s.sl.length)) = true) (h : Q ((((s.put i (x, false)).put j (y, false)).put k (w, false)).put l (u, false))) : WT (.t [i, j, k, l]) s (.tuple [x, y, w, u]) Q := by
  simp only [Bool.and_eq_true, decide_eq_true_eq] at z
  exact ⟨_, if_pos ⟨rfl, by simp [z]⟩, h⟩
theorem wt_t5 {i j k l m : Nat} {s : S} {x y w u v : D} {Q : S → Prop} (z : (decide (i < s.sl.length) && decide (j < s.sl.length) && decide (k < s.sl.length) && decide (l < s.sl.length) && decide (m < s.sl.length)) = true) (h : Q (((((s.put i (x, false)).put j (y, false)).put k (w, false)).put l (u, false)).put m (v, false))) : WT (.t [i, j, k, l, m]) s (.tuple [x, y, w, u, v]) Q := by
  simp only [Bool.and_eq_true, decide_eq_true_eq] at z
  exact ⟨_, if_pos ⟨rfl, by simp [z]⟩, h⟩
/-- no dict within, not too deep, no long lists -/
def okLen (xs : List D) : Bool := decide (xs.length ≤ 1000000)
mutual
def tame : Nat → D → Bool
  | _, .none => true
  | _, .bool _ => true
  | _, .int _ => true
  | _, .str x => PyData.strOk x
  | n + 1, .list xs => okLen xs && tames n xs
  | n + 1, .tuple xs => okLen xs && tames n xs
  | _, _ => false
def tames : Nat → List D → Bool
  | _, [] => true
  | n, x :: xs => tame n x && tames n xs
end
theorem tame_good : ∀ n : Nat, (∀ d : D, tame n d = true → good n d = true) ∧ ∀ ds : List D, tames n ds = true → goods n ds = true := by
  intro n
  induction n with
  | zero =>
    have h1 : ∀ d : D, tame 0 d = true → good 0 d = true := fun d => by cases d <;> simp [good, tame]
    refine ⟨h1, fun ds => ?_⟩
    induction ds with
    | nil => simp [goods]
    | cons d ds ih => rw [tames, goods, Bool.and_eq_true, Bool.and_eq_true]; exact fun z => ⟨h1 d z.1, ih z.2⟩
  | succ n ih =>
    have h1 : ∀ d : D, tame (n + 1) d = true → good (n + 1) d = true := fun d => by
      cases d with
      | list xs => rw [good, tame, Bool.and_eq_true]; exact fun z => ih.2 xs z.2
      | tuple xs => rw [good, tame, Bool.and_eq_true]; exact fun z => ih.2 xs z.2
      | _ => simp [good, tame]
    refine ⟨h1, fun ds => ?_⟩
    induction ds with
    | nil => simp [goods]
    | cons d ds ih => rw [tames, goods, Bool.and_eq_true, Bool.and_eq_true]; exact fun z => ⟨h1 d z.1, ih z.2⟩
theorem tame_up : ∀ n : Nat, (∀ d : D, tame n d = true → tame (n + 1) d = true) ∧ ∀ ds : List D, tames n ds = true → tames (n + 1) ds = true := by
  intro n
  induction n with
  | zero =>
    have h1 : ∀ d : D, tame 0 d = true → tame 1 d = true := fun d => by cases d <;> simp [tame]
    refine ⟨h1, fun ds => ?_⟩
    induction ds with
    | nil => simp [tames]
    | cons d ds ih => rw [tames, tames, Bool.and_eq_true, Bool.and_eq_true]; exact fun z => ⟨h1 d z.1, ih z.2⟩
  | succ n ih =>
    have h1 : ∀ d : D, tame (n + 1) d = true → tame (n + 2) d = true := fun d => by
      cases d with
      | list xs => rw [tame, tame, Bool.and_eq_true, Bool.and_eq_true]; exact fun z => ⟨z.1, ih.2 xs z.2⟩
      | tuple xs => rw [tame, tame, Bool.and_eq_true, Bool.and_eq_true]; exact fun z => ⟨z.1, ih.2 xs z.2⟩
      | _ => simp [tame]
    refine ⟨h1, fun ds => ?_⟩
    induction ds with
    | nil => simp [tames]
    | cons d ds ih => rw [tames, tames, Bool.and_eq_true, Bool.and_eq_true]; exact fun z => ⟨h1 d z.1, ih z.2⟩
theorem tame_le {n m : Nat} (h : n ≤ m) {d : D} (z : tame n d = true) : tame m d = true := by
  induction h with
  | refl => exact z
  | step _ ih => exact (tame_up _).1 d ih
theorem tames_mem {n : Nat} {x : D} : ∀ {xs : List D}, tames n xs = true → x ∈ xs → tame n x = true
  | y :: ys, h, m => by
    rw [tames, Bool.and_eq_true] at h
    rcases List.mem_cons.mp m with rfl | m
    · exact h.1
    · exact tames_mem h.2 m
theorem tames_of {n : Nat} : ∀ {xs : List D}, (∀ x ∈ xs, tame n x = true) → tames n xs = true
  | [], _ => by rw [tames]
  | y :: ys, h => by rw [tames, h y (List.mem_cons_self ..), tames_of fun x m => h x (List.mem_cons_of_mem _ m)]; rfl
/-- fit for the looks: tame to a depth of 60 -/
structure Tm (d : D) : Prop where
  is : tame 60 d = true
theorem Tm.gd {d : D} (h : Tm d) : good 60 d = true := (tame_good 60).1 d h.is
theorem Tm.tup {vs : List D} {x : D} (g : Tm (.tuple vs)) (m : x ∈ vs) : Tm x := by
  have := g.is
  rw [tame, Bool.and_eq_true] at this
  exact ⟨(tame_up 59).1 x (tames_mem this.2 m)⟩
theorem Tm.lst {vs : List D} {x : D} (g : Tm (.list vs)) (m : x ∈ vs) : Tm x := by
  have := g.is
  rw [tame, Bool.and_eq_true] at this
  exact ⟨(tame_up 59).1 x (tames_mem this.2 m)⟩
theorem Tm.lenT {vs : List D} (g : Tm (.tuple vs)) : vs.length ≤ 1000000 := by
  have := g.is
  rw [tame, Bool.and_eq_true] at this
  exact of_decide_eq_true this.1
theorem Tm.nodict {kv : List (D × D)} (g : Tm (.dict kv)) : False := by have := g.is; simp [tame] at this
theorem Tm.int {i : Int} : Tm (.int i) := ⟨by simp [tame]⟩
theorem Tm.none : Tm .none := ⟨by simp [tame]⟩
theorem Tm.bool {b : Bool} : Tm (.bool b) := ⟨by simp [tame]⟩
theorem lenOk {n : Nat} (h : n ≤ 1000000) : n ≤ sizeLine := by rw [sizeL]; omega
theorem w_run {m : Nat} {ir : ISs} {ds : List D} {pn : Option Pn} {Q : D → Bool → Option Pn → Prop} (h : WS ir (start m ds pn) (fun s => Q .none false s.pn) (fun f s => WRet f fun d fr => Q d fr s.pn)) : WC (runF m ir) ds pn Q := by
  obtain ⟨f, s1, e, h⟩ := h.out
  unfold runF
  cases f with
  | nx => exact ⟨_, _, _, by rw [e]; rfl, h⟩
  | ret d fr =>
    obtain ⟨d', fr', z, h⟩ := h
    cases z
    exact ⟨_, _, _, by rw [e]; rfl, h⟩
  | brk => obtain ⟨d', fr', z, h⟩ := h; cases z
  | cont => obtain ⟨d', fr', z, h⟩ := h; cases z
theorem WC.mono {F : Fn} {ds : List D} {pn : Option Pn} {Q R : D → Bool → Option Pn → Prop} (h : WC F ds pn Q) (z : ∀ d fr p, Q d fr p → R d fr p) : WC F ds pn R := by
  obtain ⟨d, fr, p, e, h⟩ := h
  exact ⟨d, fr, p, e, z _ _ _ h⟩
theorem WC.eq {F : Fn} {ds : List D} {pn p1 : Option Pn} {d : D} {fr : Bool} (h : WC F ds pn fun d' fr' p' => d' = d ∧ fr' = fr ∧ p' = p1) : F ds pn = some ((d, fr), p1) := by
  obtain ⟨d, fr, p, e, rfl, rfl, rfl⟩ := h
  exact e
theorem take_n {n : Int} {p : Pn} (h : 0 < n ∧ n < 1073741824) (ha : 0 ≤ p.a ∧ p.a < 1073741824) : ∃ r p', takeF n p = some (r, p') ∧ 0 ≤ r ∧ r < n ∧ p.a ≤ p'.a ∧ p'.a ≤ p.a + 1 := by
  have c : 0 < n ∧ n < 1073741824 ∧ 0 ≤ p.a ∧ p.a < 1073741824 := ⟨h.1, h.2, ha.1, ha.2⟩
  by_cases hr : p.r < n
  · refine ⟨spreadF (cellF p) p.a % n, ⟨p.cells, p.a + 1, spreadF (cellF p) p.a / n⟩, ?_, Int.emod_nonneg _ (by omega), Int.emod_lt_of_pos _ h.1, by show p.a ≤ p.a + 1; omega, by show p.a + 1 ≤ p.a + 1; omega⟩
    unfold takeF
    rw [if_pos c, if_pos hr]
  · refine ⟨p.r % n, ⟨p.cells, p.a, p.r / n⟩, ?_, Int.emod_nonneg _ (by omega), Int.emod_lt_of_pos _ h.1, by show p.a ≤ p.a; omega, by show p.a ≤ p.a + 1; omega⟩
    unfold takeF
    rw [if_pos c, if_neg hr]
theorem c_take {n : Int} {p : Pn} {Q : D → Bool → Option Pn → Prop} (h : 0 < n ∧ n < 1073741824) (ha : 0 ≤ p.a ∧ p.a < 1073741824) (k : ∀ r p', 0 ≤ r → r < n → p.a ≤ p'.a → p'.a ≤ p.a + 1 → Q (.int r) false (some p')) : WC FTake [.dict [], .int n] (some p) Q := by
  obtain ⟨r, p', e, h1, h2, h3, h4⟩ := take_n h ha
  refine ⟨.int r, false, some p', ?_, k r p' h1 h2 h3 h4⟩
  show (takeF n p).map _ = _
  rw [e]; rfl
theorem c_anew {p : Pn} {Q : D → Bool → Option Pn → Prop} (k : ∀ p' : Pn, p'.a = p.a → Q (.dict []) false (some p')) : WC FAnew [.dict []] (some p) Q := ⟨.dict [], false, some ⟨p.cells, p.a, 0⟩, rfl, k _ rfl⟩
theorem o_one {y : D} {ys : List D} {p : Pn} {Q : D → Option Pn → Prop} (hy : itemsD y = some ys) (h : 0 < ys.length ∧ ys.length < 1073741824) (ha : 0 ≤ p.a ∧ p.a < 1073741824) (k : ∀ d p', d ∈ ys → p.a ≤ p'.a → p'.a ≤ p.a + 1 → Q d (some p')) : W1n (.dict []) y (some p) Q := by
  obtain ⟨r, p', e, h1, h2, h3, h4⟩ := take_n (n := ys.length) (p := p) (by omega) ha
  have hr : r.toNat < ys.length := by omega
  refine ⟨ys[r.toNat], some p', ?_, k _ p' (List.getElem_mem hr) h3 h4⟩
  show (itemsD y).bind _ = _
  rw [hy]
  show (takeF ys.length p).bind _ = _
  rw [e]
  show (ys[r.toNat]?).map _ = _
  rw [List.getElem?_eq_getElem hr]; rfl
/-- an item of a typed list or tuple -/
theorem o_oneM {α : Type} {y : D} {xs : List α} {g : α → D} {p : Pn} {Q : D → Option Pn → Prop} (hy : itemsD y = some (xs.map g)) (h : 0 < xs.length ∧ xs.length < 1073741824) (ha : 0 ≤ p.a ∧ p.a < 1073741824) (k : ∀ x p', x ∈ xs → p.a ≤ p'.a → p'.a ≤ p.a + 1 → Q (g x) (some p')) : W1n (.dict []) y (some p) Q := by
  refine o_one hy (by simpa using h) ha fun d p' hd h1 h2 => ?_
  obtain ⟨x, hx, rfl⟩ := List.mem_map.mp hd
  exact k x p' hx h1 h2
end Fs

set_option Elab.async false
set_option linter.all false
set_option maxRecDepth 100000
set_option maxHeartbeats 8000000
namespace Fs
open PySem L2
theorem gateE {e : IE} {s : S} {Q : D → Tg → S → Prop} (h : WE e s Q) : WE e s Q := h
theorem gate1 {t : IS} {s : S} {N : S → Prop} {Q : Fl → S → Prop} (h : W1 t s N Q) : W1 t s N Q := h
theorem gateK {o : CmpOp} {x y : D} {Q : Bool → Prop} (h : WK o x y Q) : WK o x y Q := h
theorem gateF {f : Bf} {xs : List D} {Q : D → Tg → Prop} (h : WF f xs Q) : WF f xs Q := h
theorem gateB {e : IE} {s : S} {Q : Bool → S → Prop} (h : WB e s Q) : WB e s Q := h
theorem gateT {t : Tr} {s : S} {x : D} {Q : S → Prop} (h : WT t s x Q) : WT t s x Q := h
theorem gateR {r : Sr} {s : S} {Q : List D → Tg → S → Prop} (h : WR r s Q) : WR r s Q := h
theorem gateI {x y : D} {Q : D → Prop} (h : WI x y Q) : WI x y Q := h
theorem gateSl {x : D} {l m : Option D} {Q : D → Tg → Prop} (h : WSl x l m Q) : WSl x l m Q := h
end Fs
namespace K1
open PySem L2 Fs
def ir_is_integer : ISs := (.cons (.ret (.and (.cons (.isi (.var 0) .int) (.cons (.not (.isi (.var 0) .bool)) .nil))))
  .nil)
def F_is_integer : Fn := runF 1 ir_is_integer
def ir_is_between : ISs := (.cons (.ret (.and (.cons (.call "is_integer" F_is_integer (.cons (.var 0) .nil)) (.cons (.cmp2 .LtE .LtE (.var 1) (.var 0) (.var 2)) .nil))))
  .nil)
def F_is_between : Fn := runF 3 ir_is_between
def ir_serves : ISs := (.cons (.ret (.and (.cons (.cmp .In (.var 2) (.ix (.var 0) (.int 0))) (.cons (.or (.cons (.cmp .Eq (.ix (.var 0) (.int 1)) (.tup .nil)) (.cons (.cmp .In (.var 1) (.ix (.var 0) (.int 1))) .nil))) .nil))))
  .nil)
def F_serves : Fn := runF 3 ir_serves
local macro_rules
  | `(tactic| fail) => `(tactic| first
    | (refine' gateE ?_; first | refine' w_var rfl ?_ | refine' w_own rfl ?_ | refine' w_int ?_ | refine' w_bool ?_ | refine' w_non ?_ | refine' w_str ?_ | refine' w_glob ?_ | refine' w_call ?_ | refine' w_ix ?_ | refine' w_cmp ?_ | refine' w_bin ?_ | refine' w_one ?_ | refine' w_blt ?_ | refine' w_isi ?_ | refine' w_not ?_ | refine' w_isN ?_ | refine' w_notN ?_ | refine' w_tup ?_ | refine' w_lst ?_ | refine' w_and ?_ | refine' w_or ?_ | refine' w_sl ?_ | refine' w_lc ?_ | refine' w_neg ?_ | refine' w_cmp2P ?_ ?_)
    | refine' wl_nil ?_
    | refine' wl_cons ?_
    | (refine' gate1 ?_; first | refine' w1_set ?_ | refine' w1_ret ?_ | refine' w1_setT ?_ | refine' w1_set2 ?_ | refine' w1_app rfl ?_ | refine' w1_ins rfl ?_ | refine' w1_expr ?_ | refine' w1_rev rfl ?_ | refine' w1_ext rfl ?_ | refine' w1_setLc ?_ | refine' w1_for ?_ | refine' w1_retN ?_ | refine' w1_cont ?_ | refine' w1_brk ?_ | refine' w1_pass ?_)
    | refine' ws_nil ?_
    | refine' ws_cons ?_
    | (refine' gateB ?_; first | refine' wb_and1 ?_ | refine' wb_or1 ?_ | refine' wb_andP ?_ (fun _ => ?_) ?_ | refine' wb_orP ?_ (fun _ => ?_) ?_ | refine' wb_of ?_)
    | refine' wv ?_
    | (refine' gateK ?_; first | refine' k_lt ?_ | refine' k_le ?_ | refine' k_gt ?_ | refine' k_ge ?_ | refine' k_eqI ?_ | refine' k_neI ?_ | refine' k_inT ?_ | refine' k_inL ?_ | refine' k_ninT ?_ | refine' k_ninL ?_)
    | (refine' gateF ?_; first | refine' f_lenL ?_ | refine' f_lenT ?_ | refine' f_int ?_ | refine' f_tupL ?_ | refine' f_tupT ?_ | refine' f_listL ?_ | refine' f_listT ?_ | refine' f_max2 ?_ | refine' f_rev1T ?_ | refine' f_rev1L ?_ | refine' f_min2 ?_)
    | (refine' gateI ?_; first | refine' wi rfl ?_ | refine' wi_atT rfl rfl ?_ | refine' wi_atL rfl rfl ?_)
    | (refine' gateT ?_; first | refine' wt_v rfl ?_ | refine' wt_t2 rfl ?_ | refine' wt_t3 rfl ?_ | refine' wt_t4 rfl ?_ | refine' wt_t5 rfl ?_ | refine' wt rfl ?_)
    | (refine' gateR ?_; first | refine' wr_seq ?_ | refine' wr_enum ?_ | refine' wr_zip ?_ | refine' wr_rng ?_ | refine' wr_rng2 ?_)
    | (refine' gateSl ?_; first | refine' slF_T rfl ?_ | refine' slT_T rfl ?_ | refine' slF_L rfl ?_ | refine' slT_L rfl ?_)
    | refine' wo_none ?_
    | refine' wo_some ?_
    | refine' wal_nil ?_
    | refine' wal_one ?_
    | refine' d_add ?_
    | refine' d_sub ?_
    | refine' z_TT ?_
    | refine' z_LL ?_
    | refine' wret ?_
    | exact rfl
    | refine' ⟨_, rfl, ?_⟩
    | refine' ⟨rfl, fun _ => ?_⟩
    | refine' ⟨rfl, ?_⟩
    | fail_if_success skip)
def intB : D → Bool
  | .int _ => true
  | _ => false
def betw (v : D) (lo hi : Int) : Bool := match v with
  | .int i => decide (lo ≤ i) && decide (i ≤ hi)
  | _ => false
def ltD : D → D → Bool
  | .int a, .int b => decide (a < b)
  | _, _ => false
/-- each less than the next -/
def asc (vs : List D) : Bool := (vs.zip (vs.drop 1)).all fun p => ltD p.1 p.2
def digitsB : D → Bool
  | .tuple vs => (vs.all fun x => betw x 0 9) && asc vs
  | _ => false
def stepB : D → Bool
  | .tuple [t, n] => betw t 0 1000 && betw n 0 20
  | _ => false
def fstD : D → D
  | .tuple (a :: _) => a
  | _ => .none
def eqz : D → Bool
  | .int i => decide (i = 0)
  | _ => false
def stepsB : D → Bool
  | .tuple vs => decide (1 ≤ vs.length) && decide (vs.length ≤ 4) && (vs.all stepB) && eqz (fstD (vs.headD .none)) && ((vs.zip (vs.drop 1)).all fun p => ltD (fstD p.1) (fstD p.2))
  | _ => false
def kindB : D → Bool
  | .tuple [a, b, c] => digitsB a && (!PyData.eqv a (.tuple [])) && digitsB b && stepsB c
  | _ => false
section
variable {v : D} {pn : Option Pn} {Q : D → Bool → Option Pn → Prop}
theorem c_is_integer (g : Tm v) (h : Q (.bool (intB v)) false pn) : WC F_is_integer [v] pn Q := by
  refine w_run ?_
  unfold ir_is_integer
  cases v
  case dict => exact g.nodict.elim
  all_goals
    (repeat' first | fail | refine' w1_ite ?_)
    exact h
theorem c_is_between {lo hi : Int} (g : Tm v) (h : Q (.bool (betw v lo hi)) false pn) : WC F_is_between [v, .int lo, .int hi] pn Q := by
  refine w_run ?_
  unfold ir_is_between
  cases v
  case int =>
    (repeat' first |  ((with_reducible show WC F_is_integer _ _ _); refine' c_is_integer g ?_)  | fail | refine' w1_ite ?_)
    exact h
  all_goals
    refine' ws_cons (w1_ret (w_and (wb_andF ?_)))
    (repeat' first |  ((with_reducible show WC F_is_integer _ _ _); refine' c_is_integer g ?_)  | fail | refine' w1_ite ?_)
    exact h
end
end K1

set_option Elab.async false
set_option linter.all false
set_option maxRecDepth 100000
set_option maxHeartbeats 8000000
namespace K1
open PySem L2 Fs
local macro_rules
  | `(tactic| fail) => `(tactic| first
    | (refine' gateE ?_; first | refine' w_var rfl ?_ | refine' w_own rfl ?_ | refine' w_int ?_ | refine' w_bool ?_ | refine' w_non ?_ | refine' w_str ?_ | refine' w_glob ?_ | refine' w_call ?_ | refine' w_ix ?_ | refine' w_cmp ?_ | refine' w_bin ?_ | refine' w_one ?_ | refine' w_blt ?_ | refine' w_isi ?_ | refine' w_not ?_ | refine' w_isN ?_ | refine' w_notN ?_ | refine' w_tup ?_ | refine' w_lst ?_ | refine' w_and ?_ | refine' w_or ?_ | refine' w_sl ?_ | refine' w_lc ?_ | refine' w_neg ?_ | refine' w_cmp2P ?_ ?_)
    | refine' wl_nil ?_
    | refine' wl_cons ?_
    | (refine' gate1 ?_; first | refine' w1_set ?_ | refine' w1_ret ?_ | refine' w1_setT ?_ | refine' w1_set2 ?_ | refine' w1_app rfl ?_ | refine' w1_ins rfl ?_ | refine' w1_expr ?_ | refine' w1_rev rfl ?_ | refine' w1_ext rfl ?_ | refine' w1_setLc ?_ | refine' w1_for ?_ | refine' w1_retN ?_ | refine' w1_cont ?_ | refine' w1_brk ?_ | refine' w1_pass ?_)
    | refine' ws_nil ?_
    | refine' ws_cons ?_
    | (refine' gateB ?_; first | refine' wb_and1 ?_ | refine' wb_or1 ?_ | refine' wb_andP ?_ (fun _ => ?_) ?_ | refine' wb_orP ?_ (fun _ => ?_) ?_ | refine' wb_of ?_)
    | refine' wv ?_
    | (refine' gateK ?_; first | refine' k_lt ?_ | refine' k_le ?_ | refine' k_gt ?_ | refine' k_ge ?_ | refine' k_eqI ?_ | refine' k_neI ?_ | refine' k_inT ?_ | refine' k_inL ?_ | refine' k_ninT ?_ | refine' k_ninL ?_)
    | (refine' gateF ?_; first | refine' f_lenL ?_ | refine' f_lenT ?_ | refine' f_int ?_ | refine' f_tupL ?_ | refine' f_tupT ?_ | refine' f_listL ?_ | refine' f_listT ?_ | refine' f_max2 ?_ | refine' f_rev1T ?_ | refine' f_rev1L ?_ | refine' f_min2 ?_)
    | (refine' gateI ?_; first | refine' wi rfl ?_ | refine' wi_atT rfl rfl ?_ | refine' wi_atL rfl rfl ?_)
    | (refine' gateT ?_; first | refine' wt_v rfl ?_ | refine' wt_t2 rfl ?_ | refine' wt_t3 rfl ?_ | refine' wt_t4 rfl ?_ | refine' wt_t5 rfl ?_ | refine' wt rfl ?_)
    | (refine' gateR ?_; first | refine' wr_seq ?_ | refine' wr_enum ?_ | refine' wr_zip ?_ | refine' wr_rng ?_ | refine' wr_rng2 ?_)
    | (refine' gateSl ?_; first | refine' slF_T rfl ?_ | refine' slT_T rfl ?_ | refine' slF_L rfl ?_ | refine' slT_L rfl ?_)
    | refine' wo_none ?_
    | refine' wo_some ?_
    | refine' wal_nil ?_
    | refine' wal_one ?_
    | refine' d_add ?_
    | refine' d_sub ?_
    | refine' z_TT ?_
    | refine' z_LL ?_
    | refine' wret ?_
    | exact rfl
    | refine' ⟨_, rfl, ?_⟩
    | refine' ⟨rfl, fun _ => ?_⟩
    | refine' ⟨rfl, ?_⟩
    | fail_if_success skip)
section
variable {v : D} {pn : Option Pn} {Q : D → Bool → Option Pn → Prop}
theorem Tm.nil : Tm (.tuple []) := ⟨by simp [tame, tames, okLen]⟩
theorem okEq_of {x y : D} (hx : good 60 x = true) (hy : good 60 y = true) : okEq x y = true := by
  unfold okEq
  split
  · rfl
  · rw [hx, hy]; rfl
end
def intsD (ns : List Int) : D := .tuple (ns.map .int)
def stepD (p : Int × Int) : D := .tuple [.int p.1, .int p.2]
def stepsD (l : List (Int × Int)) : D := .tuple (l.map stepD)
structure Kind where
  fe : List Int
  gr : List Int
  st : List (Int × Int)
def kindD (k : Kind) : D := .tuple [intsD k.fe, intsD k.gr, stepsD k.st]
def poolD (P : List Kind) : D := .tuple (P.map kindD)
structure Claim where
  g : Int
  f : Int
  s : Int
  e : Int
  k : Option Int
def optD : Option Int → D
  | none => .none
  | some i => .int i
structure Digs (ns : List Int) : Prop where
  up : ns.Pairwise (· < ·)
  rg : ∀ n ∈ ns, 0 ≤ n ∧ n ≤ 9
  len : ns.length ≤ 10
structure StepsOk (l : List (Int × Int)) : Prop where
  len : 1 ≤ l.length ∧ l.length ≤ 4
  fst : ∀ p, l[0]? = some p → p.1 = 0
  up : l.Pairwise fun p q => p.1 < q.1
  rg : ∀ p ∈ l, 0 ≤ p.1 ∧ p.1 ≤ 1000 ∧ 0 ≤ p.2 ∧ p.2 ≤ 20
structure KindOk (k : Kind) : Prop where
  fe : Digs k.fe
  ne : k.fe ≠ []
  gr : Digs k.gr
  st : StepsOk k.st
structure PoolOk (P : List Kind) : Prop where
  len : 1 ≤ P.length ∧ P.length ≤ 6
  ks : ∀ k ∈ P, KindOk k
def servesB (k : Kind) (g f : Int) : Bool := decide (f ∈ k.fe) && (decide (k.gr = []) || decide (g ∈ k.gr))
structure ClaimOk (P : List Kind) (c : Claim) : Prop where
  g : 0 ≤ c.g ∧ c.g ≤ 9
  f : 0 ≤ c.f ∧ c.f ≤ 9
  s : 0 ≤ c.s
  e : c.e ≤ 1000
  se : c.s < c.e
  k : ∀ i, c.k = some i → 0 ≤ i ∧ ∃ kd, P[i.toNat]? = some kd ∧ servesB kd c.g c.f = true
theorem zip_pw {α : Type} {R : α → α → Prop} : ∀ {xs : List α}, xs.Pairwise R → ∀ p, p ∈ xs.zip (xs.drop 1) → R p.1 p.2
  | [], _, p, m => by simp at m
  | [x], _, p, m => by simp at m
  | x :: y :: r, h, p, m => by
    rw [show (x :: y :: r).zip ((x :: y :: r).drop 1) = (x, y) :: (y :: r).zip r from rfl] at m
    rcases List.mem_cons.mp m with rfl | m
    · exact (List.pairwise_cons.mp h).1 _ (List.mem_cons_self ..)
    · exact zip_pw (List.pairwise_cons.mp h).2 p m
theorem asc_of {ns : List Int} (h : ns.Pairwise (· < ·)) : asc (ns.map .int) = true := by
  unfold asc
  rw [List.all_eq_true]
  intro p hp
  rw [← List.map_drop, List.zip_map] at hp
  obtain ⟨q, hq, rfl⟩ := List.mem_map.mp hp
  exact decide_eq_true (zip_pw h q hq)
theorem betw_of {i lo hi : Int} (h : lo ≤ i ∧ i ≤ hi) : betw (.int i) lo hi = true := by
  rw [betw, decide_eq_true h.1, decide_eq_true h.2]; rfl
theorem digits_of {ns : List Int} (h : Digs ns) : digitsB (intsD ns) = true := by
  show ((ns.map PyData.int).all (fun x => betw x 0 9) && asc (ns.map .int)) = true
  rw [asc_of h.up, Bool.and_true, List.all_eq_true]
  intro x hx
  obtain ⟨n, hn, rfl⟩ := List.mem_map.mp hx
  exact betw_of (h.rg n hn)
theorem steps_of {l : List (Int × Int)} (h : StepsOk l) : stepsB (stepsD l) = true := by
  show (decide (1 ≤ (l.map stepD).length) && decide ((l.map stepD).length ≤ 4) && ((l.map stepD).all stepB) && eqz (fstD ((l.map stepD).headD .none)) && (((l.map stepD).zip ((l.map stepD).drop 1)).all fun p => ltD (fstD p.1) (fstD p.2))) = true
  rw [List.length_map, decide_eq_true h.len.1, decide_eq_true h.len.2]
  have e1 : (l.map stepD).all stepB = true := by
    rw [List.all_eq_true]
    intro x hx
    obtain ⟨p, hp, rfl⟩ := List.mem_map.mp hx
    have r := h.rg p hp
    show (betw (.int p.1) 0 1000 && betw (.int p.2) 0 20) = true
    rw [betw_of ⟨r.1, r.2.1⟩, betw_of r.2.2]; rfl
  have e2 : eqz (fstD ((l.map stepD).headD .none)) = true := by
    cases l with
    | nil => have := h.len.1; simp at this
    | cons p r => exact decide_eq_true (h.fst p rfl)
  have e3 : ((l.map stepD).zip ((l.map stepD).drop 1)).all (fun p => ltD (fstD p.1) (fstD p.2)) = true := by
    rw [List.all_eq_true]
    intro p hp
    rw [← List.map_drop, List.zip_map] at hp
    obtain ⟨q, hq, rfl⟩ := List.mem_map.mp hp
    exact decide_eq_true (zip_pw h.up q hq)
  rw [e1, e2, e3]; rfl
theorem eqv_ints : ∀ {ms ns : List Int}, PyData.eqvAll (ms.map .int) (ns.map .int) = decide (ms = ns)
  | [], [] => rfl
  | [], n :: ns => rfl
  | m :: ms, [] => rfl
  | m :: ms, n :: ns => by
    rw [List.map_cons, List.map_cons, PyData.eqvAll, eqv_int, eqv_ints]
    by_cases h : m = n
    · subst h; simp
    · simp [h]
theorem eqv_intsD {ms ns : List Int} : PyData.eqv (intsD ms) (intsD ns) = decide (ms = ns) := by
  show PyData.eqv (.tuple _) (.tuple _) = _
  rw [PyData.eqv, eqv_ints]
theorem eqv_nil {ns : List Int} : PyData.eqv (intsD ns) (.tuple []) = decide (ns = []) := eqv_intsD (ns := [])
theorem kind_of {k : Kind} (h : KindOk k) : kindB (kindD k) = true := by
  show (digitsB (intsD k.fe) && (!PyData.eqv (intsD k.fe) (.tuple [])) && digitsB (intsD k.gr) && stepsB (stepsD k.st)) = true
  rw [digits_of h.fe, digits_of h.gr, steps_of h.st, eqv_nil, decide_eq_false h.ne]; rfl
theorem tame_ints {n : Nat} {ns : List Int} (h : ns.length ≤ 1000000) : tame (n + 1) (intsD ns) = true := by
  unfold intsD
  rw [tame, okLen, List.length_map, decide_eq_true h, tames_of]
  · rfl
  · intro x hx
    obtain ⟨i, _, rfl⟩ := List.mem_map.mp hx
    simp [tame]
theorem tame_tup {n : Nat} {xs : List D} (h : xs.length ≤ 1000000) (z : ∀ x ∈ xs, tame n x = true) : tame (n + 1) (.tuple xs) = true := by
  rw [tame, okLen, decide_eq_true h, tames_of z]; rfl
theorem tame_int {n : Nat} {i : Int} : tame n (.int i) = true := by simp [tame]
theorem tame_steps {n : Nat} {l : List (Int × Int)} (h : l.length ≤ 1000000) : tame (n + 2) (stepsD l) = true :=
  tame_tup (by simpa using h) fun x hx => by
    obtain ⟨p, _, rfl⟩ := List.mem_map.mp hx
    exact tame_tup (by simp) fun y hy => by simp at hy; rcases hy with rfl | rfl <;> exact tame_int
theorem tame_kind {n : Nat} {k : Kind} (h : KindOk k) : tame (n + 3) (kindD k) = true :=
  tame_tup (by simp) fun x hx => by
    have h1 := h.fe.len; have h2 := h.gr.len; have h3 := h.st.len
    simp only [List.mem_cons, List.not_mem_nil, or_false] at hx
    rcases hx with rfl | rfl | rfl
    · exact tame_ints (by omega)
    · exact tame_ints (by omega)
    · exact tame_steps (by omega)
theorem tame_pool {n : Nat} {P : List Kind} (h : PoolOk P) : tame (n + 4) (poolD P) = true :=
  tame_tup (by have := h.len; simp; omega) fun x hx => by
    obtain ⟨k, hk, rfl⟩ := List.mem_map.mp hx
    exact tame_kind (h.ks k hk)
theorem PoolOk.tm {P : List Kind} (h : PoolOk P) : Tm (poolD P) := ⟨tame_pool h⟩
section
variable {v : D} {pn : Option Pn} {Q : D → Bool → Option Pn → Prop}
end
end K1

set_option Elab.async false
set_option linter.all false
set_option maxRecDepth 100000
set_option maxHeartbeats 8000000
namespace K1
open PySem L2 Fs
local macro_rules
  | `(tactic| fail) => `(tactic| first
    | (refine' gateE ?_; first | refine' w_var rfl ?_ | refine' w_own rfl ?_ | refine' w_int ?_ | refine' w_bool ?_ | refine' w_non ?_ | refine' w_str ?_ | refine' w_glob ?_ | refine' w_call ?_ | refine' w_ix ?_ | refine' w_cmp ?_ | refine' w_bin ?_ | refine' w_one ?_ | refine' w_blt ?_ | refine' w_isi ?_ | refine' w_not ?_ | refine' w_isN ?_ | refine' w_notN ?_ | refine' w_tup ?_ | refine' w_lst ?_ | refine' w_and ?_ | refine' w_or ?_ | refine' w_sl ?_ | refine' w_lc ?_ | refine' w_neg ?_ | refine' w_cmp2P ?_ ?_)
    | refine' wl_nil ?_
    | refine' wl_cons ?_
    | (refine' gate1 ?_; first | refine' w1_set ?_ | refine' w1_ret ?_ | refine' w1_setT ?_ | refine' w1_set2 ?_ | refine' w1_app rfl ?_ | refine' w1_ins rfl ?_ | refine' w1_expr ?_ | refine' w1_rev rfl ?_ | refine' w1_ext rfl ?_ | refine' w1_setLc ?_ | refine' w1_for ?_ | refine' w1_retN ?_ | refine' w1_cont ?_ | refine' w1_brk ?_ | refine' w1_pass ?_)
    | refine' ws_nil ?_
    | refine' ws_cons ?_
    | (refine' gateB ?_; first | refine' wb_and1 ?_ | refine' wb_or1 ?_ | refine' wb_andP ?_ (fun _ => ?_) ?_ | refine' wb_orP ?_ (fun _ => ?_) ?_ | refine' wb_of ?_)
    | refine' wv ?_
    | (refine' gateK ?_; first | refine' k_lt ?_ | refine' k_le ?_ | refine' k_gt ?_ | refine' k_ge ?_ | refine' k_eqI ?_ | refine' k_neI ?_ | refine' k_inT ?_ | refine' k_inL ?_ | refine' k_ninT ?_ | refine' k_ninL ?_)
    | (refine' gateF ?_; first | refine' f_lenL ?_ | refine' f_lenT ?_ | refine' f_int ?_ | refine' f_tupL ?_ | refine' f_tupT ?_ | refine' f_listL ?_ | refine' f_listT ?_ | refine' f_max2 ?_ | refine' f_rev1T ?_ | refine' f_rev1L ?_ | refine' f_min2 ?_)
    | (refine' gateI ?_; first | refine' wi rfl ?_ | refine' wi_atT rfl rfl ?_ | refine' wi_atL rfl rfl ?_)
    | (refine' gateT ?_; first | refine' wt_v rfl ?_ | refine' wt_t2 rfl ?_ | refine' wt_t3 rfl ?_ | refine' wt_t4 rfl ?_ | refine' wt_t5 rfl ?_ | refine' wt rfl ?_)
    | (refine' gateR ?_; first | refine' wr_seq ?_ | refine' wr_enum ?_ | refine' wr_zip ?_ | refine' wr_rng ?_ | refine' wr_rng2 ?_)
    | (refine' gateSl ?_; first | refine' slF_T rfl ?_ | refine' slT_T rfl ?_ | refine' slF_L rfl ?_ | refine' slT_L rfl ?_)
    | refine' wo_none ?_
    | refine' wo_some ?_
    | refine' wal_nil ?_
    | refine' wal_one ?_
    | refine' d_add ?_
    | refine' d_sub ?_
    | refine' z_TT ?_
    | refine' z_LL ?_
    | refine' wret ?_
    | exact rfl
    | refine' ⟨_, rfl, ?_⟩
    | refine' ⟨rfl, fun _ => ?_⟩
    | refine' ⟨rfl, ?_⟩
    | fail_if_success skip)
section
variable {v : D} {pn : Option Pn} {Q : D → Bool → Option Pn → Prop}
structure ClaimsOk (P : List Kind) (most : Nat) (cs : List Claim) : Prop where
  len : cs.length ≤ most
  cs : ∀ c ∈ cs, ClaimOk P c
end
end K1

set_option Elab.async false
set_option linter.all false
set_option maxRecDepth 100000
set_option maxHeartbeats 8000000
namespace K1
open PySem L2 Fs
local macro_rules
  | `(tactic| fail) => `(tactic| first
    | (refine' gateE ?_; first | refine' w_var rfl ?_ | refine' w_own rfl ?_ | refine' w_int ?_ | refine' w_bool ?_ | refine' w_non ?_ | refine' w_str ?_ | refine' w_glob ?_ | refine' w_call ?_ | refine' w_ix ?_ | refine' w_cmp ?_ | refine' w_bin ?_ | refine' w_one ?_ | refine' w_blt ?_ | refine' w_isi ?_ | refine' w_not ?_ | refine' w_isN ?_ | refine' w_notN ?_ | refine' w_tup ?_ | refine' w_lst ?_ | refine' w_and ?_ | refine' w_or ?_ | refine' w_sl ?_ | refine' w_lc ?_ | refine' w_neg ?_ | refine' w_cmp2P ?_ ?_)
    | refine' wl_nil ?_
    | refine' wl_cons ?_
    | (refine' gate1 ?_; first | refine' w1_set ?_ | refine' w1_ret ?_ | refine' w1_setT ?_ | refine' w1_set2 ?_ | refine' w1_app rfl ?_ | refine' w1_ins rfl ?_ | refine' w1_expr ?_ | refine' w1_rev rfl ?_ | refine' w1_ext rfl ?_ | refine' w1_setLc ?_ | refine' w1_for ?_ | refine' w1_retN ?_ | refine' w1_cont ?_ | refine' w1_brk ?_ | refine' w1_pass ?_)
    | refine' ws_nil ?_
    | refine' ws_cons ?_
    | (refine' gateB ?_; first | refine' wb_and1 ?_ | refine' wb_or1 ?_ | refine' wb_andP ?_ (fun _ => ?_) ?_ | refine' wb_orP ?_ (fun _ => ?_) ?_ | refine' wb_of ?_)
    | refine' wv ?_
    | (refine' gateK ?_; first | refine' k_lt ?_ | refine' k_le ?_ | refine' k_gt ?_ | refine' k_ge ?_ | refine' k_eqI ?_ | refine' k_neI ?_ | refine' k_inT ?_ | refine' k_inL ?_ | refine' k_ninT ?_ | refine' k_ninL ?_)
    | (refine' gateF ?_; first | refine' f_lenL ?_ | refine' f_lenT ?_ | refine' f_int ?_ | refine' f_tupL ?_ | refine' f_tupT ?_ | refine' f_listL ?_ | refine' f_listT ?_ | refine' f_max2 ?_ | refine' f_rev1T ?_ | refine' f_rev1L ?_ | refine' f_min2 ?_)
    | (refine' gateI ?_; first | refine' wi rfl ?_ | refine' wi_atT rfl rfl ?_ | refine' wi_atL rfl rfl ?_)
    | (refine' gateT ?_; first | refine' wt_v rfl ?_ | refine' wt_t2 rfl ?_ | refine' wt_t3 rfl ?_ | refine' wt_t4 rfl ?_ | refine' wt_t5 rfl ?_ | refine' wt rfl ?_)
    | (refine' gateR ?_; first | refine' wr_seq ?_ | refine' wr_enum ?_ | refine' wr_zip ?_ | refine' wr_rng ?_ | refine' wr_rng2 ?_)
    | (refine' gateSl ?_; first | refine' slF_T rfl ?_ | refine' slT_T rfl ?_ | refine' slF_L rfl ?_ | refine' slT_L rfl ?_)
    | refine' wo_none ?_
    | refine' wo_some ?_
    | refine' wal_nil ?_
    | refine' wal_one ?_
    | refine' d_add ?_
    | refine' d_sub ?_
    | refine' z_TT ?_
    | refine' z_LL ?_
    | refine' wret ?_
    | exact rfl
    | refine' ⟨_, rfl, ?_⟩
    | refine' ⟨rfl, fun _ => ?_⟩
    | refine' ⟨rfl, ?_⟩
    | fail_if_success skip)
abbrev pen : Option (D × Bool) := some (.dict [], false)
end K1

set_option Elab.async false
set_option linter.all false
set_option maxRecDepth 100000
set_option maxHeartbeats 8000000
namespace K1
open PySem L2 Fs
local macro_rules
  | `(tactic| fail) => `(tactic| first
    | (refine' gateE ?_; first | refine' w_var rfl ?_ | refine' w_own rfl ?_ | refine' w_int ?_ | refine' w_bool ?_ | refine' w_non ?_ | refine' w_str ?_ | refine' w_glob ?_ | refine' w_call ?_ | refine' w_ix ?_ | refine' w_cmp ?_ | refine' w_bin ?_ | refine' w_one ?_ | refine' w_blt ?_ | refine' w_isi ?_ | refine' w_not ?_ | refine' w_isN ?_ | refine' w_notN ?_ | refine' w_tup ?_ | refine' w_lst ?_ | refine' w_and ?_ | refine' w_or ?_ | refine' w_sl ?_ | refine' w_lc ?_ | refine' w_neg ?_ | refine' w_cmp2P ?_ ?_)
    | refine' wl_nil ?_
    | refine' wl_cons ?_
    | (refine' gate1 ?_; first | refine' w1_set ?_ | refine' w1_ret ?_ | refine' w1_setT ?_ | refine' w1_set2 ?_ | refine' w1_app rfl ?_ | refine' w1_ins rfl ?_ | refine' w1_expr ?_ | refine' w1_rev rfl ?_ | refine' w1_ext rfl ?_ | refine' w1_setLc ?_ | refine' w1_for ?_ | refine' w1_retN ?_ | refine' w1_cont ?_ | refine' w1_brk ?_ | refine' w1_pass ?_)
    | refine' ws_nil ?_
    | refine' ws_cons ?_
    | (refine' gateB ?_; first | refine' wb_and1 ?_ | refine' wb_or1 ?_ | refine' wb_andP ?_ (fun _ => ?_) ?_ | refine' wb_orP ?_ (fun _ => ?_) ?_ | refine' wb_of ?_)
    | refine' wv ?_
    | (refine' gateK ?_; first | refine' k_lt ?_ | refine' k_le ?_ | refine' k_gt ?_ | refine' k_ge ?_ | refine' k_eqI ?_ | refine' k_neI ?_ | refine' k_inT ?_ | refine' k_inL ?_ | refine' k_ninT ?_ | refine' k_ninL ?_)
    | (refine' gateF ?_; first | refine' f_lenL ?_ | refine' f_lenT ?_ | refine' f_int ?_ | refine' f_tupL ?_ | refine' f_tupT ?_ | refine' f_listL ?_ | refine' f_listT ?_ | refine' f_max2 ?_ | refine' f_rev1T ?_ | refine' f_rev1L ?_ | refine' f_min2 ?_)
    | (refine' gateI ?_; first | refine' wi rfl ?_ | refine' wi_atT rfl rfl ?_ | refine' wi_atL rfl rfl ?_)
    | (refine' gateT ?_; first | refine' wt_v rfl ?_ | refine' wt_t2 rfl ?_ | refine' wt_t3 rfl ?_ | refine' wt_t4 rfl ?_ | refine' wt_t5 rfl ?_ | refine' wt rfl ?_)
    | (refine' gateR ?_; first | refine' wr_seq ?_ | refine' wr_enum ?_ | refine' wr_zip ?_ | refine' wr_rng ?_ | refine' wr_rng2 ?_)
    | (refine' gateSl ?_; first | refine' slF_T rfl ?_ | refine' slT_T rfl ?_ | refine' slF_L rfl ?_ | refine' slT_L rfl ?_)
    | refine' wo_none ?_
    | refine' wo_some ?_
    | refine' wal_nil ?_
    | refine' wal_one ?_
    | refine' d_add ?_
    | refine' d_sub ?_
    | refine' z_TT ?_
    | refine' z_LL ?_
    | refine' wret ?_
    | exact rfl
    | refine' ⟨_, rfl, ?_⟩
    | refine' ⟨rfl, fun _ => ?_⟩
    | refine' ⟨rfl, ?_⟩
    | fail_if_success skip)
theorem good_list {ns : List Int} : good 60 (.list (ns.map .int)) = true := by rw [good, goods_ints]
end K1

set_option Elab.async false
set_option linter.all false
set_option maxRecDepth 100000
set_option maxHeartbeats 8000000
namespace K1
open PySem L2 Fs
local macro_rules
  | `(tactic| fail) => `(tactic| first
    | (refine' gateE ?_; first | refine' w_var rfl ?_ | refine' w_own rfl ?_ | refine' w_int ?_ | refine' w_bool ?_ | refine' w_non ?_ | refine' w_str ?_ | refine' w_glob ?_ | refine' w_call ?_ | refine' w_ix ?_ | refine' w_cmp ?_ | refine' w_bin ?_ | refine' w_one ?_ | refine' w_blt ?_ | refine' w_isi ?_ | refine' w_not ?_ | refine' w_isN ?_ | refine' w_notN ?_ | refine' w_tup ?_ | refine' w_lst ?_ | refine' w_and ?_ | refine' w_or ?_ | refine' w_sl ?_ | refine' w_lc ?_ | refine' w_neg ?_ | refine' w_cmp2P ?_ ?_)
    | refine' wl_nil ?_
    | refine' wl_cons ?_
    | (refine' gate1 ?_; first | refine' w1_set ?_ | refine' w1_ret ?_ | refine' w1_setT ?_ | refine' w1_set2 ?_ | refine' w1_app rfl ?_ | refine' w1_ins rfl ?_ | refine' w1_expr ?_ | refine' w1_rev rfl ?_ | refine' w1_ext rfl ?_ | refine' w1_setLc ?_ | refine' w1_for ?_ | refine' w1_retN ?_ | refine' w1_cont ?_ | refine' w1_brk ?_ | refine' w1_pass ?_)
    | refine' ws_nil ?_
    | refine' ws_cons ?_
    | (refine' gateB ?_; first | refine' wb_and1 ?_ | refine' wb_or1 ?_ | refine' wb_andP ?_ (fun _ => ?_) ?_ | refine' wb_orP ?_ (fun _ => ?_) ?_ | refine' wb_of ?_)
    | refine' wv ?_
    | (refine' gateK ?_; first | refine' k_lt ?_ | refine' k_le ?_ | refine' k_gt ?_ | refine' k_ge ?_ | refine' k_eqI ?_ | refine' k_neI ?_ | refine' k_inT ?_ | refine' k_inL ?_ | refine' k_ninT ?_ | refine' k_ninL ?_)
    | (refine' gateF ?_; first | refine' f_lenL ?_ | refine' f_lenT ?_ | refine' f_int ?_ | refine' f_tupL ?_ | refine' f_tupT ?_ | refine' f_listL ?_ | refine' f_listT ?_ | refine' f_max2 ?_ | refine' f_rev1T ?_ | refine' f_rev1L ?_ | refine' f_min2 ?_)
    | (refine' gateI ?_; first | refine' wi rfl ?_ | refine' wi_atT rfl rfl ?_ | refine' wi_atL rfl rfl ?_)
    | (refine' gateT ?_; first | refine' wt_v rfl ?_ | refine' wt_t2 rfl ?_ | refine' wt_t3 rfl ?_ | refine' wt_t4 rfl ?_ | refine' wt_t5 rfl ?_ | refine' wt rfl ?_)
    | (refine' gateR ?_; first | refine' wr_seq ?_ | refine' wr_enum ?_ | refine' wr_zip ?_ | refine' wr_rng ?_ | refine' wr_rng2 ?_)
    | (refine' gateSl ?_; first | refine' slF_T rfl ?_ | refine' slT_T rfl ?_ | refine' slF_L rfl ?_ | refine' slT_L rfl ?_)
    | refine' wo_none ?_
    | refine' wo_some ?_
    | refine' wal_nil ?_
    | refine' wal_one ?_
    | refine' d_add ?_
    | refine' d_sub ?_
    | refine' z_TT ?_
    | refine' z_LL ?_
    | refine' wret ?_
    | exact rfl
    | refine' ⟨_, rfl, ?_⟩
    | refine' ⟨rfl, fun _ => ?_⟩
    | refine' ⟨rfl, ?_⟩
    | fail_if_success skip)
structure Sm (w : Nat) (d : D) : Prop where
  tm : tame 40 d = true
  sh : d.showable = true
  sl : d.leavesShort 22 = true
  wt : d.weight ≤ w
theorem Sm.mono {w u : Nat} {d : D} (h : Sm w d) (z : w ≤ u) : Sm u d := ⟨h.tm, h.sh, h.sl, Nat.le_trans h.wt z⟩
theorem log_le {n k : Nat} (h : n < 2 ^ k) : n.log2 ≤ k := by
  by_cases z : n = 0
  · subst z; simp
  · have := (Nat.log2_lt z).mpr h
    omega
theorem sm_int {i : Int} (h : i.natAbs < 2 ^ 63) : Sm 64 (.int i) := by
  have hl := log_le h
  refine ⟨by simp [tame], ?_, ?_, ?_⟩
  · simp only [PyData.showable, decide_eq_true_eq]; omega
  · have h2 := int_text_length_le10 (a := i) (k := 20) (by decide) (by omega)
    have h3 : (Str.ofString (toString i)).length = (toString i).length := by
      rw [ofString_length]
    simp only [PyData.leavesShort, decide_eq_true_eq]
    show (Str.ofString (toString i)).length ≤ 22
    omega
  · simp only [PyData.weight]
    split <;> omega
theorem sm_none {w : Nat} : Sm w .none := ⟨by simp [tame], by simp [PyData.showable], by simp [PyData.leavesShort], by simp [PyData.weight]⟩
/-- of depth n at most -/
structure Smn (n w : Nat) (d : D) : Prop where
  tm : tame n d = true
  sh : d.showable = true
  sl : d.leavesShort 22 = true
  wt : d.weight ≤ w
theorem smn_int {n : Nat} {i : Int} (h : i.natAbs < 2 ^ 63) : Smn n 64 (.int i) := ⟨by simp [tame], (sm_int h).sh, (sm_int h).sl, (sm_int h).wt⟩
theorem smn_none {n w : Nat} : Smn n w .none := ⟨by simp [tame], (sm_none (w := 0)).sh, (sm_none (w := 0)).sl, by simp [PyData.weight]⟩
theorem Smn.mono {n m w u : Nat} {d : D} (h : Smn n w d) (hn : n ≤ m) (z : w ≤ u) : Smn m u d := ⟨tame_le hn h.tm, h.sh, h.sl, Nat.le_trans h.wt z⟩
theorem sm_all {n w : Nat} : ∀ {xs : List D}, (∀ x ∈ xs, Smn n w x) → PyData.showableAll xs = true ∧ PyData.leavesShortAll 22 xs = true ∧ PyData.weightAll xs ≤ xs.length * (w + 1)
  | [], _ => ⟨by simp [PyData.showableAll], by simp [PyData.leavesShortAll], by simp [PyData.weightAll]⟩
  | x :: xs, h => by
    obtain ⟨h1, h2, h3⟩ := sm_all (xs := xs) fun y hy => h y (List.mem_cons_of_mem _ hy)
    have hx := h x (List.mem_cons_self ..)
    refine ⟨by rw [PyData.showableAll, hx.sh, h1]; rfl, by rw [PyData.leavesShortAll, hx.sl, h2]; rfl, ?_⟩
    rw [PyData.weightAll, List.length_cons, Nat.add_mul]
    have := hx.wt
    omega
theorem smn_tup {n w k : Nat} {xs : List D} (hk : xs.length ≤ k) (z : k ≤ 1000000) (h : ∀ x ∈ xs, Smn n w x) : Smn (n + 1) (k * (w + 1)) (.tuple xs) := by
  obtain ⟨h1, h2, h3⟩ := sm_all h
  refine ⟨tame_tup (by omega) fun x hx => (h x hx).tm, by rw [PyData.showable]; exact h1, by rw [PyData.leavesShort]; exact h2, ?_⟩
  rw [PyData.weight]
  exact Nat.le_trans h3 (Nat.mul_le_mul_right _ hk)
theorem repr_ok {n w : Nat} {d : D} (h : Smn n w d) (hn : n ≤ 60) (hw : w ≤ 600000) : (good 60 d && d.showable && decide (d.shown.length ≤ sizeLine)) = true := by
  have h1 := PyData.shown_le 22 (by decide) d h.sl
  have h2 := h.wt
  rw [(tame_good 60).1 d (tame_le hn h.tm), h.sh, decide_eq_true]
  · rfl
  · rw [sizeL]; omega
theorem smn_ints {n k : Nat} {ns : List Int} (hk : ns.length ≤ k) (z : k ≤ 1000000) (h : ∀ i ∈ ns, i.natAbs < 2 ^ 63) : Smn (n + 1) (k * 65) (intsD ns) :=
  smn_tup (by simpa using hk) z fun x hx => by
    obtain ⟨i, hi, rfl⟩ := List.mem_map.mp hx
    exact smn_int (h i hi)
theorem eqv_strS {a : Str} : PyData.eqv (.str a) (.str a) = true := by
  rw [PyData.eqv]; simp
theorem law_of {irr : ISs} {s : S} (h : WS irr s (fun _ => False) fun f _ => f = .ret (.bool true) false) : ∃ s1, evalSs irr s = some (.ret (.bool true) false, s1) := by
  obtain ⟨f, s1, e, h⟩ := h.out
  cases f with
  | nx => exact h.elim
  | _ => exact ⟨s1, by rw [e, show _ = Fl.ret (.bool true) false from h]⟩
end K1

set_option Elab.async false
set_option linter.all false
set_option maxRecDepth 100000
set_option maxHeartbeats 8000000
namespace K1
open PySem L2 Fs
def ir_find_seats : ISs := (.cons (.ret (.ix (.lc (.var 4) (.t [3, 4]) (.seq (.ix (.ix (.var 0) (.var 1)) (.int 2))) (.cons (.cmp .LtE (.var 3) (.var 2)) .nil)) (.neg (.int 1))))
  .nil)
def F_find_seats : Fn := runF 5 ir_find_seats
def ir_find_serving : ISs := (.cons (.ret (.lc (.var 3) (.t [3, 4]) (.enum (.var 0)) (.cons (.call "serves" F_serves (.cons (.var 4) (.cons (.var 1) (.cons (.var 2) .nil)))) .nil)))
  .nil)
def F_find_serving : Fn := runF 5 ir_find_serving
def ir_find_kinds : ISs := (.cons (.ite (.isN (.ix (.var 1) (.int 4)))
  (.cons (.ret (.call "find_serving" F_find_serving (.cons (.var 0) (.cons (.ix (.var 1) (.int 0)) (.cons (.ix (.var 1) (.int 1)) .nil)))))
  .nil)
  .nil)
  (.cons (.ret (.lst (.cons (.ix (.var 1) (.int 4)) .nil)))
  .nil))
def F_find_kinds : Fn := runF 2 ir_find_kinds
local macro_rules
  | `(tactic| fail) => `(tactic| first
    | (refine' gateE ?_; first | refine' w_var rfl ?_ | refine' w_own rfl ?_ | refine' w_int ?_ | refine' w_bool ?_ | refine' w_non ?_ | refine' w_str ?_ | refine' w_glob ?_ | refine' w_call ?_ | refine' w_ix ?_ | refine' w_cmp ?_ | refine' w_bin ?_ | refine' w_one ?_ | refine' w_blt ?_ | refine' w_isi ?_ | refine' w_not ?_ | refine' w_isN ?_ | refine' w_notN ?_ | refine' w_tup ?_ | refine' w_lst ?_ | refine' w_and ?_ | refine' w_or ?_ | refine' w_sl ?_ | refine' w_lc ?_ | refine' w_neg ?_ | refine' w_cmp2P ?_ ?_)
    | refine' wl_nil ?_
    | refine' wl_cons ?_
    | (refine' gate1 ?_; first | refine' w1_set ?_ | refine' w1_ret ?_ | refine' w1_setT ?_ | refine' w1_set2 ?_ | refine' w1_app rfl ?_ | refine' w1_ins rfl ?_ | refine' w1_expr ?_ | refine' w1_rev rfl ?_ | refine' w1_ext rfl ?_ | refine' w1_setLc ?_ | refine' w1_for ?_ | refine' w1_retN ?_ | refine' w1_cont ?_ | refine' w1_brk ?_ | refine' w1_pass ?_)
    | refine' ws_nil ?_
    | refine' ws_cons ?_
    | (refine' gateB ?_; first | refine' wb_and1 ?_ | refine' wb_or1 ?_ | refine' wb_andP ?_ (fun _ => ?_) ?_ | refine' wb_orP ?_ (fun _ => ?_) ?_ | refine' wb_of ?_)
    | refine' wv ?_
    | (refine' gateK ?_; first | refine' k_lt ?_ | refine' k_le ?_ | refine' k_gt ?_ | refine' k_ge ?_ | refine' k_eqI ?_ | refine' k_neI ?_ | refine' k_inT ?_ | refine' k_inL ?_ | refine' k_ninT ?_ | refine' k_ninL ?_)
    | (refine' gateF ?_; first | refine' f_lenL ?_ | refine' f_lenT ?_ | refine' f_int ?_ | refine' f_tupL ?_ | refine' f_tupT ?_ | refine' f_listL ?_ | refine' f_listT ?_ | refine' f_max2 ?_ | refine' f_rev1T ?_ | refine' f_rev1L ?_ | refine' f_min2 ?_)
    | (refine' gateI ?_; first | refine' wi rfl ?_ | refine' wi_atT rfl rfl ?_ | refine' wi_atL rfl rfl ?_)
    | (refine' gateT ?_; first | refine' wt_v rfl ?_ | refine' wt_t2 rfl ?_ | refine' wt_t3 rfl ?_ | refine' wt_t4 rfl ?_ | refine' wt_t5 rfl ?_ | refine' wt rfl ?_)
    | (refine' gateR ?_; first | refine' wr_seq ?_ | refine' wr_enum ?_ | refine' wr_zip ?_ | refine' wr_rng ?_ | refine' wr_rng2 ?_)
    | (refine' gateSl ?_; first | refine' slF_T rfl ?_ | refine' slT_T rfl ?_ | refine' slF_L rfl ?_ | refine' slT_L rfl ?_)
    | refine' wo_none ?_
    | refine' wo_some ?_
    | refine' wal_nil ?_
    | refine' wal_one ?_
    | refine' d_add ?_
    | refine' d_sub ?_
    | refine' z_TT ?_
    | refine' z_LL ?_
    | refine' wret ?_
    | exact rfl
    | refine' ⟨_, rfl, ?_⟩
    | refine' ⟨rfl, fun _ => ?_⟩
    | refine' ⟨rfl, ?_⟩
    | fail_if_success skip)
section
variable {pn : Option Pn} {Q : D → Bool → Option Pn → Prop}
end
end K1

set_option Elab.async false
set_option linter.all false
set_option maxRecDepth 100000
set_option maxHeartbeats 8000000
namespace Fs
open PySem L2 K1
def kvsOf (sd : Ku.Sd) : List (Key × V) := sd.map fun p => (Sum.inl p.1, V.int p.2)
def kindsD (P c : D) : Option (List Int) := match F_find_kinds [P, c] none with
  | some ((.list xs, _), none) => intsOf xs
  | _ => none
def seatsD0 (P : D) (k t : Int) : Option Int := match F_find_seats [P, .int k, .int t] none with
  | some ((.int i, _), none) => some i
  | _ => none
def inP (P : D) (k : Int) : Bool := match P with
  | .tuple ps => decide (0 ≤ k) && decide (k < (ps.length : Nat))
  | _ => false
def cfgD (P : D) (cs : List D) (t : Int) : Ku.Cfg := ⟨fun n => ((cs[n.toNat]?).bind (kindsD P)).getD [], fun k => if inP P k = true then (seatsD0 P k t).getD 0 else 0⟩
/-- a claim's number, of which all is known -/
def okN (P : D) (cs : List D) (t n : Int) : Prop := (0 ≤ n ∧ n < (cs.length : Nat)) ∧ ∃ c ks, cs[n.toNat]? = some c ∧ kindsD P c = some ks ∧ ∀ k ∈ ks, (0 ≤ k ∧ k < (1000 : Nat)) ∧ inP P k = true ∧ ∃ i, seatsD0 P k t = some i
def okK (k : Int) : Prop := 0 ≤ k ∧ k < (1000 : Nat)
theorem okN.kinds {P : D} {cs : List D} {t n : Int} (h : okN P cs t n) : ∀ k ∈ (cfgD P cs t).ks n, okK k := by
  obtain ⟨_, c, ks, e1, e2, h⟩ := h
  intro k hk
  have : (cfgD P cs t).ks n = ks := by show ((cs[n.toNat]?).bind (kindsD P)).getD [] = _; rw [e1, Option.bind_some, e2]; rfl
  rw [this] at hk
  exact (h k hk).1
/-- where the pieces stand -/
structure Sit (H : Hp) (dd tt : Addr) (sd : Ku.Sd) (tr : List Int) : Prop where
  d : H dd = some (.dK (kvsOf sd))
  t : H tt = some (.lst (tr.map .int))
def Kept (dd tt : Addr) (H H1 : Hp) : Prop := ∀ x o, H x = some o → x ≠ dd → x ≠ tt → H1 x = some o
theorem Kept.refl {dd tt : Addr} {H : Hp} : Kept dd tt H H := fun _ _ h _ _ => h
theorem Kept.trans {dd tt : Addr} {H H1 H2 : Hp} (a : Kept dd tt H H1) (b : Kept dd tt H1 H2) : Kept dd tt H H2 := fun x o h n m => b x o (a x o h n m) n m
theorem Kept.of {dd tt : Addr} {H H1 : Hp} (a : Sub H H1) : Kept dd tt H H1 := fun x o h _ _ => a x o h
structure Std (G H : Hp) (a dd tt : Addr) (vp vc : V) (P : D) (cs : List D) (t : Int) : Prop where
  st : H a = some (.tup [vp, vc, .int t])
  sub : Sub G H
  rp : Rp none G vp P
  rc : Rp none G vc (.tuple cs)
  gd : G dd = none
  gt : G tt = none
  ne : dd ≠ tt
  na : a ≠ dd ∧ a ≠ tt
  cl : cs.length ≤ 1000
theorem Std.next {G H H1 : Hp} {a dd tt : Addr} {vp vc : V} {P : D} {cs : List D} {t : Int} (s : Std G H a dd tt vp vc P cs t) (k : Kept dd tt H H1) : Std G H1 a dd tt vp vc P cs t :=
  ⟨k _ _ s.st s.na.1 s.na.2, fun x o h => k x o (s.sub x o h) (fun e => by rw [e, s.gd] at h; cases h) (fun e => by rw [e, s.gt] at h; cases h), s.rp, s.rc, s.gd, s.gt, s.ne, s.na, s.cl⟩
end Fs

set_option Elab.async false
set_option linter.all false
set_option maxRecDepth 100000
set_option maxHeartbeats 8000000
set_option pp.maxSteps 300
set_option pp.deepTerms.threshold 6
namespace Fs
open PySem L2 K1
end Fs

set_option Elab.async false
set_option linter.all false
set_option maxRecDepth 100000
set_option maxHeartbeats 8000000
set_option pp.maxSteps 300
set_option pp.deepTerms.threshold 6
namespace Fs
open PySem L2 K1
end Fs

set_option Elab.async false
set_option linter.all false
set_option maxRecDepth 100000
set_option maxHeartbeats 8000000
set_option pp.maxSteps 300
set_option pp.deepTerms.threshold 6
namespace Fs
open PySem L2 K1
mutual
theorem Rp.noPen {pa : PA} {G : Hp} : ∀ {n : Nat} {v : V} {d : D}, good n d = true → Rp pa G v d → Rp none G v d
  | _, _, _, _, .non => .non
  | _, _, _, _, .bl b => .bl b
  | _, _, _, _, .int i => .int i
  | _, _, _, _, .str x => .str x
  | 0, _, _, g, .lst h r => by rw [good] at g <;> first | cases g | (intro _ _ z; cases z) | skip
  | n + 1, _, _, g, .lst h r => .lst h (Rps.noPen (by simpa [good] using g) r)
  | 0, _, _, g, .tup h r => by rw [good] at g <;> first | cases g | (intro _ _ z; cases z) | skip
  | n + 1, _, _, g, .tup h r => .tup h (Rps.noPen (by simpa [good] using g) r)
  | 0, _, _, g, .pen h => by cases g
  | n + 1, _, _, g, .pen h => by cases g
theorem Rps.noPen {pa : PA} {G : Hp} : ∀ {n : Nat} {vs : List V} {ds : List D}, goods n ds = true → Rps pa G vs ds → Rps none G vs ds
  | _, _, _, _, .nil => .nil
  | n, _, _, g, .cons r t => by
    rw [goods] at g
    obtain ⟨g1, g2⟩ := and1 g
    exact .cons (Rp.noPen g1 r) (Rps.noPen g2 t)
end
section
variable {W : Wd} {k : Nat} {f : Addr} {name qual : Str} {params : Arguments} {body : List Stmt} {scope : Scope} {dV kV doc pm cdv ct oc : Value} {an od : Option Addr} {osl : Array (Option Value)}
end
section
variable {W : Wd} {k : Nat} {st : Stmt}
end
end Fs

set_option Elab.async false
set_option linter.all false
set_option maxRecDepth 100000
set_option maxHeartbeats 8000000
namespace K1
open PySem L2 Fs
local macro_rules
  | `(tactic| fail) => `(tactic| first
    | (refine' gateE ?_; first | refine' w_var rfl ?_ | refine' w_own rfl ?_ | refine' w_int ?_ | refine' w_bool ?_ | refine' w_non ?_ | refine' w_str ?_ | refine' w_glob ?_ | refine' w_call ?_ | refine' w_ix ?_ | refine' w_cmp ?_ | refine' w_bin ?_ | refine' w_one ?_ | refine' w_blt ?_ | refine' w_isi ?_ | refine' w_not ?_ | refine' w_isN ?_ | refine' w_notN ?_ | refine' w_tup ?_ | refine' w_lst ?_ | refine' w_and ?_ | refine' w_or ?_ | refine' w_sl ?_ | refine' w_lc ?_ | refine' w_neg ?_ | refine' w_cmp2P ?_ ?_)
    | refine' wl_nil ?_
    | refine' wl_cons ?_
    | (refine' gate1 ?_; first | refine' w1_set ?_ | refine' w1_ret ?_ | refine' w1_setT ?_ | refine' w1_set2 ?_ | refine' w1_app rfl ?_ | refine' w1_ins rfl ?_ | refine' w1_expr ?_ | refine' w1_rev rfl ?_ | refine' w1_ext rfl ?_ | refine' w1_setLc ?_ | refine' w1_for ?_ | refine' w1_retN ?_ | refine' w1_cont ?_ | refine' w1_brk ?_ | refine' w1_pass ?_)
    | refine' ws_nil ?_
    | refine' ws_cons ?_
    | (refine' gateB ?_; first | refine' wb_and1 ?_ | refine' wb_or1 ?_ | refine' wb_andP ?_ (fun _ => ?_) ?_ | refine' wb_orP ?_ (fun _ => ?_) ?_ | refine' wb_of ?_)
    | refine' wv ?_
    | (refine' gateK ?_; first | refine' k_lt ?_ | refine' k_le ?_ | refine' k_gt ?_ | refine' k_ge ?_ | refine' k_eqI ?_ | refine' k_neI ?_ | refine' k_inT ?_ | refine' k_inL ?_ | refine' k_ninT ?_ | refine' k_ninL ?_)
    | (refine' gateF ?_; first | refine' f_lenL ?_ | refine' f_lenT ?_ | refine' f_int ?_ | refine' f_tupL ?_ | refine' f_tupT ?_ | refine' f_listL ?_ | refine' f_listT ?_ | refine' f_max2 ?_ | refine' f_rev1T ?_ | refine' f_rev1L ?_ | refine' f_min2 ?_)
    | (refine' gateI ?_; first | refine' wi rfl ?_ | refine' wi_atT rfl rfl ?_ | refine' wi_atL rfl rfl ?_)
    | (refine' gateT ?_; first | refine' wt_v rfl ?_ | refine' wt_t2 rfl ?_ | refine' wt_t3 rfl ?_ | refine' wt_t4 rfl ?_ | refine' wt_t5 rfl ?_ | refine' wt rfl ?_)
    | (refine' gateR ?_; first | refine' wr_seq ?_ | refine' wr_enum ?_ | refine' wr_zip ?_ | refine' wr_rng ?_ | refine' wr_rng2 ?_)
    | (refine' gateSl ?_; first | refine' slF_T rfl ?_ | refine' slT_T rfl ?_ | refine' slF_L rfl ?_ | refine' slT_L rfl ?_)
    | refine' wo_none ?_
    | refine' wo_some ?_
    | refine' wal_nil ?_
    | refine' wal_one ?_
    | refine' d_add ?_
    | refine' d_sub ?_
    | refine' z_TT ?_
    | refine' z_LL ?_
    | refine' wret ?_
    | exact rfl
    | refine' ⟨_, rfl, ?_⟩
    | refine' ⟨rfl, fun _ => ?_⟩
    | refine' ⟨rfl, ?_⟩
    | fail_if_success skip)
section
variable {pn : Option Pn} {Q : D → Bool → Option Pn → Prop}
end
end K1

set_option Elab.async false
set_option linter.all false
set_option maxRecDepth 100000
set_option maxHeartbeats 8000000
namespace K1
open PySem L2 Fs
local macro_rules
  | `(tactic| fail) => `(tactic| first
    | (refine' gateE ?_; first | refine' w_var rfl ?_ | refine' w_own rfl ?_ | refine' w_int ?_ | refine' w_bool ?_ | refine' w_non ?_ | refine' w_str ?_ | refine' w_glob ?_ | refine' w_call ?_ | refine' w_ix ?_ | refine' w_cmp ?_ | refine' w_bin ?_ | refine' w_one ?_ | refine' w_blt ?_ | refine' w_isi ?_ | refine' w_not ?_ | refine' w_isN ?_ | refine' w_notN ?_ | refine' w_tup ?_ | refine' w_lst ?_ | refine' w_and ?_ | refine' w_or ?_ | refine' w_sl ?_ | refine' w_lc ?_ | refine' w_neg ?_ | refine' w_cmp2P ?_ ?_)
    | refine' wl_nil ?_
    | refine' wl_cons ?_
    | (refine' gate1 ?_; first | refine' w1_set ?_ | refine' w1_ret ?_ | refine' w1_setT ?_ | refine' w1_set2 ?_ | refine' w1_app rfl ?_ | refine' w1_ins rfl ?_ | refine' w1_expr ?_ | refine' w1_rev rfl ?_ | refine' w1_ext rfl ?_ | refine' w1_setLc ?_ | refine' w1_for ?_ | refine' w1_retN ?_ | refine' w1_cont ?_ | refine' w1_brk ?_ | refine' w1_pass ?_)
    | refine' ws_nil ?_
    | refine' ws_cons ?_
    | (refine' gateB ?_; first | refine' wb_and1 ?_ | refine' wb_or1 ?_ | refine' wb_andP ?_ (fun _ => ?_) ?_ | refine' wb_orP ?_ (fun _ => ?_) ?_ | refine' wb_of ?_)
    | refine' wv ?_
    | (refine' gateK ?_; first | refine' k_lt ?_ | refine' k_le ?_ | refine' k_gt ?_ | refine' k_ge ?_ | refine' k_eqI ?_ | refine' k_neI ?_ | refine' k_inT ?_ | refine' k_inL ?_ | refine' k_ninT ?_ | refine' k_ninL ?_)
    | (refine' gateF ?_; first | refine' f_lenL ?_ | refine' f_lenT ?_ | refine' f_int ?_ | refine' f_tupL ?_ | refine' f_tupT ?_ | refine' f_listL ?_ | refine' f_listT ?_ | refine' f_max2 ?_ | refine' f_rev1T ?_ | refine' f_rev1L ?_ | refine' f_min2 ?_)
    | (refine' gateI ?_; first | refine' wi rfl ?_ | refine' wi_atT rfl rfl ?_ | refine' wi_atL rfl rfl ?_)
    | (refine' gateT ?_; first | refine' wt_v rfl ?_ | refine' wt_t2 rfl ?_ | refine' wt_t3 rfl ?_ | refine' wt_t4 rfl ?_ | refine' wt_t5 rfl ?_ | refine' wt rfl ?_)
    | (refine' gateR ?_; first | refine' wr_seq ?_ | refine' wr_enum ?_ | refine' wr_zip ?_ | refine' wr_rng ?_ | refine' wr_rng2 ?_)
    | (refine' gateSl ?_; first | refine' slF_T rfl ?_ | refine' slT_T rfl ?_ | refine' slF_L rfl ?_ | refine' slT_L rfl ?_)
    | refine' wo_none ?_
    | refine' wo_some ?_
    | refine' wal_nil ?_
    | refine' wal_one ?_
    | refine' d_add ?_
    | refine' d_sub ?_
    | refine' z_TT ?_
    | refine' z_LL ?_
    | refine' wret ?_
    | exact rfl
    | refine' ⟨_, rfl, ?_⟩
    | refine' ⟨rfl, fun _ => ?_⟩
    | refine' ⟨rfl, ?_⟩
    | fail_if_success skip)
section
variable {v : D} {pn : Option Pn} {Q : D → Bool → Option Pn → Prop}
end
end K1

set_option Elab.async false
set_option linter.all false
set_option maxRecDepth 100000
set_option maxHeartbeats 8000000
namespace K1
open PySem L2 Fs
local macro_rules
  | `(tactic| fail) => `(tactic| first
    | (refine' gateE ?_; first | refine' w_var rfl ?_ | refine' w_own rfl ?_ | refine' w_int ?_ | refine' w_bool ?_ | refine' w_non ?_ | refine' w_str ?_ | refine' w_glob ?_ | refine' w_call ?_ | refine' w_ix ?_ | refine' w_cmp ?_ | refine' w_bin ?_ | refine' w_one ?_ | refine' w_blt ?_ | refine' w_isi ?_ | refine' w_not ?_ | refine' w_isN ?_ | refine' w_notN ?_ | refine' w_tup ?_ | refine' w_lst ?_ | refine' w_and ?_ | refine' w_or ?_ | refine' w_sl ?_ | refine' w_lc ?_ | refine' w_neg ?_ | refine' w_cmp2P ?_ ?_)
    | refine' wl_nil ?_
    | refine' wl_cons ?_
    | (refine' gate1 ?_; first | refine' w1_set ?_ | refine' w1_ret ?_ | refine' w1_setT ?_ | refine' w1_set2 ?_ | refine' w1_app rfl ?_ | refine' w1_ins rfl ?_ | refine' w1_expr ?_ | refine' w1_rev rfl ?_ | refine' w1_ext rfl ?_ | refine' w1_setLc ?_ | refine' w1_for ?_ | refine' w1_retN ?_ | refine' w1_cont ?_ | refine' w1_brk ?_ | refine' w1_pass ?_)
    | refine' ws_nil ?_
    | refine' ws_cons ?_
    | (refine' gateB ?_; first | refine' wb_and1 ?_ | refine' wb_or1 ?_ | refine' wb_andP ?_ (fun _ => ?_) ?_ | refine' wb_orP ?_ (fun _ => ?_) ?_ | refine' wb_of ?_)
    | refine' wv ?_
    | (refine' gateK ?_; first | refine' k_lt ?_ | refine' k_le ?_ | refine' k_gt ?_ | refine' k_ge ?_ | refine' k_eqI ?_ | refine' k_neI ?_ | refine' k_inT ?_ | refine' k_inL ?_ | refine' k_ninT ?_ | refine' k_ninL ?_)
    | (refine' gateF ?_; first | refine' f_lenL ?_ | refine' f_lenT ?_ | refine' f_int ?_ | refine' f_tupL ?_ | refine' f_tupT ?_ | refine' f_listL ?_ | refine' f_listT ?_ | refine' f_max2 ?_ | refine' f_rev1T ?_ | refine' f_rev1L ?_ | refine' f_min2 ?_)
    | (refine' gateI ?_; first | refine' wi rfl ?_ | refine' wi_atT rfl rfl ?_ | refine' wi_atL rfl rfl ?_)
    | (refine' gateT ?_; first | refine' wt_v rfl ?_ | refine' wt_t2 rfl ?_ | refine' wt_t3 rfl ?_ | refine' wt_t4 rfl ?_ | refine' wt_t5 rfl ?_ | refine' wt rfl ?_)
    | (refine' gateR ?_; first | refine' wr_seq ?_ | refine' wr_enum ?_ | refine' wr_zip ?_ | refine' wr_rng ?_ | refine' wr_rng2 ?_)
    | (refine' gateSl ?_; first | refine' slF_T rfl ?_ | refine' slT_T rfl ?_ | refine' slF_L rfl ?_ | refine' slT_L rfl ?_)
    | refine' wo_none ?_
    | refine' wo_some ?_
    | refine' wal_nil ?_
    | refine' wal_one ?_
    | refine' d_add ?_
    | refine' d_sub ?_
    | refine' z_TT ?_
    | refine' z_LL ?_
    | refine' wret ?_
    | exact rfl
    | refine' ⟨_, rfl, ?_⟩
    | refine' ⟨rfl, fun _ => ?_⟩
    | refine' ⟨rfl, ?_⟩
    | fail_if_success skip)
section
variable {v : D} {pn : Option Pn} {Q : D → Bool → Option Pn → Prop} {P : List Kind} {cs : List Claim} {ns : List Int} {t : Int}
end
end K1

set_option Elab.async false
set_option linter.all false
set_option maxRecDepth 100000
set_option maxHeartbeats 8000000
set_option pp.maxSteps 300
namespace K1
open PySem L2 Fs
section
variable {P : List Kind} {cs : List Claim} {t : Int}
variable {pn : Option Pn} {Q : D → Bool → Option Pn → Prop}
/-- the kinds that are chosen, one choice after the other -/
def choices : Nat → List (List Int)
  | 0 => [[]]
  | m + 1 => choices m ++ (choices m).map (· ++ [(m : Int)])
theorem choices_ok : ∀ {m : Nat} {K : List Int}, K ∈ choices m → K.Nodup ∧ ∀ k ∈ K, 0 ≤ k ∧ k < m
  | 0, K, h => by
    rw [choices, List.mem_singleton] at h
    subst h
    exact ⟨List.nodup_nil, fun k hk => by cases hk⟩
  | m + 1, K, h => by
    rw [choices, List.mem_append, List.mem_map] at h
    rcases h with h | ⟨J, h, rfl⟩
    · obtain ⟨a, b⟩ := choices_ok h
      exact ⟨a, fun k hk => by have := b k hk; omega⟩
    · obtain ⟨a, b⟩ := choices_ok h
      refine ⟨List.nodup_append.mpr ⟨a, by simp, fun x hx y hy e => ?_⟩, fun k hk => ?_⟩
      · rw [List.mem_singleton] at hy
        have := b x hx
        omega
      · rcases List.mem_append.mp hk with hk | hk
        · have := b k hk; omega
        · rw [List.mem_singleton.mp hk]; omega
theorem choices_all : ∀ (m : Nat) (p : Int → Bool), ∃ K ∈ choices m, ∀ k, k ∈ K ↔ (0 ≤ k ∧ k < m) ∧ p k = true
  | 0, p => ⟨[], by simp [choices], fun k => ⟨fun h => (by cases h), fun h => (by omega)⟩⟩
  | m + 1, p => by
    obtain ⟨K, hK, h⟩ := choices_all m p
    rw [choices]
    by_cases z : p (m : Int) = true
    · refine ⟨K ++ [(m : Int)], List.mem_append_right _ (List.mem_map.mpr ⟨K, hK, rfl⟩), fun k => ?_⟩
      rw [List.mem_append, List.mem_singleton, h]
      constructor
      · rintro (⟨a, b⟩ | rfl)
        · exact ⟨by omega, b⟩
        · exact ⟨by omega, z⟩
      · rintro ⟨a, b⟩
        by_cases e : k = m
        · exact .inr e
        · exact .inl ⟨by omega, b⟩
    · refine ⟨K, List.mem_append_left _ hK, fun k => ?_⟩
      rw [h]
      constructor
      · rintro ⟨a, b⟩; exact ⟨by omega, b⟩
      · rintro ⟨a, b⟩
        refine ⟨?_, b⟩
        have : k ≠ m := fun e => z (by rw [← e]; exact b)
        omega
end
end K1

set_option Elab.async false
set_option linter.all false
set_option maxRecDepth 100000
set_option maxHeartbeats 8000000
set_option pp.maxSteps 400
namespace K1
open PySem L2 Fs
local macro_rules
  | `(tactic| fail) => `(tactic| first
    | (refine' gateE ?_; first | refine' w_var rfl ?_ | refine' w_own rfl ?_ | refine' w_int ?_ | refine' w_bool ?_ | refine' w_non ?_ | refine' w_str ?_ | refine' w_glob ?_ | refine' w_call ?_ | refine' w_ix ?_ | refine' w_cmp ?_ | refine' w_bin ?_ | refine' w_one ?_ | refine' w_blt ?_ | refine' w_isi ?_ | refine' w_not ?_ | refine' w_isN ?_ | refine' w_notN ?_ | refine' w_tup ?_ | refine' w_lst ?_ | refine' w_and ?_ | refine' w_or ?_ | refine' w_sl ?_ | refine' w_lc ?_ | refine' w_neg ?_ | refine' w_cmp2P ?_ ?_)
    | refine' wl_nil ?_
    | refine' wl_cons ?_
    | (refine' gate1 ?_; first | refine' w1_set ?_ | refine' w1_ret ?_ | refine' w1_setT ?_ | refine' w1_set2 ?_ | refine' w1_app rfl ?_ | refine' w1_ins rfl ?_ | refine' w1_expr ?_ | refine' w1_rev rfl ?_ | refine' w1_ext rfl ?_ | refine' w1_setLc ?_ | refine' w1_for ?_ | refine' w1_retN ?_ | refine' w1_cont ?_ | refine' w1_brk ?_ | refine' w1_pass ?_)
    | refine' ws_nil ?_
    | refine' ws_cons ?_
    | (refine' gateB ?_; first | refine' wb_and1 ?_ | refine' wb_or1 ?_ | refine' wb_andP ?_ (fun _ => ?_) ?_ | refine' wb_orP ?_ (fun _ => ?_) ?_ | refine' wb_of ?_)
    | refine' wv ?_
    | (refine' gateK ?_; first | refine' k_lt ?_ | refine' k_le ?_ | refine' k_gt ?_ | refine' k_ge ?_ | refine' k_eqI ?_ | refine' k_neI ?_ | refine' k_inT ?_ | refine' k_inL ?_ | refine' k_ninT ?_ | refine' k_ninL ?_)
    | (refine' gateF ?_; first | refine' f_lenL ?_ | refine' f_lenT ?_ | refine' f_int ?_ | refine' f_tupL ?_ | refine' f_tupT ?_ | refine' f_listL ?_ | refine' f_listT ?_ | refine' f_max2 ?_ | refine' f_rev1T ?_ | refine' f_rev1L ?_ | refine' f_min2 ?_)
    | (refine' gateI ?_; first | refine' wi rfl ?_ | refine' wi_atT rfl rfl ?_ | refine' wi_atL rfl rfl ?_)
    | (refine' gateT ?_; first | refine' wt_v rfl ?_ | refine' wt_t2 rfl ?_ | refine' wt_t3 rfl ?_ | refine' wt_t4 rfl ?_ | refine' wt_t5 rfl ?_ | refine' wt rfl ?_)
    | (refine' gateR ?_; first | refine' wr_seq ?_ | refine' wr_enum ?_ | refine' wr_zip ?_ | refine' wr_rng ?_ | refine' wr_rng2 ?_)
    | (refine' gateSl ?_; first | refine' slF_T rfl ?_ | refine' slT_T rfl ?_ | refine' slF_L rfl ?_ | refine' slT_L rfl ?_)
    | refine' wo_none ?_
    | refine' wo_some ?_
    | refine' wal_nil ?_
    | refine' wal_one ?_
    | refine' d_add ?_
    | refine' d_sub ?_
    | refine' z_TT ?_
    | refine' z_LL ?_
    | refine' wret ?_
    | exact rfl
    | refine' ⟨_, rfl, ?_⟩
    | refine' ⟨rfl, fun _ => ?_⟩
    | refine' ⟨rfl, ?_⟩
    | fail_if_success skip)
section
variable {pn : Option Pn} {Q : D → Bool → Option Pn → Prop} {P : List Kind} {cs : List Claim} {t : Int}
theorem choices_len : ∀ m : Nat, (choices m).length = 2 ^ m
  | 0 => rfl
  | m + 1 => by rw [choices, List.length_append, List.length_map, choices_len m, Nat.pow_succ]; omega
theorem choices_le {m : Nat} (h : m ≤ 6) : (choices m).length ≤ 64 := by
  rw [choices_len]
  exact Nat.le_trans (Nat.pow_le_pow_right (by decide) h) (by decide)
end
end K1

set_option Elab.async false
set_option linter.all false
set_option maxRecDepth 100000
set_option maxHeartbeats 8000000
set_option pp.maxSteps 400
namespace K1
open PySem L2 Fs
def ir_are_market_seats : ISs := (.cons (.ite (.or (.cons (.not (.isi (.var 0) .tuple)) (.cons (.not (.cmp2 .LtE .LtE (.int 1) (.blt .len (.cons (.var 0) .nil)) (.glob "MOST_MARKET_KINDS" (.int 6)))) .nil)))
  (.cons (.ret (.bool false))
  .nil)
  .nil)
  (.cons (.ret (.blt .all (.cons (.lc (.call "is_between" F_is_between (.cons (.var 1) (.cons (.int 1) (.cons (.glob "MOST_KIND_SEATS" (.int 20)) .nil)))) (.v 1) (.seq (.var 0)) .nil) .nil)))
  .nil))
def F_are_market_seats : Fn := runF 2 ir_are_market_seats
def ir_is_bid : ISs := (.cons (.ite (.or (.cons (.not (.isi (.var 0) .tuple)) (.cons (.cmp .NotEq (.blt .len (.cons (.var 0) .nil)) (.var 1)) .nil)))
  (.cons (.ret (.bool false))
  .nil)
  .nil)
  (.cons (.ret (.blt .all (.cons (.lc (.or (.cons (.isN (.var 2)) (.cons (.call "is_between" F_is_between (.cons (.var 2) (.cons (.int 0) (.cons (.glob "MOST_BID_WORTH" (.int 100)) .nil)))) .nil))) (.v 2) (.seq (.var 0)) .nil) .nil)))
  .nil))
def F_is_bid : Fn := runF 3 ir_is_bid
def ir_is_market : ISs := (.cons (.ite (.or (.cons (.not (.isi (.var 0) .tuple)) (.cons (.cmp .NotEq (.blt .len (.cons (.var 0) .nil)) (.int 2)) (.cons (.not (.call "are_market_seats" F_are_market_seats (.cons (.ix (.var 0) (.int 0)) .nil))) .nil))))
  (.cons (.ret (.bool false))
  .nil)
  .nil)
  (.cons (.ite (.or (.cons (.not (.isi (.ix (.var 0) (.int 1)) .tuple)) (.cons (.cmp .Gt (.blt .len (.cons (.ix (.var 0) (.int 1)) .nil)) (.glob "MOST_BIDS" (.int 12))) .nil)))
  (.cons (.ret (.bool false))
  .nil)
  .nil)
  (.cons (.ret (.blt .all (.cons (.lc (.call "is_bid" F_is_bid (.cons (.var 1) (.cons (.blt .len (.cons (.ix (.var 0) (.int 0)) .nil)) .nil))) (.v 1) (.seq (.ix (.var 0) (.int 1))) .nil) .nil)))
  .nil)))
def F_is_market : Fn := runF 2 ir_is_market
def ir_require_market : ISs := (.cons (.ite (.not (.call "is_market" F_is_market (.cons (.var 0) .nil)))
  (.cons .never
  .nil)
  .nil)
  .nil)
def F_require_market : Fn := runF 1 ir_require_market
def ir_is_prices_of : ISs := (.cons (.ite (.or (.cons (.not (.isi (.var 1) .tuple)) (.cons (.cmp .NotEq (.blt .len (.cons (.var 1) .nil)) (.blt .len (.cons (.ix (.var 0) (.int 0)) .nil))) .nil)))
  (.cons (.ret (.bool false))
  .nil)
  .nil)
  (.cons (.ret (.blt .all (.cons (.lc (.call "is_between" F_is_between (.cons (.var 2) (.cons (.int 0) (.cons (.glob "MOST_PRICE" (.int 200)) .nil)))) (.v 2) (.seq (.var 1)) .nil) .nil)))
  .nil))
def F_is_prices_of : Fn := runF 3 ir_is_prices_of
local macro_rules
  | `(tactic| fail) => `(tactic| first
    | (refine' gateE ?_; first | refine' w_var rfl ?_ | refine' w_own rfl ?_ | refine' w_int ?_ | refine' w_bool ?_ | refine' w_non ?_ | refine' w_str ?_ | refine' w_glob ?_ | refine' w_call ?_ | refine' w_ix ?_ | refine' w_cmp ?_ | refine' w_bin ?_ | refine' w_one ?_ | refine' w_blt ?_ | refine' w_isi ?_ | refine' w_not ?_ | refine' w_isN ?_ | refine' w_notN ?_ | refine' w_tup ?_ | refine' w_lst ?_ | refine' w_and ?_ | refine' w_or ?_ | refine' w_sl ?_ | refine' w_lc ?_ | refine' w_neg ?_ | refine' w_cmp2P ?_ ?_)
    | refine' wl_nil ?_
    | refine' wl_cons ?_
    | (refine' gate1 ?_; first | refine' w1_set ?_ | refine' w1_ret ?_ | refine' w1_setT ?_ | refine' w1_set2 ?_ | refine' w1_app rfl ?_ | refine' w1_ins rfl ?_ | refine' w1_expr ?_ | refine' w1_rev rfl ?_ | refine' w1_ext rfl ?_ | refine' w1_setLc ?_ | refine' w1_for ?_ | refine' w1_retN ?_ | refine' w1_cont ?_ | refine' w1_brk ?_ | refine' w1_pass ?_)
    | refine' ws_nil ?_
    | refine' ws_cons ?_
    | (refine' gateB ?_; first | refine' wb_and1 ?_ | refine' wb_or1 ?_ | refine' wb_andP ?_ (fun _ => ?_) ?_ | refine' wb_orP ?_ (fun _ => ?_) ?_ | refine' wb_of ?_)
    | refine' wv ?_
    | (refine' gateK ?_; first | refine' k_lt ?_ | refine' k_le ?_ | refine' k_gt ?_ | refine' k_ge ?_ | refine' k_eqI ?_ | refine' k_neI ?_ | refine' k_inT ?_ | refine' k_inL ?_ | refine' k_ninT ?_ | refine' k_ninL ?_)
    | (refine' gateF ?_; first | refine' f_lenL ?_ | refine' f_lenT ?_ | refine' f_int ?_ | refine' f_tupL ?_ | refine' f_tupT ?_ | refine' f_listL ?_ | refine' f_listT ?_ | refine' f_max2 ?_ | refine' f_rev1T ?_ | refine' f_rev1L ?_ | refine' f_min2 ?_)
    | (refine' gateI ?_; first | refine' wi rfl ?_ | refine' wi_atT rfl rfl ?_ | refine' wi_atL rfl rfl ?_)
    | (refine' gateT ?_; first | refine' wt_v rfl ?_ | refine' wt_t2 rfl ?_ | refine' wt_t3 rfl ?_ | refine' wt_t4 rfl ?_ | refine' wt_t5 rfl ?_ | refine' wt rfl ?_)
    | (refine' gateR ?_; first | refine' wr_seq ?_ | refine' wr_enum ?_ | refine' wr_zip ?_ | refine' wr_rng ?_ | refine' wr_rng2 ?_)
    | (refine' gateSl ?_; first | refine' slF_T rfl ?_ | refine' slT_T rfl ?_ | refine' slF_L rfl ?_ | refine' slT_L rfl ?_)
    | refine' wo_none ?_
    | refine' wo_some ?_
    | refine' wal_nil ?_
    | refine' wal_one ?_
    | refine' d_add ?_
    | refine' d_sub ?_
    | refine' z_TT ?_
    | refine' z_LL ?_
    | refine' wret ?_
    | exact rfl
    | refine' ⟨_, rfl, ?_⟩
    | refine' ⟨rfl, fun _ => ?_⟩
    | refine' ⟨rfl, ?_⟩
    | fail_if_success skip)
structure Mkt where
  seats : List Int
  bids : List (List (Option Int))
def bidD (b : List (Option Int)) : D := .tuple (b.map optD)
def mktD (m : Mkt) : D := .tuple [intsD m.seats, .tuple (m.bids.map bidD)]
def worthB (w : Option Int) : Prop := ∀ i, w = some i → 0 ≤ i ∧ i ≤ 100
structure MktOk (m : Mkt) : Prop where
  len : 1 ≤ m.seats.length ∧ m.seats.length ≤ 6
  rg : ∀ n ∈ m.seats, 1 ≤ n ∧ n ≤ 20
  many : m.bids.length ≤ 12
  bid : ∀ b ∈ m.bids, b.length = m.seats.length ∧ ∀ w ∈ b, worthB w
def seatsMB : D → Bool
  | .tuple vs => (decide ((1 : Int) ≤ (vs.length : Int)) && decide ((vs.length : Int) ≤ 6)) && vs.all fun x => betw x 1 20
  | _ => false
def worthD (x : D) : Bool := isn x || betw x 0 100
def bidB (n : Nat) : D → Bool
  | .tuple vs => decide (vs.length = n) && vs.all worthD
  | _ => false
def lenT : D → Nat
  | .tuple vs => vs.length
  | _ => 0
def bidsB (n : Nat) : D → Bool
  | .tuple bs => decide (bs.length ≤ 12) && bs.all (bidB n)
  | _ => false
def marketB : D → Bool
  | .tuple [a, b] => seatsMB a && bidsB (lenT a) b
  | _ => false
def rangeB (lo hi : Int) (n : Nat) : D → Bool
  | .tuple vs => decide (vs.length = n) && vs.all fun x => betw x lo hi
  | _ => false
theorem betw_in {lo hi i : Int} (h : lo ≤ i ∧ i ≤ hi) : betw (.int i) lo hi = true := by
  rw [betw, decide_eq_true h.1, decide_eq_true h.2]; rfl
theorem worthD_opt {w : Option Int} (h : worthB w) : worthD (optD w) = true := by
  cases w with
  | none => rfl
  | some i => rw [worthD, optD, betw_in (h i rfl), Bool.or_true]
theorem market_ok {m : Mkt} (h : MktOk m) : marketB (mktD m) = true := by
  have h1 := h.len
  have e1 : seatsMB (intsD m.seats) = true := by
    show ((decide ((1 : Int) ≤ ((m.seats.map PyData.int).length : Int)) && decide (((m.seats.map PyData.int).length : Int) ≤ 6)) && _) = true
    rw [Bool.and_eq_true, Bool.and_eq_true, decide_eq_true_iff, decide_eq_true_iff, List.length_map]
    refine ⟨by omega, List.all_eq_true.mpr fun x hx => ?_⟩
    obtain ⟨i, hi, rfl⟩ := List.mem_map.mp hx
    exact betw_in (h.rg i hi)
  have e2 : bidsB (lenT (intsD m.seats)) (.tuple (m.bids.map bidD)) = true := by
    rw [bidsB, Bool.and_eq_true, decide_eq_true_iff, List.length_map]
    refine ⟨h.many, List.all_eq_true.mpr fun x hx => ?_⟩
    obtain ⟨b, hb, rfl⟩ := List.mem_map.mp hx
    obtain ⟨hl, hw⟩ := h.bid b hb
    rw [bidD, bidB, Bool.and_eq_true, decide_eq_true_iff, List.length_map, hl]
    refine ⟨by simp [lenT, intsD], List.all_eq_true.mpr fun y hy => ?_⟩
    obtain ⟨w, hw', rfl⟩ := List.mem_map.mp hy
    exact worthD_opt (hw w hw')
  rw [mktD, marketB, e1, e2]; rfl
theorem nnc {b c : Bool} (z : (!true || !b) = c) : b = !c := by cases b <;> cases c <;> first | rfl | cases z
section
variable {v : D} {pn : Option Pn} {Q : D → Bool → Option Pn → Prop}
theorem c_are_market_seats (g : Tm v) (h : Q (.bool (seatsMB v)) false pn) : WC F_are_market_seats [v] pn Q := by
  refine w_run ?_
  unfold ir_are_market_seats
  cases v
  case dict => exact g.nodict.elim
  case tuple vs =>
    change Q (.bool ((decide ((1 : Int) ≤ (vs.length : Int)) && decide ((vs.length : Int) ≤ 6)) && vs.all fun x => betw x 1 20)) false pn at h
    refine ws_cons (w1_ite ?_)
    (repeat' first | fail)
    refine ⟨fun z => ?_, fun z => ?_⟩
    · rw [nnc z] at h
      (repeat' first | fail | refine' w1_ite ?_)
      exact h
    · rw [nnc z] at h
      (repeat' first | refine' wlc_all it_id ?_ (lenOk g.lenT) (fun x hx => ?_) ?_ ?_ | ((with_reducible show WC F_is_between _ _ _); refine' c_is_between (g.tup hx) ?_) | refine' f_allM ?_ | fail | refine' w1_ite ?_)
      exact h
  all_goals
    refine ws_cons (w1_iteT (wb_orT ?_))
    (repeat' first | fail | refine' w1_ite ?_)
    exact h
theorem k_neN {n m : Nat} {Q : Bool → Prop} (h : Q (!decide (n = m))) : WK .NotEq (.int (n : Nat)) (.int (m : Nat)) Q := by
  refine k_neI ?_
  have : decide ((n : Int) = (m : Int)) = decide (n = m) := by
    by_cases z : n = m
    · rw [decide_eq_true z, decide_eq_true (by rw [z])]
    · rw [decide_eq_false z, decide_eq_false (by omega)]
  rw [this]; exact h
theorem c_is_bid {n : Nat} (g : Tm v) (h : Q (.bool (bidB n v)) false pn) : WC F_is_bid [v, .int (n : Nat)] pn Q := by
  refine w_run ?_
  unfold ir_is_bid
  cases v
  case dict => exact g.nodict.elim
  case tuple vs =>
    change Q (.bool (decide (vs.length = n) && vs.all worthD)) false pn at h
    refine ws_cons (w1_ite ?_)
    (repeat' first | refine' k_neN ?_ | fail)
    refine ⟨fun z => ?_, fun z => ?_⟩
    · rw [nnc z] at h
      (repeat' first | fail | refine' w1_ite ?_)
      exact h
    · rw [nnc z] at h
      (repeat' first | refine' wlc_all it_id ?_ (lenOk g.lenT) (fun x hx => ?_) ?_ ?_ | ((with_reducible show WC F_is_between _ _ _); refine' c_is_between (g.tup hx) ?_) | refine' f_allM (p := worthD) ?_ | fail | refine' w1_ite ?_)
      exact h
  all_goals
    refine ws_cons (w1_iteT (wb_orT ?_))
    (repeat' first | fail | refine' w1_ite ?_)
    exact h
theorem c_is_market (g : Tm v) (h : Q (.bool (marketB v)) false pn) : WC F_is_market [v] pn Q := by
  refine w_run ?_
  unfold ir_is_market
  cases v
  case dict => exact g.nodict.elim
  case tuple vs =>
    by_cases hl : vs.length = 2
    · obtain ⟨a, b, rfl⟩ : ∃ a b, vs = [a, b] := by
        match vs, hl with
        | [a, b], _ => exact ⟨a, b, rfl⟩
      change Q (.bool (seatsMB a && bidsB (lenT a) b)) false pn at h
      have ga : Tm a := g.tup (by simp)
      have gb : Tm b := g.tup (by simp)
      refine ws_cons (w1_ite ?_)
      (repeat' first |  ((with_reducible show WC F_are_market_seats _ _ _); refine' c_are_market_seats ga ?_)  | fail)
      refine ⟨fun z => ?_, fun z => ?_⟩
      · have hs : seatsMB a = false := by simpa using z
        rw [hs] at h
        (repeat' first | fail | refine' w1_ite ?_)
        exact h
      · have hs : seatsMB a = true := by simpa using z
        rw [hs] at h
        obtain ⟨vs, rfl⟩ : ∃ vs, a = .tuple vs := by
          cases a <;> first | (cases hs; done) | exact ⟨_, rfl⟩
        cases b
        case dict => exact gb.nodict.elim
        case tuple bs =>
          change Q (.bool (true && (decide (bs.length ≤ 12) && bs.all (bidB vs.length)))) false pn at h
          have e : decide ((bs.length : Int) > 12) = !decide (bs.length ≤ 12) := by
            by_cases z : bs.length ≤ 12
            · rw [decide_eq_true z, decide_eq_false (by omega)]; rfl
            · rw [decide_eq_false z, decide_eq_true (by omega)]; rfl
          refine ws_nil (ws_cons (w1_ite ?_))
          (repeat' first | fail)
          refine ⟨fun z => ?_, fun z => ?_⟩
          · have hz : decide (bs.length ≤ 12) = false := by rw [e] at z; simpa using z
            rw [hz] at h
            (repeat' first | fail | refine' w1_ite ?_)
            exact h
          · have hz : decide (bs.length ≤ 12) = true := by rw [e] at z; simpa using z
            rw [hz] at h
            (repeat' first | refine' wlc_all it_id ?_ (lenOk gb.lenT) (fun x hx => ?_) ?_ ?_ | ((with_reducible show WC F_is_bid _ _ _); refine' c_is_bid (gb.tup hx) ?_) | refine' f_allM (p := bidB vs.length) ?_ | fail | refine' w1_ite ?_)
            exact h
        all_goals
          refine ws_nil (ws_cons (w1_iteT (wb_orT ?_)))
          (repeat' first | fail | refine' w1_ite ?_)
          exact h
    · refine ws_cons (w1_iteT (wb_orF ?_))
      (repeat' first | refine' wb_orT ?_ | fail | refine' w1_ite ?_)
      · simp; omega
      (repeat' first | fail | refine' w1_ite ?_)
      rw [show marketB (.tuple vs) = false by match vs, hl with | [], _ => rfl | [_], _ => rfl | _ :: _ :: _ :: _, _ => rfl] at h
      exact h
  all_goals
    refine ws_cons (w1_iteT (wb_orT ?_))
    (repeat' first | fail | refine' w1_ite ?_)
    exact h
theorem c_require_market (g : Tm v) (hm : marketB v = true) (h : Q .none false pn) : WC F_require_market [v] pn Q := by
  refine w_run ?_
  unfold ir_require_market
  refine ws_cons (w1_iteF ?_)
  (repeat' first |  ((with_reducible show WC F_is_market _ _ _); refine' c_is_market g ?_)  | fail | refine' w1_ite ?_)
  rw [hm]
  (repeat' first | fail | refine' w1_ite ?_)
  exact h
end
end K1

set_option Elab.async false
set_option linter.all false
set_option maxRecDepth 100000
set_option maxHeartbeats 8000000
set_option pp.maxSteps 400
namespace K1
open PySem L2 Fs
local macro_rules
  | `(tactic| fail) => `(tactic| first
    | (refine' gateE ?_; first | refine' w_var rfl ?_ | refine' w_own rfl ?_ | refine' w_int ?_ | refine' w_bool ?_ | refine' w_non ?_ | refine' w_str ?_ | refine' w_glob ?_ | refine' w_call ?_ | refine' w_ix ?_ | refine' w_cmp ?_ | refine' w_bin ?_ | refine' w_one ?_ | refine' w_blt ?_ | refine' w_isi ?_ | refine' w_not ?_ | refine' w_isN ?_ | refine' w_notN ?_ | refine' w_tup ?_ | refine' w_lst ?_ | refine' w_and ?_ | refine' w_or ?_ | refine' w_sl ?_ | refine' w_lc ?_ | refine' w_neg ?_ | refine' w_cmp2P ?_ ?_)
    | refine' wl_nil ?_
    | refine' wl_cons ?_
    | (refine' gate1 ?_; first | refine' w1_set ?_ | refine' w1_ret ?_ | refine' w1_setT ?_ | refine' w1_set2 ?_ | refine' w1_app rfl ?_ | refine' w1_ins rfl ?_ | refine' w1_expr ?_ | refine' w1_rev rfl ?_ | refine' w1_ext rfl ?_ | refine' w1_setLc ?_ | refine' w1_for ?_ | refine' w1_retN ?_ | refine' w1_cont ?_ | refine' w1_brk ?_ | refine' w1_pass ?_)
    | refine' ws_nil ?_
    | refine' ws_cons ?_
    | (refine' gateB ?_; first | refine' wb_and1 ?_ | refine' wb_or1 ?_ | refine' wb_andP ?_ (fun _ => ?_) ?_ | refine' wb_orP ?_ (fun _ => ?_) ?_ | refine' wb_of ?_)
    | refine' wv ?_
    | (refine' gateK ?_; first | refine' k_lt ?_ | refine' k_le ?_ | refine' k_gt ?_ | refine' k_ge ?_ | refine' k_eqI ?_ | refine' k_neI ?_ | refine' k_inT ?_ | refine' k_inL ?_ | refine' k_ninT ?_ | refine' k_ninL ?_)
    | (refine' gateF ?_; first | refine' f_lenL ?_ | refine' f_lenT ?_ | refine' f_int ?_ | refine' f_tupL ?_ | refine' f_tupT ?_ | refine' f_listL ?_ | refine' f_listT ?_ | refine' f_max2 ?_ | refine' f_rev1T ?_ | refine' f_rev1L ?_ | refine' f_min2 ?_)
    | (refine' gateI ?_; first | refine' wi rfl ?_ | refine' wi_atT rfl rfl ?_ | refine' wi_atL rfl rfl ?_)
    | (refine' gateT ?_; first | refine' wt_v rfl ?_ | refine' wt_t2 rfl ?_ | refine' wt_t3 rfl ?_ | refine' wt_t4 rfl ?_ | refine' wt_t5 rfl ?_ | refine' wt rfl ?_)
    | (refine' gateR ?_; first | refine' wr_seq ?_ | refine' wr_enum ?_ | refine' wr_zip ?_ | refine' wr_rng ?_ | refine' wr_rng2 ?_)
    | (refine' gateSl ?_; first | refine' slF_T rfl ?_ | refine' slT_T rfl ?_ | refine' slF_L rfl ?_ | refine' slT_L rfl ?_)
    | refine' wo_none ?_
    | refine' wo_some ?_
    | refine' wal_nil ?_
    | refine' wal_one ?_
    | refine' d_add ?_
    | refine' d_sub ?_
    | refine' z_TT ?_
    | refine' z_LL ?_
    | refine' wret ?_
    | exact rfl
    | refine' ⟨_, rfl, ?_⟩
    | refine' ⟨rfl, fun _ => ?_⟩
    | refine' ⟨rfl, ?_⟩
    | fail_if_success skip)
theorem f_lenN {ns : List Int} {Q : D → Tg → Prop} (h : Q (.int (ns.length : Nat)) .fz) : WF .len [intsD ns] Q := by
  refine f_lenT ?_
  rw [List.length_map]; exact h
section
variable {v : D} {pn : Option Pn} {Q : D → Bool → Option Pn → Prop}
theorem c_is_prices_of {m : Mkt} (hm : MktOk m) (g : Tm v) (h : Q (.bool (rangeB 0 200 m.seats.length v)) false pn) : WC F_is_prices_of [mktD m, v] pn Q := by
  refine w_run ?_
  unfold ir_is_prices_of
  cases v
  case dict => exact g.nodict.elim
  case tuple vs =>
    change Q (.bool (decide (vs.length = m.seats.length) && vs.all fun x => betw x 0 200)) false pn at h
    refine ws_cons (w1_ite ?_)
    (repeat' first | refine' f_lenN ?_ | refine' k_neN ?_ | fail)
    refine ⟨fun z => ?_, fun z => ?_⟩
    · rw [nnc z] at h
      (repeat' first | fail | refine' w1_ite ?_)
      exact h
    · rw [nnc z] at h
      (repeat' first | refine' wlc_all it_id ?_ (lenOk g.lenT) (fun x hx => ?_) ?_ ?_ | ((with_reducible show WC F_is_between _ _ _); refine' c_is_between (g.tup hx) ?_) | refine' f_allM ?_ | fail | refine' w1_ite ?_)
      exact h
  all_goals
    refine ws_cons (w1_iteT (wb_orT ?_))
    (repeat' first | fail | refine' w1_ite ?_)
    exact h
end
end K1

set_option Elab.async false
set_option linter.all false
set_option maxRecDepth 100000
set_option maxHeartbeats 8000000
set_option pp.maxSteps 400
namespace K1
open PySem L2 Fs
local macro_rules
  | `(tactic| fail) => `(tactic| first
    | (refine' gateE ?_; first | refine' w_var rfl ?_ | refine' w_own rfl ?_ | refine' w_int ?_ | refine' w_bool ?_ | refine' w_non ?_ | refine' w_str ?_ | refine' w_glob ?_ | refine' w_call ?_ | refine' w_ix ?_ | refine' w_cmp ?_ | refine' w_bin ?_ | refine' w_one ?_ | refine' w_blt ?_ | refine' w_isi ?_ | refine' w_not ?_ | refine' w_isN ?_ | refine' w_notN ?_ | refine' w_tup ?_ | refine' w_lst ?_ | refine' w_and ?_ | refine' w_or ?_ | refine' w_sl ?_ | refine' w_lc ?_ | refine' w_neg ?_ | refine' w_cmp2P ?_ ?_)
    | refine' wl_nil ?_
    | refine' wl_cons ?_
    | (refine' gate1 ?_; first | refine' w1_set ?_ | refine' w1_ret ?_ | refine' w1_setT ?_ | refine' w1_set2 ?_ | refine' w1_app rfl ?_ | refine' w1_ins rfl ?_ | refine' w1_expr ?_ | refine' w1_rev rfl ?_ | refine' w1_ext rfl ?_ | refine' w1_setLc ?_ | refine' w1_for ?_ | refine' w1_retN ?_ | refine' w1_cont ?_ | refine' w1_brk ?_ | refine' w1_pass ?_)
    | refine' ws_nil ?_
    | refine' ws_cons ?_
    | (refine' gateB ?_; first | refine' wb_and1 ?_ | refine' wb_or1 ?_ | refine' wb_andP ?_ (fun _ => ?_) ?_ | refine' wb_orP ?_ (fun _ => ?_) ?_ | refine' wb_of ?_)
    | refine' wv ?_
    | (refine' gateK ?_; first | refine' k_lt ?_ | refine' k_le ?_ | refine' k_gt ?_ | refine' k_ge ?_ | refine' k_eqI ?_ | refine' k_neI ?_ | refine' k_inT ?_ | refine' k_inL ?_ | refine' k_ninT ?_ | refine' k_ninL ?_)
    | (refine' gateF ?_; first | refine' f_lenL ?_ | refine' f_lenT ?_ | refine' f_int ?_ | refine' f_tupL ?_ | refine' f_tupT ?_ | refine' f_listL ?_ | refine' f_listT ?_ | refine' f_max2 ?_ | refine' f_rev1T ?_ | refine' f_rev1L ?_ | refine' f_min2 ?_)
    | (refine' gateI ?_; first | refine' wi rfl ?_ | refine' wi_atT rfl rfl ?_ | refine' wi_atL rfl rfl ?_)
    | (refine' gateT ?_; first | refine' wt_v rfl ?_ | refine' wt_t2 rfl ?_ | refine' wt_t3 rfl ?_ | refine' wt_t4 rfl ?_ | refine' wt_t5 rfl ?_ | refine' wt rfl ?_)
    | (refine' gateR ?_; first | refine' wr_seq ?_ | refine' wr_enum ?_ | refine' wr_zip ?_ | refine' wr_rng ?_ | refine' wr_rng2 ?_)
    | (refine' gateSl ?_; first | refine' slF_T rfl ?_ | refine' slT_T rfl ?_ | refine' slF_L rfl ?_ | refine' slT_L rfl ?_)
    | refine' wo_none ?_
    | refine' wo_some ?_
    | refine' wal_nil ?_
    | refine' wal_one ?_
    | refine' d_add ?_
    | refine' d_sub ?_
    | refine' z_TT ?_
    | refine' z_LL ?_
    | refine' wret ?_
    | exact rfl
    | refine' ⟨_, rfl, ?_⟩
    | refine' ⟨rfl, fun _ => ?_⟩
    | refine' ⟨rfl, ?_⟩
    | fail_if_success skip)
section
variable {v : D} {pn : Option Pn} {Q : D → Bool → Option Pn → Prop} {m : Mkt}
theorem isn_opt (w : Option Int) : isn (optD w) = !w.isSome := by cases w <;> rfl
end
end K1

set_option Elab.async false
set_option linter.all false
set_option maxRecDepth 100000
set_option maxHeartbeats 8000000
set_option pp.maxSteps 400
namespace K1
open PySem L2 Fs
local macro_rules
  | `(tactic| fail) => `(tactic| first
    | (refine' gateE ?_; first | refine' w_var rfl ?_ | refine' w_own rfl ?_ | refine' w_int ?_ | refine' w_bool ?_ | refine' w_non ?_ | refine' w_str ?_ | refine' w_glob ?_ | refine' w_call ?_ | refine' w_ix ?_ | refine' w_cmp ?_ | refine' w_bin ?_ | refine' w_one ?_ | refine' w_blt ?_ | refine' w_isi ?_ | refine' w_not ?_ | refine' w_isN ?_ | refine' w_notN ?_ | refine' w_tup ?_ | refine' w_lst ?_ | refine' w_and ?_ | refine' w_or ?_ | refine' w_sl ?_ | refine' w_lc ?_ | refine' w_neg ?_ | refine' w_cmp2P ?_ ?_)
    | refine' wl_nil ?_
    | refine' wl_cons ?_
    | (refine' gate1 ?_; first | refine' w1_set ?_ | refine' w1_ret ?_ | refine' w1_setT ?_ | refine' w1_set2 ?_ | refine' w1_app rfl ?_ | refine' w1_ins rfl ?_ | refine' w1_expr ?_ | refine' w1_rev rfl ?_ | refine' w1_ext rfl ?_ | refine' w1_setLc ?_ | refine' w1_for ?_ | refine' w1_retN ?_ | refine' w1_cont ?_ | refine' w1_brk ?_ | refine' w1_pass ?_)
    | refine' ws_nil ?_
    | refine' ws_cons ?_
    | (refine' gateB ?_; first | refine' wb_and1 ?_ | refine' wb_or1 ?_ | refine' wb_andP ?_ (fun _ => ?_) ?_ | refine' wb_orP ?_ (fun _ => ?_) ?_ | refine' wb_of ?_)
    | refine' wv ?_
    | (refine' gateK ?_; first | refine' k_lt ?_ | refine' k_le ?_ | refine' k_gt ?_ | refine' k_ge ?_ | refine' k_eqI ?_ | refine' k_neI ?_ | refine' k_inT ?_ | refine' k_inL ?_ | refine' k_ninT ?_ | refine' k_ninL ?_)
    | (refine' gateF ?_; first | refine' f_lenL ?_ | refine' f_lenT ?_ | refine' f_int ?_ | refine' f_tupL ?_ | refine' f_tupT ?_ | refine' f_listL ?_ | refine' f_listT ?_ | refine' f_max2 ?_ | refine' f_rev1T ?_ | refine' f_rev1L ?_ | refine' f_min2 ?_)
    | (refine' gateI ?_; first | refine' wi rfl ?_ | refine' wi_atT rfl rfl ?_ | refine' wi_atL rfl rfl ?_)
    | (refine' gateT ?_; first | refine' wt_v rfl ?_ | refine' wt_t2 rfl ?_ | refine' wt_t3 rfl ?_ | refine' wt_t4 rfl ?_ | refine' wt_t5 rfl ?_ | refine' wt rfl ?_)
    | (refine' gateR ?_; first | refine' wr_seq ?_ | refine' wr_enum ?_ | refine' wr_zip ?_ | refine' wr_rng ?_ | refine' wr_rng2 ?_)
    | (refine' gateSl ?_; first | refine' slF_T rfl ?_ | refine' slT_T rfl ?_ | refine' slF_L rfl ?_ | refine' slT_L rfl ?_)
    | refine' wo_none ?_
    | refine' wo_some ?_
    | refine' wal_nil ?_
    | refine' wal_one ?_
    | refine' d_add ?_
    | refine' d_sub ?_
    | refine' z_TT ?_
    | refine' z_LL ?_
    | refine' wret ?_
    | exact rfl
    | refine' ⟨_, rfl, ?_⟩
    | refine' ⟨rfl, fun _ => ?_⟩
    | refine' ⟨rfl, ?_⟩
    | fail_if_success skip)
section
variable {p : Pn} {Q : D → Bool → Option Pn → Prop}
structure PricesOk (m : Mkt) (ps : List Int) : Prop where
  len : ps.length = m.seats.length
  rg : ∀ n ∈ ps, 0 ≤ n ∧ n ≤ 200
end
def cntS (s : List (Option Int)) (k : Int) : Nat := s.countP fun w => decide (w = some k)
structure SitOk (m : Mkt) (s : List (Option Int)) : Prop where
  len : s.length = m.bids.length
  at' : ∀ (i : Nat) (k : Int), s[i]? = some (some k) → 0 ≤ k ∧ k < m.seats.length ∧ ∃ b : List (Option Int), m.bids[i]? = some b ∧ (b.getD k.toNat none).isSome = true
  cap : ∀ k : Nat, k < m.seats.length → (cntS s k : Int) ≤ m.seats.getD k 0
section
variable {p : Pn} {Q : D → Bool → Option Pn → Prop}
end
end K1

set_option Elab.async false
set_option linter.all false
set_option maxRecDepth 100000
set_option maxHeartbeats 8000000
set_option pp.maxSteps 400
namespace K1
open PySem L2 Fs
def ir_require_prices : ISs := (.cons (.ite (.not (.call "is_prices_of" F_is_prices_of (.cons (.var 0) (.cons (.var 1) .nil))))
  (.cons .never
  .nil)
  .nil)
  .nil)
def F_require_prices : Fn := runF 2 ir_require_prices
def ir_find_gain : ISs := (.cons (.ret (.blt .max (.cons (.bin .Add (.lc (.bin .Sub (.var 2) (.var 3)) (.t [2, 3]) (.zip (.var 0) (.var 1)) (.cons (.notN (.var 2)) .nil)) (.lst (.cons (.int 0) .nil))) .nil)))
  .nil)
def F_find_gain : Fn := runF 4 ir_find_gain
def ir_find_best : ISs := (.cons (.set2 [2, 3] (.cons (.call "find_gain" F_find_gain (.cons (.var 0) (.cons (.var 1) .nil))) (.cons (.lst .nil) .nil)))
  (.cons (.for (.t [4, 5]) (.enum (.var 0))
  (.cons (.ite (.and (.cons (.notN (.var 5)) (.cons (.cmp .Eq (.bin .Sub (.var 5) (.ix (.var 1) (.var 4))) (.var 2)) .nil)))
  (.cons (.app 3 (.var 4))
  .nil)
  .nil)
  .nil))
  (.cons (.ret (.var 3))
  .nil)))
def F_find_best : Fn := runF 6 ir_find_best
local macro_rules
  | `(tactic| fail) => `(tactic| first
    | (refine' gateE ?_; first | refine' w_var rfl ?_ | refine' w_own rfl ?_ | refine' w_int ?_ | refine' w_bool ?_ | refine' w_non ?_ | refine' w_str ?_ | refine' w_glob ?_ | refine' w_call ?_ | refine' w_ix ?_ | refine' w_cmp ?_ | refine' w_bin ?_ | refine' w_one ?_ | refine' w_blt ?_ | refine' w_isi ?_ | refine' w_not ?_ | refine' w_isN ?_ | refine' w_notN ?_ | refine' w_tup ?_ | refine' w_lst ?_ | refine' w_and ?_ | refine' w_or ?_ | refine' w_sl ?_ | refine' w_lc ?_ | refine' w_neg ?_ | refine' w_cmp2P ?_ ?_)
    | refine' wl_nil ?_
    | refine' wl_cons ?_
    | (refine' gate1 ?_; first | refine' w1_set ?_ | refine' w1_ret ?_ | refine' w1_setT ?_ | refine' w1_set2 ?_ | refine' w1_app rfl ?_ | refine' w1_ins rfl ?_ | refine' w1_expr ?_ | refine' w1_rev rfl ?_ | refine' w1_ext rfl ?_ | refine' w1_setLc ?_ | refine' w1_for ?_ | refine' w1_retN ?_ | refine' w1_cont ?_ | refine' w1_brk ?_ | refine' w1_pass ?_)
    | refine' ws_nil ?_
    | refine' ws_cons ?_
    | (refine' gateB ?_; first | refine' wb_and1 ?_ | refine' wb_or1 ?_ | refine' wb_andP ?_ (fun _ => ?_) ?_ | refine' wb_orP ?_ (fun _ => ?_) ?_ | refine' wb_of ?_)
    | refine' wv ?_
    | (refine' gateK ?_; first | refine' k_lt ?_ | refine' k_le ?_ | refine' k_gt ?_ | refine' k_ge ?_ | refine' k_eqI ?_ | refine' k_neI ?_ | refine' k_inT ?_ | refine' k_inL ?_ | refine' k_ninT ?_ | refine' k_ninL ?_)
    | (refine' gateF ?_; first | refine' f_lenL ?_ | refine' f_lenT ?_ | refine' f_int ?_ | refine' f_tupL ?_ | refine' f_tupT ?_ | refine' f_listL ?_ | refine' f_listT ?_ | refine' f_max2 ?_ | refine' f_rev1T ?_ | refine' f_rev1L ?_ | refine' f_min2 ?_)
    | (refine' gateI ?_; first | refine' wi rfl ?_ | refine' wi_atT rfl rfl ?_ | refine' wi_atL rfl rfl ?_)
    | (refine' gateT ?_; first | refine' wt_v rfl ?_ | refine' wt_t2 rfl ?_ | refine' wt_t3 rfl ?_ | refine' wt_t4 rfl ?_ | refine' wt_t5 rfl ?_ | refine' wt rfl ?_)
    | (refine' gateR ?_; first | refine' wr_seq ?_ | refine' wr_enum ?_ | refine' wr_zip ?_ | refine' wr_rng ?_ | refine' wr_rng2 ?_)
    | (refine' gateSl ?_; first | refine' slF_T rfl ?_ | refine' slT_T rfl ?_ | refine' slF_L rfl ?_ | refine' slT_L rfl ?_)
    | refine' wo_none ?_
    | refine' wo_some ?_
    | refine' wal_nil ?_
    | refine' wal_one ?_
    | refine' d_add ?_
    | refine' d_sub ?_
    | refine' z_TT ?_
    | refine' z_LL ?_
    | refine' wret ?_
    | exact rfl
    | refine' ⟨_, rfl, ?_⟩
    | refine' ⟨rfl, fun _ => ?_⟩
    | refine' ⟨rfl, ?_⟩
    | fail_if_success skip)
theorem it_zip2 {α β : Type} {f : α → D} {g : β → D} : ∀ {xs : List α} {ys : List β}, List.zipWith (fun u v => PyData.tuple [u, v]) (xs.map f) (ys.map g) = (xs.zip ys).map fun q => .tuple [f q.1, g q.2]
  | [], _ => rfl
  | _ :: _, [] => rfl
  | x :: xs, y :: ys => by rw [List.map_cons, List.map_cons, List.zipWith_cons_cons, List.zip_cons_cons, List.map_cons, it_zip2]
theorem f_maxL {ns : List Int} {Q : D → Tg → Prop} (z : 0 < ns.length) (h : Q (.int (maxI ns)) .fz) : WF .max [.list (ns.map .int)] Q :=
  ⟨(.int (maxI ns), false), by
    show (intsOf _).bind _ = _
    rw [intsOf_map]
    show (if 0 < ns.length then _ else _) = _
    rw [if_pos z], h⟩
theorem maxI_ge : ∀ {ns : List Int} {d : Int}, d ∈ ns → d ≤ maxI ns
  | [], d, h => by cases h
  | [n], d, h => by rw [List.mem_singleton.mp h]; exact Int.le_refl _
  | n :: k :: r, d, h => by
    show d ≤ max n (maxI (k :: r))
    rcases List.mem_cons.mp h with rfl | h
    · omega
    · have := maxI_ge h
      omega
theorem maxI_mem : ∀ {ns : List Int}, ns ≠ [] → maxI ns ∈ ns
  | [], h => absurd rfl h
  | [n], _ => List.mem_singleton.mpr rfl
  | n :: k :: r, _ => by
    have ih := maxI_mem (ns := k :: r) (by simp)
    show max n (maxI (k :: r)) ∈ _
    by_cases z : maxI (k :: r) ≤ n
    · rw [show max n (maxI (k :: r)) = n by omega]; exact List.mem_cons_self ..
    · rw [show max n (maxI (k :: r)) = maxI (k :: r) by omega]; exact List.mem_cons_of_mem _ ih
/-- what each kind would leave -/
def difs (b : List (Option Int)) (ps : List Int) : List Int := (b.zip ps).filterMap fun q => q.1.map fun w => w - q.2
def gainN (b : List (Option Int)) (ps : List Int) : Int := maxI (difs b ps ++ [0])
def isBest (b : List (Option Int)) (ps : List Int) (k : Nat) : Bool := match b.getD k none with
  | none => false
  | some w => decide (w - ps.getD k 0 = gainN b ps)
def bestN (b : List (Option Int)) (ps : List Int) : List Int := ((List.range b.length).filter (isBest b ps)).map fun k : Nat => (k : Int)
section
variable {pn : Option Pn} {Q : D → Bool → Option Pn → Prop} {m : Mkt} {b : List (Option Int)} {ps : List Int}
theorem c_find_gain (hl : b.length ≤ 6) (h : Q (.int (gainN b ps)) false pn) : WC F_find_gain [bidD b, intsD ps] pn Q := by
  refine w_run ?_
  unfold ir_find_gain
  (repeat' first | fail | refine' w1_ite ?_)
  refine wlc_map (xs := b.zip ps) (g := fun q => .tuple [optD q.1, .int q.2]) (p := fun q => q.1.isSome) (f := fun q => .int (q.1.getD 0 - q.2)) it_zip2 rfl (lenOk (by rw [List.length_zip]; omega)) (fun q hq => ?_) rfl ?_
  · obtain ⟨w, x⟩ := q
    cases w with
    | none =>
      (repeat' first | fail | refine' w1_ite ?_)
      exact ⟨fun z => (by cases z), fun _ => rfl⟩
    | some u =>
      (repeat' first | fail | refine' w1_ite ?_)
      refine ⟨fun _ => ?_, fun z => by cases z⟩
      (repeat' first | fail | refine' w1_ite ?_)
  · (repeat' first | fail | refine' w1_ite ?_)
    have e : ((b.zip ps).filter fun q => q.1.isSome).map (fun q => PyData.int (q.1.getD 0 - q.2)) = (difs b ps).map .int := by
      unfold difs
      generalize b.zip ps = l
      induction l with
      | nil => rfl
      | cons q l ih =>
        obtain ⟨w, x⟩ := q
        cases w with
        | none => rw [List.filter_cons_of_neg (by simp), List.filterMap_cons_none rfl, ih]
        | some u =>
          rw [List.filter_cons_of_pos (by rfl), List.map_cons, ih]
          simp only [List.filterMap_cons, Option.map_some, List.map_cons]
          rfl
    rw [e]
    have hd : (difs b ps).length ≤ 6 := by
      have := List.length_filterMap_le (fun q : Option Int × Int => q.1.map fun w => w - q.2) (b.zip ps)
      rw [List.length_zip] at this
      unfold difs
      omega
    refine d_addL (by rw [sizeL, List.length_map, List.length_singleton]; omega) ?_
    rw [show (difs b ps).map PyData.int ++ [PyData.int 0] = (difs b ps ++ [0]).map .int by rw [List.map_append]; rfl]
    (repeat' first | refine' f_maxL (ns := difs b ps ++ [0]) (by rw [List.length_append, List.length_singleton]; omega) ?_ | fail | refine' w1_ite ?_)
    exact h
/-- the program's and the law's best kinds: one text -/
theorem best_loop {F : Fn} {x : Str} (hl : b.length ≤ 6) (hp : ps.length = b.length) (hg : ∀ {Q : D → Bool → Option Pn → Prop}, Q (.int (gainN b ps)) false pn → WC F [bidD b, intsD ps] pn Q) (h : Q (.list ((bestN b ps).map .int)) true pn) :
    WC (runF 6 (.cons (.set2 [2, 3] (.cons (.call x F (.cons (.var 0) (.cons (.var 1) .nil))) (.cons (.lst .nil) .nil)))
  (.cons (.for (.t [4, 5]) (.enum (.var 0))
  (.cons (.ite (.and (.cons (.notN (.var 5)) (.cons (.cmp .Eq (.bin .Sub (.var 5) (.ix (.var 1) (.var 4))) (.var 2)) .nil)))
  (.cons (.app 3 (.var 4))
  .nil)
  .nil)
  .nil))
  (.cons (.ret (.var 3))
  .nil)))) [bidD b, intsD ps] pn Q := by
  refine w_run ?_
  (repeat' first | refine' hg ?_ | fail | refine' w1_ite ?_)
  refine wfor_E (xs := b) (g := optD) (fun i s => ∃ (x4 x5 : Option (D × Bool)), s = ⟨[some (bidD b, false), some (intsD ps, false), some (.int (gainN b ps), false), some (.list ((((List.range i).filter (isBest b ps)).map fun k : Nat => (k : Int)).map .int), true), x4, x5], pn⟩) rfl ⟨none, none, rfl⟩ ?_ ?_
  · rintro i w s hi ⟨x4, x5, rfl⟩
    have hib := (List.getElem?_eq_some_iff.mp hi).1
    have hbd : b.getD i none = w := by rw [List.getD_eq_getElem?_getD, hi]; rfl
    have hll : ((((List.range i).filter (isBest b ps)).map fun k : Nat => (k : Int)).map PyData.int).length ≤ i := by
      rw [List.length_map, List.length_map]
      have := List.length_filter_le (isBest b ps) (List.range i)
      rwa [List.length_range] at this
    have step : ((((List.range (i + 1)).filter (isBest b ps)).map fun k : Nat => (k : Int)).map PyData.int) = ((((List.range i).filter (isBest b ps)).map fun k : Nat => (k : Int)).map PyData.int) ++ (if isBest b ps i = true then [.int (i : Nat)] else []) := by
      rw [List.range_succ, List.filter_append, List.map_append, List.map_append]
      by_cases z : isBest b ps i = true
      · rw [if_pos z, List.filter_cons_of_pos z]; rfl
      · rw [if_neg z, List.filter_cons_of_neg z]; rfl
    cases w with
    | none =>
      have z : ¬ isBest b ps i = true := by unfold isBest; rw [hbd]; exact Bool.false_ne_true
      rw [if_neg z, List.append_nil] at step
      (repeat' first | fail)
      refine w1_iteF (wb_andF ?_)
      (repeat' first | fail | refine' w1_ite ?_)
      exact ⟨_, _, by rw [step]; rfl⟩
    | some u =>
      have wi : ∀ {R : D → Prop}, R (.int (ps.getD i 0)) → WI (intsD ps) (.int (i : Nat)) R := fun {R} r => by
        refine wi_atT (decide_eq_true (by omega)) ?_ r
        rw [Int.toNat_natCast, List.getElem?_map, List.getElem?_eq_getElem (by omega), List.getD_eq_getElem?_getD, List.getElem?_eq_getElem (by omega)]; rfl
      have e : isBest b ps i = decide (u - ps.getD i 0 = gainN b ps) := by unfold isBest; rw [hbd]
      (repeat' first | fail)
      refine w1_ite ?_
      (repeat' first | refine' wi ?_ | fail)
      rw [← e]
      refine ⟨fun z => ?_, fun z => ?_⟩
      · have z : isBest b ps i = true := by simpa [isn_opt] using z
        rw [if_pos z] at step
        (repeat' first | fail | refine' w1_ite ?_)
        refine ⟨by rw [sizeL]; omega, ?_⟩
        (repeat' first | fail | refine' w1_ite ?_)
        exact ⟨_, _, by rw [step]; rfl⟩
      · have z : ¬ isBest b ps i = true := by simpa [isn_opt] using z
        rw [if_neg z, List.append_nil] at step
        (repeat' first | fail | refine' w1_ite ?_)
        exact ⟨_, _, by rw [step]; rfl⟩
  · rintro s ⟨x4, x5, rfl⟩
    (repeat' first | fail | refine' w1_ite ?_)
    exact h
theorem c_find_best (hl : b.length ≤ 6) (hp : ps.length = b.length) (h : Q (.list ((bestN b ps).map .int)) true pn) : WC F_find_best [bidD b, intsD ps] pn Q :=
  best_loop hl hp (fun q => c_find_gain hl q) h
theorem tm_mkt (hm : MktOk m) : Tm (mktD m) := by
  have h1 := hm.len
  have h2 := hm.many
  refine ⟨tame_le (n := 4) (by decide) (tame_tup (by simp) fun x hx => ?_)⟩
  simp only [List.mem_cons, List.not_mem_nil, or_false] at hx
  rcases hx with rfl | rfl
  · exact tame_le (n := 1) (by decide) (tame_tup (by rw [List.length_map]; omega) fun x hx => by
      obtain ⟨i, _, rfl⟩ := List.mem_map.mp hx
      simp [tame])
  · refine tame_le (n := 2) (by decide) (tame_tup (by rw [List.length_map]; omega) fun x hx => ?_)
    obtain ⟨b, hb, rfl⟩ := List.mem_map.mp hx
    have := (hm.bid b hb).1
    exact tame_tup (by rw [List.length_map]; omega) fun y hy => by
      obtain ⟨w, _, rfl⟩ := List.mem_map.mp hy
      cases w <;> simp [tame, optD]
theorem c_require_mkt (hm : MktOk m) (h : Q .none false pn) : WC F_require_market [mktD m] pn Q := c_require_market (tm_mkt hm) (market_ok hm) h
theorem tm_ints {ns : List Int} (hl : ns.length ≤ 1000) : Tm (intsD ns) :=
  ⟨tame_le (n := 1) (by decide) (tame_tup (by rw [List.length_map]; omega) fun x hx => by
    obtain ⟨i, _, rfl⟩ := List.mem_map.mp hx
    simp [tame])⟩
theorem rangeB_ok {lo hi : Int} {n : Nat} {ns : List Int} (hl : ns.length = n) (hr : ∀ x ∈ ns, lo ≤ x ∧ x ≤ hi) : rangeB lo hi n (intsD ns) = true := by
  show (decide ((ns.map PyData.int).length = n) && _) = true
  rw [List.length_map, decide_eq_true hl, Bool.true_and, List.all_eq_true]
  intro x hx
  obtain ⟨i, hi, rfl⟩ := List.mem_map.mp hx
  exact betw_in (hr i hi)
theorem c_require_prices (hm : MktOk m) (hp : PricesOk m ps) (h : Q .none false pn) : WC F_require_prices [mktD m, intsD ps] pn Q := by
  have hl := hp.len
  have hml := hm.len
  refine w_run ?_
  unfold ir_require_prices
  refine ws_cons (w1_iteF ?_)
  (repeat' first |  ((with_reducible show WC F_is_prices_of _ _ _); refine' c_is_prices_of hm (tm_ints (by omega)) ?_)  | fail | refine' w1_ite ?_)
  rw [rangeB_ok hl hp.rg]
  (repeat' first | fail | refine' w1_ite ?_)
  exact h
end
end K1

set_option Elab.async false
set_option linter.all false
set_option maxRecDepth 100000
set_option maxHeartbeats 8000000
set_option pp.maxSteps 400
namespace K1
open PySem L2 Fs
def ir__law_drawn_bid : ISs := (.cons (.set2 [3, 4] (.cons (.call "_law_take" FTake (.cons (.var 0) (.cons (.int 5) .nil))) (.cons (.call "_law_take" FTake (.cons (.var 0) (.cons (.bin .Add (.var 2) (.int 1)) .nil))) .nil)))
  (.cons (.ite (.cmp .Eq (.var 3) (.int 0))
  (.cons (.ret (.blt .tuple (.cons (.lc (.one "_law_one" (.var 0) (.lst (.cons .non (.cons (.var 4) .nil)))) (.v 6) (.rng (.var 1)) .nil) .nil)))
  .nil)
  .nil)
  (.cons (.ite (.cmp .Eq (.var 3) (.int 1))
  (.cons (.set 5 (.call "_law_take" FTake (.cons (.var 0) (.cons (.var 1) .nil))))
  (.cons (.ret (.blt .tuple (.cons (.lc (.ite (.cmp .Eq (.var 6) (.var 5)) (.var 4) .non) (.v 6) (.rng (.var 1)) .nil) .nil)))
  .nil))
  .nil)
  (.cons (.ret (.blt .tuple (.cons (.lc (.one "_law_one" (.var 0) (.lst (.cons .non (.cons (.call "_law_take" FTake (.cons (.var 0) (.cons (.bin .Add (.var 2) (.int 1)) .nil))) (.cons (.call "_law_take" FTake (.cons (.var 0) (.cons (.bin .Add (.var 2) (.int 1)) .nil))) .nil))))) (.v 6) (.rng (.var 1)) .nil) .nil)))
  .nil))))
def F__law_drawn_bid : Fn := runF 7 ir__law_drawn_bid
def ir__law_drawn_market : ISs := (.cons (.set 2 (.one "_law_one" (.var 0) (.lst (.cons (.int 1) (.cons (.int 2) (.cons (.int 2) (.cons (.int 3) (.cons (.int 3) (.cons (.int 4) (.cons (.int 5) (.cons (.int 6) .nil)))))))))))
  (.cons (.set 3 (.one "_law_one" (.var 0) (.lst (.cons (.int 3) (.cons (.int 6) (.cons (.int 6) (.cons (.int 20) (.cons (.int 100) .nil))))))))
  (.cons (.set 4 (.blt .tuple (.cons (.lc (.one "_law_one" (.var 0) (.lst (.cons (.int 1) (.cons (.int 1) (.cons (.int 1) (.cons (.int 2) (.cons (.int 2) (.cons (.int 3) (.cons (.bin .Add (.int 1) (.call "_law_take" FTake (.cons (.var 0) (.cons (.int 20) .nil)))) .nil))))))))) (.v 7) (.rng (.var 2)) .nil) .nil)))
  (.cons (.set 5 (.lst .nil))
  (.cons (.for (.v 6) (.rng (.call "_law_take" FTake (.cons (.var 0) (.cons (.bin .Add (.var 1) (.int 1)) .nil))))
  (.cons (.app 5 (.call "_law_drawn_bid" F__law_drawn_bid (.cons (.call "_law_anew" FAnew (.cons (.var 0) .nil)) (.cons (.var 2) (.cons (.var 3) .nil)))))
  .nil))
  (.cons (.ret (.tup (.cons (.var 4) (.cons (.blt .tuple (.cons (.var 5) .nil)) .nil))))
  .nil))))))
def F__law_drawn_market : Fn := runF 8 ir__law_drawn_market
def ir__law_drawn_prices : ISs := (.cons (.set 2 (.int 1))
  (.cons (.for (.v 3) (.seq (.ix (.var 1) (.int 1)))
  (.cons (.set 2 (.blt .max (.cons (.bin .Add (.lst (.cons (.var 2) .nil)) (.lc (.var 4) (.v 4) (.seq (.var 3)) (.cons (.notN (.var 4)) .nil))) .nil)))
  .nil))
  (.cons (.ret (.blt .tuple (.cons (.lc (.one "_law_one" (.var 0) (.lst (.cons (.int 0) (.cons (.call "_law_take" FTake (.cons (.var 0) (.cons (.bin .Add (.var 2) (.int 2)) .nil))) (.cons (.call "_law_take" FTake (.cons (.var 0) (.cons (.bin .Add (.var 2) (.int 2)) .nil))) .nil))))) (.v 5) (.seq (.ix (.var 1) (.int 0))) .nil) .nil)))
  .nil)))
def F__law_drawn_prices : Fn := runF 6 ir__law_drawn_prices

local macro_rules
  | `(tactic| fail) => `(tactic| first
    | (refine' gateE ?_; first | refine' w_var rfl ?_ | refine' w_own rfl ?_ | refine' w_int ?_ | refine' w_bool ?_ | refine' w_non ?_ | refine' w_str ?_ | refine' w_glob ?_ | refine' w_call ?_ | refine' w_ix ?_ | refine' w_cmp ?_ | refine' w_bin ?_ | refine' w_one ?_ | refine' w_blt ?_ | refine' w_isi ?_ | refine' w_not ?_ | refine' w_isN ?_ | refine' w_notN ?_ | refine' w_tup ?_ | refine' w_lst ?_ | refine' w_and ?_ | refine' w_or ?_ | refine' w_sl ?_ | refine' w_lc ?_ | refine' w_neg ?_ | refine' w_cmp2P ?_ ?_)
    | refine' wl_nil ?_
    | refine' wl_cons ?_
    | (refine' gate1 ?_; first | refine' w1_set ?_ | refine' w1_ret ?_ | refine' w1_setT ?_ | refine' w1_set2 ?_ | refine' w1_app rfl ?_ | refine' w1_ins rfl ?_ | refine' w1_expr ?_ | refine' w1_rev rfl ?_ | refine' w1_ext rfl ?_ | refine' w1_setLc ?_ | refine' w1_for ?_ | refine' w1_retN ?_ | refine' w1_cont ?_ | refine' w1_brk ?_ | refine' w1_pass ?_)
    | refine' ws_nil ?_
    | refine' ws_cons ?_
    | (refine' gateB ?_; first | refine' wb_and1 ?_ | refine' wb_or1 ?_ | refine' wb_andP ?_ (fun _ => ?_) ?_ | refine' wb_orP ?_ (fun _ => ?_) ?_ | refine' wb_of ?_)
    | refine' wv ?_
    | (refine' gateK ?_; first | refine' k_lt ?_ | refine' k_le ?_ | refine' k_gt ?_ | refine' k_ge ?_ | refine' k_eqI ?_ | refine' k_neI ?_ | refine' k_inT ?_ | refine' k_inL ?_ | refine' k_ninT ?_ | refine' k_ninL ?_)
    | (refine' gateF ?_; first | refine' f_lenL ?_ | refine' f_lenT ?_ | refine' f_int ?_ | refine' f_tupL ?_ | refine' f_tupT ?_ | refine' f_listL ?_ | refine' f_listT ?_ | refine' f_max2 ?_ | refine' f_rev1T ?_ | refine' f_rev1L ?_ | refine' f_min2 ?_)
    | (refine' gateI ?_; first | refine' wi rfl ?_ | refine' wi_atT rfl rfl ?_ | refine' wi_atL rfl rfl ?_)
    | (refine' gateT ?_; first | refine' wt_v rfl ?_ | refine' wt_t2 rfl ?_ | refine' wt_t3 rfl ?_ | refine' wt_t4 rfl ?_ | refine' wt_t5 rfl ?_ | refine' wt rfl ?_)
    | (refine' gateR ?_; first | refine' wr_seq ?_ | refine' wr_enum ?_ | refine' wr_zip ?_ | refine' wr_rng ?_ | refine' wr_rng2 ?_)
    | (refine' gateSl ?_; first | refine' slF_T rfl ?_ | refine' slT_T rfl ?_ | refine' slF_L rfl ?_ | refine' slT_L rfl ?_)
    | refine' wo_none ?_
    | refine' wo_some ?_
    | refine' wal_nil ?_
    | refine' wal_one ?_
    | refine' d_add ?_
    | refine' d_sub ?_
    | refine' z_TT ?_
    | refine' z_LL ?_
    | refine' wret ?_
    | exact rfl
    | refine' ⟨_, rfl, ?_⟩
    | refine' ⟨rfl, fun _ => ?_⟩
    | refine' ⟨rfl, ?_⟩
    | fail_if_success skip)
section
variable {p : Pn} {Q : D → Bool → Option Pn → Prop}
theorem on_all {α : Type} {q : α → Prop} {xs : List α} {x : α} (h : ∀ y ∈ xs, q y) (hx : q x) : ∀ y ∈ xs ++ [x], q y := fun y hy => by
  rcases List.mem_append.mp hy with hy | hy
  · exact h y hy
  · rw [List.mem_singleton.mp hy]; exact hx
abbrev sB (K hi : Int) (x3 x4 x5 : Option (D × Bool)) (p : Pn) : S := ⟨[pen, some (.int K, false), some (.int hi, false), x3, x4, x5, none], some p⟩
theorem c_lbid {K hi : Int} (hK : 1 ≤ K ∧ K ≤ 6) (hh : 0 ≤ hi ∧ hi ≤ 100) (hb : 0 ≤ p.a ∧ p.a < 1072900000) (k : ∀ (b : List (Option Int)) (p' : Pn), (b.length : Int) = K → (∀ w ∈ b, worthB w) → p.a ≤ p'.a → p'.a ≤ p.a + 40 → Q (bidD b) false (some p')) : WC F__law_drawn_bid [.dict [], .int K, .int hi] (some p) Q := by
  refine w_run ?_
  unfold ir__law_drawn_bid
  (repeat' first | fail)
  refine c_take (by omega) (by omega) fun u p1 u0 u1 h1 h2 => ?_
  (repeat' first | fail)
  refine c_take (by omega) (by omega) fun v p2 v0 v1 h3 h4 => ?_
  (repeat' first | fail)
  refine w1_ite ?_
  (repeat' first | fail)
  refine ⟨fun z => ?_, fun z => ?_⟩
  · (repeat' first | fail)
    refine ⟨by omega, ?_⟩
    refine wlc_inv (fun i acc s => ∃ (b : List (Option Int)) (p' : Pn), acc = b.map optD ∧ b.length = i ∧ (∀ w ∈ b, worthB w) ∧ s = sB K hi (some (.int u, false)) (some (.int v, false)) none p' ∧ p2.a ≤ p'.a ∧ p'.a ≤ p2.a + i) rfl (lenOk (by rw [List.length_map, List.length_range]; omega)) ⟨[], p2, rfl, rfl, by simp, rfl, by omega, by omega⟩ ?_ ?_
    · rintro i x acc s hx ⟨b, p3, rfl, hl, hw, rfl, b0, b1⟩
      rw [List.getElem?_map] at hx
      obtain ⟨y, hy, rfl⟩ := Option.map_eq_some_iff.mp hx
      have hi' := (List.getElem?_eq_some_iff.mp hy).1
      rw [List.length_range] at hi'
      (repeat' first | fail)
      refine ⟨fun _ => ?_, fun z => by cases z⟩
      (repeat' first | fail)
      refine o_oneM (xs := [none, some v]) (g := optD) rfl (by simp) (by omega) fun w p4 hw4 h5 h6 => ?_
      refine ⟨b ++ [w], p4, by rw [List.map_append]; rfl, by rw [List.length_append, hl]; rfl, on_all hw ?_, rfl, by omega, by omega⟩
      simp only [List.mem_cons, List.not_mem_nil, or_false] at hw4
      rcases hw4 with rfl | rfl
      · exact fun i e => by cases e
      · exact fun i e => by cases e; omega
    · rintro ds s ⟨b, p3, rfl, hl, hw, rfl, b0, b1⟩
      simp only [List.length_map, List.length_range] at hl b1
      (repeat' first | fail)
      exact k b p3 (by omega) hw (by omega) (by omega)
  · (repeat' first | fail)
    refine w1_ite ?_
    (repeat' first | fail)
    refine ⟨fun z => ?_, fun z => ?_⟩
    · (repeat' first | fail)
      refine c_take (by omega) (by omega) fun o p3 o0 o1 h5 h6 => ?_
      (repeat' first | fail)
      refine ⟨by omega, ?_⟩
      refine wlc_all (xs := List.range K.toNat) (g := fun n : Nat => .int (n : Int)) (f := fun n : Nat => optD (if (n : Int) = o then some v else none)) rfl rfl (lenOk (by rw [List.length_range]; omega)) (fun n hn => ?_) rfl ?_
      · (repeat' first | fail)
        refine w_ite ?_
        (repeat' first | fail)
        refine ⟨fun z => ?_, fun z => ?_⟩
        · rw [if_pos (of_decide_eq_true z)]
          (repeat' first | fail)
        · rw [if_neg (of_decide_eq_false z)]
          (repeat' first | fail)
      (repeat' first | fail)
      have e : ((List.range K.toNat).map fun n : Nat => optD (if (n : Int) = o then some v else none)) = ((List.range K.toNat).map fun n : Nat => if (n : Int) = o then some v else none).map optD := by rw [List.map_map]; rfl
      rw [e]
      refine k _ p3 (by rw [List.length_map, List.length_range]; omega) (fun w hw => ?_) (by omega) (by omega)
      obtain ⟨n, _, rfl⟩ := List.mem_map.mp hw
      split
      · exact fun i e => by cases e; omega
      · exact fun i e => by cases e
    · (repeat' first | fail)
      refine ⟨by omega, ?_⟩
      refine wlc_inv (fun i acc s => ∃ (b : List (Option Int)) (p' : Pn), acc = b.map optD ∧ b.length = i ∧ (∀ w ∈ b, worthB w) ∧ s = sB K hi (some (.int u, false)) (some (.int v, false)) none p' ∧ p2.a ≤ p'.a ∧ p'.a ≤ p2.a + 3 * i) rfl (lenOk (by rw [List.length_map, List.length_range]; omega)) ⟨[], p2, rfl, rfl, by simp, rfl, by omega, by omega⟩ ?_ ?_
      · rintro i x acc s hx ⟨b, p3, rfl, hl, hw, rfl, b0, b1⟩
        rw [List.getElem?_map] at hx
        obtain ⟨y, hy, rfl⟩ := Option.map_eq_some_iff.mp hx
        have hi' := (List.getElem?_eq_some_iff.mp hy).1
        rw [List.length_range] at hi'
        (repeat' first | fail)
        refine ⟨fun _ => ?_, fun z => by cases z⟩
        (repeat' first | fail)
        refine c_take (by omega) (by omega) fun t p4 t0 t1 h5 h6 => ?_
        (repeat' first | fail)
        refine c_take (by omega) (by omega) fun t2 p5 t20 t21 h7 h8 => ?_
        (repeat' first | fail)
        refine o_oneM (xs := [none, some t, some t2]) (g := optD) rfl (by simp) (by omega) fun w p6 hw4 h9 h10 => ?_
        refine ⟨b ++ [w], p6, by rw [List.map_append]; rfl, by rw [List.length_append, hl]; rfl, on_all hw ?_, rfl, by omega, by omega⟩
        simp only [List.mem_cons, List.not_mem_nil, or_false] at hw4
        rcases hw4 with rfl | rfl | rfl
        · exact fun i e => by cases e
        · exact fun i e => by cases e; omega
        · exact fun i e => by cases e; omega
      · rintro ds s ⟨b, p3, rfl, hl, hw, rfl, b0, b1⟩
        simp only [List.length_map, List.length_range] at hl b1
        (repeat' first | fail)
        exact k b p3 (by omega) hw (by omega) (by omega)
theorem c_ldmarket {M : Int} (hM : 0 ≤ M ∧ M ≤ 12) (hb : 0 ≤ p.a ∧ p.a < 1072800000)
    (k : ∀ (m : Mkt) (p' : Pn), MktOk m → (m.bids.length : Int) ≤ M → p.a ≤ p'.a → p'.a ≤ p.a + 600 → Q (mktD m) false (some p')) : WC F__law_drawn_market [.dict [], .int M] (some p) Q := by
  refine w_run ?_
  unfold ir__law_drawn_market
  (repeat' first | fail)
  refine o_oneM (xs := [1, 2, 2, 3, 3, 4, 5, 6]) (g := .int) rfl (by simp) (by omega) fun K p1 hK h1 h2 => ?_
  have hK : 1 ≤ K ∧ K ≤ 6 := by
    simp only [List.mem_cons, List.not_mem_nil, or_false] at hK
    omega
  (repeat' first | fail)
  refine o_oneM (xs := [3, 6, 6, 20, 100]) (g := .int) rfl (by simp) (by omega) fun hi p2 hh h3 h4 => ?_
  have hh : 0 ≤ hi ∧ hi ≤ 100 := by
    simp only [List.mem_cons, List.not_mem_nil, or_false] at hh
    omega
  (repeat' first | fail)
  refine ⟨by omega, ?_⟩
  refine wlc_inv (fun i acc s => ∃ (ns : List Int) (p' : Pn), acc = ns.map .int ∧ ns.length = i ∧ (∀ n ∈ ns, 1 ≤ n ∧ n ≤ 20) ∧ s = ⟨[pen, some (.int M, false), some (.int K, false), some (.int hi, false), none, none, none, none], some p'⟩ ∧ p2.a ≤ p'.a ∧ p'.a ≤ p2.a + 2 * i) rfl (lenOk (by rw [List.length_map, List.length_range]; omega)) ⟨[], p2, rfl, rfl, by simp, rfl, by omega, by omega⟩ ?_ ?_
  · rintro i x acc s hx ⟨ns, p3, rfl, hl, hn, rfl, b0, b1⟩
    rw [List.getElem?_map] at hx
    obtain ⟨y, hy, rfl⟩ := Option.map_eq_some_iff.mp hx
    have hi' := (List.getElem?_eq_some_iff.mp hy).1
    rw [List.length_range] at hi'
    (repeat' first | fail)
    refine ⟨fun _ => ?_, fun z => by cases z⟩
    (repeat' first | fail)
    refine c_take (by omega) (by omega) fun v p4 v0 v1 h5 h6 => ?_
    (repeat' first | fail)
    refine o_oneM (xs := [1, 1, 1, 2, 2, 3, 1 + v]) (g := .int) rfl (by simp) (by omega) fun n p5 hn4 h7 h8 => ?_
    refine ⟨ns ++ [n], p5, by rw [List.map_append]; rfl, by rw [List.length_append, hl]; rfl, on_all hn ?_, rfl, by omega, by omega⟩
    simp only [List.mem_cons, List.not_mem_nil, or_false] at hn4
    omega
  · rintro ds s ⟨ns, p3, rfl, hl, hn, rfl, b0, b1⟩
    simp only [List.length_map, List.length_range] at hl b1
    (repeat' first | fail)
    refine c_take (by omega) (by omega) fun w p4 w0 w1 h5 h6 => ?_
    (repeat' first | fail)
    refine ⟨by omega, ?_⟩
    refine wfor_rng (fun i s => ∃ (bs : List (List (Option Int))) (x6 : Option (D × Bool)) (p' : Pn), s = ⟨[pen, some (.int M, false), some (.int K, false), some (.int hi, false), some (intsD ns, false), some (.list (bs.map bidD), true), x6, none], some p'⟩ ∧ bs.length = i ∧ (∀ b ∈ bs, b.length = ns.length ∧ ∀ w ∈ b, worthB w) ∧ p4.a ≤ p'.a ∧ p'.a ≤ p4.a + 40 * i) ⟨[], none, p4, rfl, rfl, by simp, by omega, by omega⟩ ?_ ?_
    · rintro i s hi2 ⟨bs, x6, p5, rfl, hbl, hbo, c0, c1⟩
      (repeat' first |  ((with_reducible show WC FAnew _ _ _); refine' c_anew (fun p6 h7 => ?_))  | fail)
      refine c_lbid hK hh (by omega) fun b p7 hl2 hw h8 h9 => ?_
      (repeat' first | fail)
      refine ⟨by rw [sizeL, List.length_map]; omega, ?_⟩
      (repeat' first | fail)
      exact ⟨bs ++ [b], _, p7, by rw [List.map_append]; rfl, by rw [List.length_append, hbl]; rfl, on_all hbo ⟨by omega, hw⟩, by omega, by omega⟩
    · rintro s ⟨bs, x6, p5, rfl, hbl, hbo, c0, c1⟩
      (repeat' first | fail)
      refine k ⟨ns, bs⟩ p5 ⟨by show 1 ≤ ns.length ∧ ns.length ≤ 6; omega, hn, by show bs.length ≤ 12; omega, hbo⟩ (by show (bs.length : Int) ≤ M; omega) (by omega) (by omega)
theorem c_ldprices {m : Mkt} (hm : MktOk m) (hb : 0 ≤ p.a ∧ p.a < 1072900000) (k : ∀ (ps : List Int) (p' : Pn), PricesOk m ps → p.a ≤ p'.a → p'.a ≤ p.a + 30 → Q (intsD ps) false (some p')) : WC F__law_drawn_prices [.dict [], mktD m] (some p) Q := by
  have hlen := hm.len
  have hmany := hm.many
  refine w_run ?_
  unfold ir__law_drawn_prices
  (repeat' first | fail)
  refine wfor_M (xs := m.bids) (g := bidD) (fun i s => ∃ (hi : Int) (x3 : Option (D × Bool)), s = ⟨[pen, some (mktD m, false), some (.int hi, false), x3, none, none], some p⟩ ∧ 0 ≤ hi ∧ hi ≤ 100) rfl ⟨1, none, rfl, by omega, by omega⟩ ?_ ?_
  · rintro i b s hi ⟨h, x3, rfl, h0, h1⟩
    obtain ⟨hl, hw⟩ := hm.bid b (List.mem_of_getElem? hi)
    (repeat' first | fail)
    refine wlc_map (xs := b) (g := optD) (p := fun w => w.isSome) (f := fun w => .int (w.getD 0)) rfl rfl (lenOk (by omega)) (fun w hw' => ?_) rfl ?_
    · (repeat' first | fail)
      cases w with
      | none => exact ⟨rfl, fun z => (by cases z), fun _ => rfl⟩
      | some i =>
        refine ⟨rfl, fun _ => ?_, fun z => (by cases z)⟩
        (repeat' first | fail)
    have hfl := List.length_filter_le (fun w : Option Int => w.isSome) b
    (repeat' first | refine' d_addL (by rw [sizeL, List.length_map]; simp; omega) ?_ | fail)
    rw [show [PyData.int h] ++ ((b.filter fun w => w.isSome).map fun w => PyData.int (w.getD 0)) = (h :: (b.filter fun w => w.isSome).map fun w => w.getD 0).map .int by rw [List.map_cons, List.map_map]; rfl]
    (repeat' first | refine' f_maxL (by simp) ?_ | fail)
    refine ⟨_, _, rfl, ?_, ?_⟩
    · exact Int.le_trans h0 (maxI_ge (by simp))
    · have hmem := maxI_mem (ns := h :: (b.filter fun w => w.isSome).map fun w => w.getD 0) (by simp)
      rcases List.mem_cons.mp hmem with e | hmem
      · rw [e]; exact h1
      · obtain ⟨w, hwf, e⟩ := List.mem_map.mp hmem
        rw [← e]
        have hb1 := hw w (List.mem_filter.mp hwf).1
        cases w with
        | none => simp
        | some i => exact (hb1 i rfl).2
  · rintro s ⟨h, x3, rfl, h0, h1⟩
    (repeat' first | fail)
    refine wlc_inv (fun i acc s => ∃ (ns : List Int) (p' : Pn), acc = ns.map .int ∧ ns.length = i ∧ (∀ n ∈ ns, 0 ≤ n ∧ n ≤ 200) ∧ s = ⟨[pen, some (mktD m, false), some (.int h, false), x3, none, none], some p'⟩ ∧ p.a ≤ p'.a ∧ p'.a ≤ p.a + 3 * i) rfl (lenOk (by rw [List.length_map]; omega)) ⟨[], p, rfl, rfl, by simp, rfl, by omega, by omega⟩ ?_ ?_
    · rintro i x acc s hx ⟨ns, p2, rfl, hl, hns, rfl, b0, b1⟩
      have hi' := (List.getElem?_eq_some_iff.mp hx).1
      rw [List.length_map] at hi'
      (repeat' first | fail)
      refine ⟨fun _ => ?_, fun z => by cases z⟩
      (repeat' first | fail)
      refine c_take (by omega) (by omega) fun v p3 v0 v1 h3 h4 => ?_
      (repeat' first | fail)
      refine c_take (by omega) (by omega) fun v2 p4 v20 v21 h5 h6 => ?_
      (repeat' first | fail)
      refine o_oneM (xs := [0, v, v2]) (g := .int) rfl (by simp) (by omega) fun w p5 hw h7 h8 => ?_
      refine ⟨ns ++ [w], p5, by rw [List.map_append]; rfl, by rw [List.length_append, hl]; rfl, on_all hns ?_, rfl, by omega, by omega⟩
      simp only [List.mem_cons, List.not_mem_nil, or_false] at hw
      omega
    · rintro ds s ⟨ns, p2, rfl, hl, hns, rfl, b0, b1⟩
      rw [List.length_map] at hl b1
      (repeat' first | fail)
      exact k ns p2 ⟨hl, hns⟩ (by omega) (by omega)
end
end K1

set_option Elab.async false
set_option linter.all false
set_option maxRecDepth 100000
set_option maxHeartbeats 8000000
namespace K1
open PySem L2 Fs
theorem choices_up : ∀ {m : Nat} {K : List Int}, K ∈ choices m → K.Pairwise (· < ·)
  | 0, K, h => by
    rw [choices, List.mem_singleton] at h
    subst h; exact .nil
  | m + 1, K, h => by
    rw [choices, List.mem_append, List.mem_map] at h
    rcases h with h | ⟨J, h, rfl⟩
    · exact choices_up h
    · refine List.pairwise_append.mpr ⟨choices_up h, by simp, fun a ha b hb => ?_⟩
      rw [List.mem_singleton.mp hb]
      exact ((choices_ok h).2 a ha).2
theorem choices_iff {m : Nat} {K : List Int} : K ∈ choices m ↔ K.Pairwise (· < ·) ∧ ∀ k ∈ K, 0 ≤ k ∧ k < m := by
  refine ⟨fun h => ⟨choices_up h, (choices_ok h).2⟩, fun ⟨h1, h2⟩ => ?_⟩
  obtain ⟨J, hJ, h⟩ := choices_all m fun k => decide (k ∈ K)
  have e : K = J := sorted_uniq h1 (choices_up hJ) fun x => by
    rw [h]
    exact ⟨fun hx => ⟨h2 x hx, decide_eq_true hx⟩, fun hx => of_decide_eq_true hx.2⟩
  rw [e]; exact hJ
def setsN (m : Nat) : List (List Int) := (choices m).drop 1
theorem choices_cons : ∀ m : Nat, choices m = [] :: setsN m ∧ [] ∉ setsN m
  | 0 => ⟨rfl, by simp [setsN, choices]⟩
  | m + 1 => by
    obtain ⟨h1, h2⟩ := choices_cons m
    have e : choices (m + 1) = [] :: (setsN m ++ (choices m).map (· ++ [(m : Int)])) := by
      rw [choices]
      conv => lhs; lhs; rw [h1]
      rfl
    have e2 : setsN (m + 1) = setsN m ++ (choices m).map (· ++ [(m : Int)]) := by
      unfold setsN
      rw [e]; rfl
    rw [e2]
    refine ⟨e, fun h => ?_⟩
    rcases List.mem_append.mp h with h | h
    · exact h2 h
    · obtain ⟨J, _, e⟩ := List.mem_map.mp h
      simp at e
theorem sets_iff {m : Nat} {K : List Int} : K ∈ setsN m ↔ (K.Pairwise (· < ·) ∧ ∀ k ∈ K, 0 ≤ k ∧ k < m) ∧ K ≠ [] := by
  obtain ⟨h1, h2⟩ := choices_cons m
  rw [← choices_iff, h1, List.mem_cons]
  constructor
  · exact fun h => ⟨.inr h, fun e => h2 (e ▸ h)⟩
  · rintro ⟨h | h, hn⟩
    · exact absurd h hn
    · exact h
theorem sets_len (m : Nat) (hm : m ≤ 6) : (setsN m).length ≤ 63 := by
  have h1 := choices_le hm
  rw [(choices_cons m).1, List.length_cons] at h1
  omega
def rI6 (n : Nat) : List Int := (List.range n).map fun k : Nat => (k : Int)
theorem rI6_mem {n : Nat} {x : Int} : x ∈ rI6 n ↔ 0 ≤ x ∧ x < n := by
  unfold rI6
  rw [List.mem_map]
  constructor
  · rintro ⟨k, hk, rfl⟩
    have := List.mem_range.mp hk
    omega
  · intro h
    exact ⟨x.toNat, List.mem_range.mpr (by omega), by omega⟩
theorem rI6_up (n : Nat) : (rI6 n).Pairwise (· < ·) := by
  unfold rI6
  rw [List.pairwise_map]
  exact List.pairwise_lt_range.imp fun h => by omega
def stAt (m : Mkt) (k : Int) : Int := m.seats.getD k.toNat 0
def capM (m : Mkt) (K : List Int) : Int := (K.map (stAt m)).sum
def capP (m : Mkt) (p : Int → Bool) : Int := ((rI6 m.seats.length).map fun k => if p k = true then stAt m k else 0).sum
theorem sum_filter_if {p : Int → Bool} {f : Int → Int} : ∀ l : List Int, ((l.filter p).map f).sum = (l.map fun k => if p k = true then f k else 0).sum
  | [] => rfl
  | x :: l => by
    have ih := sum_filter_if (p := p) (f := f) l
    by_cases z : p x = true
    · rw [List.filter_cons_of_pos z, List.map_cons, List.sum_cons, List.map_cons, List.sum_cons, ih, if_pos z]
    · rw [List.filter_cons_of_neg z, List.map_cons, List.sum_cons, ih, if_neg z]; omega
theorem filter_mem {n : Nat} {K : List Int} (h1 : K.Pairwise (· < ·)) (h2 : ∀ k ∈ K, 0 ≤ k ∧ k < n) : (rI6 n).filter (fun k => decide (k ∈ K)) = K :=
  sorted_uniq ((rI6_up n).filter _) h1 fun x => by
    rw [List.mem_filter, rI6_mem, decide_eq_true_iff]
    exact ⟨fun h => h.2, fun h => ⟨h2 x h, h⟩⟩
theorem cap_P {m : Mkt} {K : List Int} (h1 : K.Pairwise (· < ·)) (h2 : ∀ k ∈ K, 0 ≤ k ∧ k < m.seats.length) : capM m K = capP m fun k => decide (k ∈ K) := by
  unfold capM capP
  rw [← sum_filter_if, filter_mem h1 h2]
theorem sum_pt {f g h j : Int → Int} : ∀ l : List Int, (∀ k ∈ l, f k + g k = h k + j k) → (l.map f).sum + (l.map g).sum = (l.map h).sum + (l.map j).sum
  | [], _ => rfl
  | x :: l, hh => by
    have ih := sum_pt l fun k hk => hh k (List.mem_cons_of_mem _ hk)
    have := hh x (List.mem_cons_self ..)
    simp only [List.map_cons, List.sum_cons]
    omega
theorem cap_mod (m : Mkt) (p q : Int → Bool) : capP m p + capP m q = capP m (fun k => p k && q k) + capP m fun k => p k || q k :=
  sum_pt _ fun k _ => by cases hp : p k <;> cases hq : q k <;> simp [hp, hq]
theorem cnt_pt {α : Type} {a b c d : α → Bool} : ∀ l : List α, (∀ x ∈ l, (a x).toNat + (b x).toNat ≤ (c x).toNat + (d x).toNat) → l.countP a + l.countP b ≤ l.countP c + l.countP d
  | [], _ => by simp
  | x :: l, h => by
    have ih := cnt_pt l fun y hy => h y (List.mem_cons_of_mem _ hy)
    have h1 := h x (List.mem_cons_self ..)
    simp only [List.countP_cons]
    revert h1
    cases a x <;> cases b x <;> cases c x <;> cases d x <;> simp <;> omega
def exB (ps : List Int) (p : Int → Bool) (b : List (Option Int)) : Bool := decide (0 < gainN b ps) && (bestN b ps).all p
def idB (ps : List Int) (p : Int → Bool) (b : List (Option Int)) : Bool := (bestN b ps).any p
def exP (m : Mkt) (ps : List Int) (p : Int → Bool) : Int := (m.bids.countP (exB ps p) : Int) - capP m p
def idP (m : Mkt) (ps : List Int) (p : Int → Bool) : Int := capP m p - (m.bids.countP (idB ps p) : Int)
def exN (m : Mkt) (ps : List Int) (K : List Int) : Int := (m.bids.countP (exB ps fun k => decide (k ∈ K)) : Int) - capM m K
def idN (m : Mkt) (ps : List Int) (K : List Int) : Int := capM m K - (m.bids.countP (idB ps fun k => decide (k ∈ K)) : Int)
theorem all_and {l : List Int} {p q : Int → Bool} : (l.all p).toNat + (l.all q).toNat ≤ (l.all fun k => p k && q k).toNat + (l.all fun k => p k || q k).toNat := by
  cases hp : l.all p <;> cases hq : l.all q
  · simp
  · rw [List.all_eq_true] at hq
    rw [show (l.all fun k => p k || q k) = true from List.all_eq_true.mpr fun k hk => by rw [hq k hk, Bool.or_true]]; simp
  · rw [List.all_eq_true] at hp
    rw [show (l.all fun k => p k || q k) = true from List.all_eq_true.mpr fun k hk => by rw [hp k hk, Bool.true_or]]; simp
  · rw [List.all_eq_true] at hp hq
    rw [show (l.all fun k => p k || q k) = true from List.all_eq_true.mpr fun k hk => by rw [hp k hk, Bool.true_or],
      show (l.all fun k => p k && q k) = true from List.all_eq_true.mpr fun k hk => by rw [hp k hk, hq k hk]; rfl]; simp
theorem any_and {l : List Int} {p q : Int → Bool} : (l.any fun k => p k && q k).toNat + (l.any fun k => p k || q k).toNat ≤ (l.any p).toNat + (l.any q).toNat := by
  have h := all_and (l := l) (p := fun k => !p k) (q := fun k => !q k)
  have e : ∀ r : Int → Bool, (l.all fun k => !r k) = !l.any r := fun r => by
    clear h
    induction l with
    | nil => rfl
    | cons x l ih => rw [List.all_cons, List.any_cons, ih, Bool.not_or]
  rw [e, e, show (l.all fun k => !p k && !q k) = !l.any fun k => p k || q k from by rw [← e]; simp only [Bool.not_or], show (l.all fun k => !p k || !q k) = !l.any fun k => p k && q k from by rw [← e]; simp only [Bool.not_and]] at h
  revert h
  cases (l.any p) <;> cases (l.any q) <;> cases (l.any fun k => p k && q k) <;> cases (l.any fun k => p k || q k) <;> simp
theorem ex_sup (m : Mkt) (ps : List Int) (p q : Int → Bool) : exP m ps p + exP m ps q ≤ exP m ps (fun k => p k && q k) + exP m ps fun k => p k || q k := by
  have h1 := cap_mod m p q
  have h2 := cnt_pt (a := exB ps p) (b := exB ps q) (c := exB ps fun k => p k && q k) (d := exB ps fun k => p k || q k) m.bids fun b _ => by
    have := all_and (l := bestN b ps) (p := p) (q := q)
    unfold exB
    cases decide (0 < gainN b ps)
    · simp
    · simpa using this
  unfold exP
  omega
theorem id_sup (m : Mkt) (ps : List Int) (p q : Int → Bool) : idP m ps p + idP m ps q ≤ idP m ps (fun k => p k && q k) + idP m ps fun k => p k || q k := by
  have h1 := cap_mod m p q
  have h2 := cnt_pt (a := idB ps fun k => p k && q k) (b := idB ps fun k => p k || q k) (c := idB ps p) (d := idB ps q) m.bids fun b _ => any_and
  unfold idP
  omega
theorem capP_bot (m : Mkt) : capP m (fun _ => false) = 0 := by
  unfold capP
  have : ∀ l : List Int, (l.map fun k => if false = true then stAt m k else 0).sum = 0 := fun l => by
    induction l with
    | nil => rfl
    | cons x l ih => rw [List.map_cons, List.sum_cons, ih, if_neg (by decide)]; rfl
  exact this _
theorem id_bot (m : Mkt) (ps : List Int) : idP m ps (fun _ => false) ≤ 0 := by
  unfold idP
  rw [capP_bot]; omega
theorem best_ne {b : List (Option Int)} {ps : List Int} (hp : ps.length = b.length) (h : 0 < gainN b ps) : bestN b ps ≠ [] := fun e => by
  have hm : gainN b ps ∈ difs b ps ++ [0] := maxI_mem (by simp)
  rcases List.mem_append.mp hm with hm | hm
  · obtain ⟨q, hq, e2⟩ := List.mem_filterMap.mp hm
    obtain ⟨i, hi⟩ := List.mem_iff_getElem?.mp hq
    obtain ⟨h1, h2⟩ := List.getElem?_zip_eq_some.mp hi
    obtain ⟨w, hw, e3⟩ := Option.map_eq_some_iff.mp e2
    have hil := (List.getElem?_eq_some_iff.mp h1).1
    have : ((i : Nat) : Int) ∈ bestN b ps := by
      unfold bestN
      refine List.mem_map.mpr ⟨i, List.mem_filter.mpr ⟨List.mem_range.mpr hil, ?_⟩, rfl⟩
      unfold isBest
      rw [List.getD_eq_getElem?_getD, h1, Option.getD_some, hw]
      show decide (w - ps.getD i 0 = gainN b ps) = true
      rw [List.getD_eq_getElem?_getD, h2]
      exact decide_eq_true e3
    rw [e] at this
    cases this
  · rw [List.mem_singleton] at hm
    omega
theorem ex_bot {m : Mkt} {ps : List Int} (hp : ∀ b ∈ m.bids, ps.length = b.length) : exP m ps (fun _ => false) ≤ 0 := by
  unfold exP
  rw [capP_bot]
  have : m.bids.countP (exB ps fun _ => false) = 0 := by
    rw [List.countP_eq_zero]
    intro b hb h
    unfold exB at h
    rw [Bool.and_eq_true, decide_eq_true_iff] at h
    have hne := best_ne (hp b hb) h.1
    cases e : bestN b ps with
    | nil => exact hne e
    | cons x l => rw [e] at h; simp at h
  omega
structure Fam (n : Nat) (D : Int → Bool) (f : List Int → Int) (g : (Int → Bool) → Int) (Ks : List (List Int)) : Prop where
  mem : ∀ K, K ∈ Ks ↔ (K.Pairwise (· < ·) ∧ ∀ k ∈ K, (0 ≤ k ∧ k < n) ∧ D k = true) ∧ K ≠ []
  val : ∀ K ∈ Ks, f K = g fun k => decide (k ∈ K)
  sup : ∀ p q, g p + g q ≤ g (fun k => p k && q k) + g fun k => p k || q k
  bot : g (fun _ => false) ≤ 0
def topN (f : List Int → Int) (Ks : List (List Int)) : Int := maxI (Ks.map f ++ [0])
theorem top_ge {f : List Int → Int} {Ks : List (List Int)} : (∀ K ∈ Ks, f K ≤ topN f Ks) ∧ 0 ≤ topN f Ks :=
  ⟨fun K h => maxI_ge (List.mem_append_left _ (List.mem_map.mpr ⟨K, h, rfl⟩)), maxI_ge (by simp)⟩
theorem top_mem {f : List Int → Int} {Ks : List (List Int)} (h : topN f Ks ≠ 0) : ∃ K ∈ Ks, f K = topN f Ks := by
  have hm : topN f Ks ∈ Ks.map f ++ [0] := maxI_mem (by simp)
  rcases List.mem_append.mp hm with hm | hm
  · obtain ⟨K, hK, e⟩ := List.mem_map.mp hm
    exact ⟨K, hK, e⟩
  · exact absurd (List.mem_singleton.mp hm) h
section
variable {n : Nat} {D : Int → Bool} {f : List Int → Int} {g : (Int → Bool) → Int} {Ks : List (List Int)}
theorem Fam.le (F : Fam n D f g Ks) {p : Int → Bool} (hp : ∀ k, p k = true → (0 ≤ k ∧ k < n) ∧ D k = true) (hne : ∃ k, p k = true) : g p ≤ topN f Ks := by
  have hK : (rI6 n).filter p ∈ Ks := (F.mem _).mpr ⟨⟨(rI6_up n).filter _, fun k hk => hp k (List.mem_filter.mp hk).2⟩, fun e => by
    obtain ⟨k, hk⟩ := hne
    have : k ∈ (rI6 n).filter p := List.mem_filter.mpr ⟨rI6_mem.mpr (hp k hk).1, hk⟩
    rw [e] at this; cases this⟩
  have h1 := (top_ge (f := f) (Ks := Ks)).1 _ hK
  rw [F.val _ hK] at h1
  have e : (fun k => decide (k ∈ (rI6 n).filter p)) = p := funext fun k => by
    cases z : p k with
    | true => exact decide_eq_true (List.mem_filter.mpr ⟨rI6_mem.mpr (hp k z).1, z⟩)
    | false => exact decide_eq_false fun h => by have := (List.mem_filter.mp h).2; rw [z] at this; cases this
  rwa [e] at h1
theorem Fam.meet (F : Fam n D f g Ks) (ht : 0 < topN f Ks) : ∀ L : List (List Int), L ≠ [] → (∀ K ∈ L, K ∈ Ks ∧ f K = topN f Ks) → g (fun k => L.all fun K => decide (k ∈ K)) = topN f Ks
  | [], h, _ => absurd rfl h
  | [K], _, hL => by
    obtain ⟨h1, h2⟩ := hL K (by simp)
    have e : (fun k => [K].all fun K => decide (k ∈ K)) = fun k => decide (k ∈ K) := funext fun k => by simp
    rw [e, ← F.val K h1, h2]
  | K :: J :: L, _, hL => by
    have ih := F.meet ht (J :: L) (by simp) fun M hM => hL M (List.mem_cons_of_mem _ hM)
    obtain ⟨h1, h2⟩ := hL K (by simp)
    obtain ⟨j1, _⟩ := hL J (by simp)
    have hv := F.val K h1
    have hKp := ((F.mem K).mp h1).1.2
    have hJp := ((F.mem J).mp j1).1.2
    have hsup := F.sup (fun k => decide (k ∈ K)) fun k => (J :: L).all fun K => decide (k ∈ K)
    have hor : g (fun k => decide (k ∈ K) || (J :: L).all fun K => decide (k ∈ K)) ≤ topN f Ks := F.le (fun k hk => by
      rw [Bool.or_eq_true] at hk
      rcases hk with hk | hk
      · exact hKp k (of_decide_eq_true hk)
      · rw [List.all_cons, Bool.and_eq_true] at hk
        exact hJp k (of_decide_eq_true hk.1)) (by
      obtain ⟨x, hx⟩ := List.exists_mem_of_ne_nil K ((F.mem K).mp h1).2
      exact ⟨x, by rw [decide_eq_true hx]; rfl⟩)
    have e : (fun k => (K :: J :: L).all fun K => decide (k ∈ K)) = fun k => decide (k ∈ K) && (J :: L).all fun K => decide (k ∈ K) := funext fun k => by rw [List.all_cons]
    rw [e]
    have hge : topN f Ks ≤ g fun k => decide (k ∈ K) && (J :: L).all fun K => decide (k ∈ K) := by
      rw [ih, ← hv, h2] at hsup
      omega
    refine Int.le_antisymm (F.le (fun k hk => ?_) ?_) hge
    · rw [Bool.and_eq_true] at hk
      exact hKp k (of_decide_eq_true hk.1)
    · refine Classical.byContradiction fun hno => ?_
      have e2 : (fun k => decide (k ∈ K) && (J :: L).all fun K => decide (k ∈ K)) = fun _ => false := funext fun k => by
        cases z : (decide (k ∈ K) && (J :: L).all fun K => decide (k ∈ K)) with
        | false => rfl
        | true => exact absurd ⟨k, z⟩ hno
      rw [e2] at hge
      have := F.bot
      omega
/-- the set that all greatest ones contain -/
theorem Fam.core (F : Fam n D f g Ks) (ht : topN f Ks ≠ 0) : ∃ K0 ∈ Ks, f K0 = topN f Ks ∧ ∀ K ∈ Ks, f K = topN f Ks → ∀ k ∈ K0, k ∈ K := by
  have hpos : 0 < topN f Ks := by have := (top_ge (f := f) (Ks := Ks)).2; omega
  obtain ⟨K1, hK1, e1⟩ := top_mem ht
  have hL : Ks.filter (fun K => decide (f K = topN f Ks)) ≠ [] := fun e => by
    have : K1 ∈ Ks.filter fun K => decide (f K = topN f Ks) := List.mem_filter.mpr ⟨hK1, decide_eq_true e1⟩
    rw [e] at this; cases this
  have hm := F.meet hpos _ hL fun K hK => ⟨(List.mem_filter.mp hK).1, of_decide_eq_true (List.mem_filter.mp hK).2⟩
  have hin : ∀ k, ((Ks.filter fun K => decide (f K = topN f Ks)).all fun K => decide (k ∈ K)) = true → ∀ K ∈ Ks, f K = topN f Ks → k ∈ K := fun k hk K hK e =>
    of_decide_eq_true (List.all_eq_true.mp hk K (List.mem_filter.mpr ⟨hK, decide_eq_true e⟩))
  generalize hp : (fun k => (Ks.filter fun K => decide (f K = topN f Ks)).all fun K => decide (k ∈ K)) = p at hm
  have hpk : ∀ k, p k = true → ∀ K ∈ Ks, f K = topN f Ks → k ∈ K := fun k hk => hin k (by rw [← hp] at hk; exact hk)
  have hsub : ∀ k, p k = true → (0 ≤ k ∧ k < n) ∧ D k = true := fun k hk => ((F.mem K1).mp hK1).1.2 k (hpk k hk K1 hK1 e1)
  have e2 : (fun k => decide (k ∈ (rI6 n).filter p)) = p := funext fun k => by
    cases z : p k with
    | true => exact decide_eq_true (List.mem_filter.mpr ⟨rI6_mem.mpr (hsub k z).1, z⟩)
    | false => exact decide_eq_false fun h => by have := (List.mem_filter.mp h).2; rw [z] at this; cases this
  have hK0 : (rI6 n).filter p ∈ Ks := (F.mem _).mpr ⟨⟨(rI6_up n).filter _, fun k hk => hsub k (List.mem_filter.mp hk).2⟩, fun e => by
    have e3 : p = fun _ => false := funext fun k => by
      cases z : p k with
      | false => rfl
      | true =>
        have : k ∈ (rI6 n).filter p := List.mem_filter.mpr ⟨rI6_mem.mpr (hsub k z).1, z⟩
        rw [e] at this; cases this
    rw [e3] at hm
    have := F.bot
    omega⟩
  exact ⟨_, hK0, by rw [F.val _ hK0, e2, hm], fun K hK e k hk => hpk k (List.mem_filter.mp hk).2 K hK e⟩
theorem sub_len {a b : List Int} (ha : a.Pairwise (· < ·)) (hb : b.Pairwise (· < ·)) (h : ∀ x ∈ a, x ∈ b) (hne : b ≠ a) : a.length < b.length := by
  have h1 := Ku.nodup_sub (ha.imp fun h => by omega) h
  refine Classical.byContradiction fun z => hne (sorted_uniq hb ha fun x => ⟨fun hx => ?_, h x⟩)
  refine Classical.byContradiction fun hno => ?_
  have h2 := Ku.nodup_sub (a := x :: a) (b := b) (List.nodup_cons.mpr ⟨hno, ha.imp fun h => by omega⟩) fun y hy => by
    rcases List.mem_cons.mp hy with rfl | hy
    · exact hx
    · exact h y hy
  rw [List.length_cons] at h2
  omega
/-- as the law tells it -/
def inmN (f : List Int → Int) (Ks : List (List Int)) : Option (List Int) :=
  if topN f Ks = 0 then none else some (((Ks.filter fun K => decide (f K = topN f Ks)).headD []).filter fun k => (Ks.filter fun K => decide (f K = topN f Ks)).all fun K => decide (k ∈ K))
theorem Fam.inm (F : Fam n D f g Ks) {K0 : List Int} (ht : topN f Ks ≠ 0) (h0 : K0 ∈ Ks) (e0 : f K0 = topN f Ks) (hs : ∀ K ∈ Ks, f K = topN f Ks → ∀ k ∈ K0, k ∈ K) : inmN f Ks = some K0 := by
  unfold inmN
  rw [if_neg ht]
  have hin : K0 ∈ Ks.filter fun K => decide (f K = topN f Ks) := List.mem_filter.mpr ⟨h0, decide_eq_true e0⟩
  have hall : ∀ K ∈ Ks.filter (fun K => decide (f K = topN f Ks)), K ∈ Ks ∧ f K = topN f Ks := fun K hK => ⟨(List.mem_filter.mp hK).1, of_decide_eq_true (List.mem_filter.mp hK).2⟩
  generalize Ks.filter (fun K => decide (f K = topN f Ks)) = L at hin hall
  cases L with
  | nil => cases hin
  | cons K1 L =>
    obtain ⟨h1, e1⟩ := hall K1 (by simp)
    refine congrArg some (sorted_uniq (((F.mem K1).mp h1).1.1.filter _) ((F.mem K0).mp h0).1.1 fun x => ?_)
    show x ∈ K1.filter _ ↔ _
    rw [List.mem_filter]
    constructor
    · rintro ⟨_, hx⟩
      exact of_decide_eq_true (List.all_eq_true.mp hx K0 hin)
    · intro hx
      exact ⟨hs K1 h1 e1 x hx, List.all_eq_true.mpr fun K hK => decide_eq_true (hs K (hall K hK).1 (hall K hK).2 x hx)⟩
theorem top_same {Js : List (List Int)} (h : ∀ K, K ∈ Ks ↔ K ∈ Js) : topN f Ks = topN f Js := by
  have key : ∀ {A B : List (List Int)}, (∀ K, K ∈ A → K ∈ B) → topN f A ≤ topN f B := fun {A B} h => by
    by_cases z : topN f A = 0
    · rw [z]; exact top_ge.2
    · obtain ⟨K, hK, e⟩ := top_mem z
      rw [← e]; exact top_ge.1 K (h K hK)
  exact Int.le_antisymm (key fun K => (h K).mp) (key fun K => (h K).mpr)
theorem Fam.same (F : Fam n D f g Ks) {Js : List (List Int)} (h : ∀ K, K ∈ Ks ↔ K ∈ Js) : inmN f Ks = inmN f Js := by
  have F2 : Fam n D f g Js := ⟨fun K => by rw [← h]; exact F.mem K, fun K hK => F.val K ((h K).mpr hK), F.sup, F.bot⟩
  have et := top_same (f := f) h
  by_cases z : topN f Ks = 0
  · unfold inmN
    rw [if_pos z, if_pos (et ▸ z)]
  · obtain ⟨K0, h0, e0, hs⟩ := F.core z
    rw [F.inm z h0 e0 hs, F2.inm (et ▸ z) ((h K0).mp h0) (by rw [e0, et]) fun K hK e => hs K ((h K).mpr hK) (by rw [e, et])]
end
end K1

set_option Elab.async false
set_option linter.all false
set_option maxRecDepth 1000000
set_option maxHeartbeats 8000000
set_option pp.maxSteps 400
namespace K1
open PySem L2 Fs
def ir_find_wishes : ISs := (.cons (.ret (.lc (.tup (.cons (.cmp .Gt (.call "find_gain" F_find_gain (.cons (.var 2) (.cons (.var 1) .nil))) (.int 0)) (.cons (.call "find_best" F_find_best (.cons (.var 2) (.cons (.var 1) .nil))) .nil))) (.v 2) (.seq (.ix (.var 0) (.int 1))) .nil))
  .nil)
def F_find_wishes : Fn := runF 3 ir_find_wishes
def ir_find_inmost : ISs := (.cons (.set 1 (.blt .max (.cons (.bin .Add (.lc (.var 2) (.t [2, 3]) (.seq (.var 0)) .nil) (.lst (.cons (.int 0) .nil))) .nil)))
  (.cons (.ite (.cmp .Eq (.var 1) (.int 0))
  (.cons (.ret .non)
  .nil)
  .nil)
  (.cons (.ret (.ix (.blt .min (.cons (.lc (.tup (.cons (.blt .len (.cons (.var 3) .nil)) (.cons (.var 3) .nil))) (.t [2, 3]) (.seq (.var 0)) (.cons (.cmp .Eq (.var 2) (.var 1)) .nil)) .nil)) (.int 1)))
  .nil)))
def F_find_inmost : Fn := runF 4 ir_find_inmost
def ir_count_seats : ISs := (.cons (.ret (.blt .sum (.cons (.lc (.ix (.ix (.var 0) (.int 0)) (.var 2)) (.v 2) (.seq (.var 1)) .nil) .nil)))
  .nil)
def F_count_seats : Fn := runF 3 ir_count_seats
def ir_excess_by : ISs := (.cons (.setLc 3 (.var 5) (.t [4, 5]) (.seq (.var 1)) (.cons (.var 4) .nil))
  (.cons (.ret (.bin .Sub (.blt .len (.cons (.lc (.var 5) (.v 5) (.seq (.var 3)) (.cons (.blt .all (.cons (.lc (.cmp .In (.var 6) (.var 2)) (.v 6) (.seq (.var 5)) .nil) .nil)) .nil)) .nil)) (.call "count_seats" F_count_seats (.cons (.var 0) (.cons (.var 2) .nil)))))
  .nil))
def F_excess_by : Fn := runF 7 ir_excess_by
def ir_all_kind_sets : ISs := (.cons (.set 1 (.lst (.cons (.tup .nil) .nil)))
  (.cons (.for (.v 2) (.rng (.var 0))
  (.cons (.ext 1 (.lc (.blt .stp (.cons (.var 3) (.cons (.var 2) .nil))) (.v 3) (.seq (.var 1)) .nil))
  .nil))
  (.cons (.ret (.sl (.var 1) (.some (.int 1)) .none))
  .nil)))
def F_all_kind_sets : Fn := runF 4 ir_all_kind_sets
def ir_find_pressed_v1 : ISs := (.cons (.set 2 (.call "find_wishes" F_find_wishes (.cons (.var 0) (.cons (.var 1) .nil))))
  (.cons (.ret (.call "find_inmost" F_find_inmost (.cons (.lc (.tup (.cons (.call "excess_by" F_excess_by (.cons (.var 0) (.cons (.var 2) (.cons (.var 3) .nil)))) (.cons (.var 3) .nil))) (.v 3) (.seq (.call "all_kind_sets" F_all_kind_sets (.cons (.blt .len (.cons (.var 1) .nil)) .nil))) .nil) .nil)))
  .nil))
def F_find_pressed_v1 : Fn := runF 4 ir_find_pressed_v1
def ir_pressed_kinds_v1 : ISs := (.cons (.expr (.call "require_market" F_require_market (.cons (.var 0) .nil)))
  (.cons (.expr (.call "require_prices" F_require_prices (.cons (.var 0) (.cons (.var 1) .nil))))
  (.cons (.ret (.call "find_pressed" F_find_pressed_v1 (.cons (.var 0) (.cons (.var 1) .nil))))
  .nil)))
def F_pressed_kinds_v1 : Fn := runF 2 ir_pressed_kinds_v1
def ir_idleness_by : ISs := (.cons (.setLc 3 (.var 5) (.t [4, 5]) (.seq (.var 1)) .nil)
  (.cons (.ret (.bin .Sub (.call "count_seats" F_count_seats (.cons (.var 0) (.cons (.var 2) .nil))) (.blt .len (.cons (.lc (.var 5) (.v 5) (.seq (.var 3)) (.cons (.blt .any (.cons (.lc (.cmp .In (.var 6) (.var 2)) (.v 6) (.seq (.var 5)) .nil) .nil)) .nil)) .nil))))
  .nil))
def F_idleness_by : Fn := runF 7 ir_idleness_by
def ir_find_idle_sets_v1 : ISs := (.cons (.set 1 (.lc (.var 2) (.t [2, 3]) (.enum (.var 0)) (.cons (.cmp .Gt (.var 3) (.int 0)) .nil)))
  (.cons (.ret (.lc (.blt .tuple (.cons (.lc (.ix (.var 1) (.var 5)) (.v 5) (.seq (.var 4)) .nil) .nil)) (.v 4) (.seq (.call "all_kind_sets" F_all_kind_sets (.cons (.blt .len (.cons (.var 1) .nil)) .nil))) .nil))
  .nil))
def F_find_idle_sets_v1 : Fn := runF 6 ir_find_idle_sets_v1
def ir_find_slack_v1 : ISs := (.cons (.set 2 (.call "find_wishes" F_find_wishes (.cons (.var 0) (.cons (.var 1) .nil))))
  (.cons (.ret (.call "find_inmost" F_find_inmost (.cons (.lc (.tup (.cons (.call "idleness_by" F_idleness_by (.cons (.var 0) (.cons (.var 2) (.cons (.var 3) .nil)))) (.cons (.var 3) .nil))) (.v 3) (.seq (.call "find_idle_sets" F_find_idle_sets_v1 (.cons (.var 1) .nil))) .nil) .nil)))
  .nil))
def F_find_slack_v1 : Fn := runF 4 ir_find_slack_v1
def ir_slack_kinds_v1 : ISs := (.cons (.expr (.call "require_market" F_require_market (.cons (.var 0) .nil)))
  (.cons (.expr (.call "require_prices" F_require_prices (.cons (.var 0) (.cons (.var 1) .nil))))
  (.cons (.ret (.call "find_slack" F_find_slack_v1 (.cons (.var 0) (.cons (.var 1) .nil))))
  .nil)))
def F_slack_kinds_v1 : Fn := runF 2 ir_slack_kinds_v1

local macro_rules
  | `(tactic| fail) => `(tactic| first
    | (refine' gateE ?_; first | refine' w_var rfl ?_ | refine' w_own rfl ?_ | refine' w_int ?_ | refine' w_bool ?_ | refine' w_non ?_ | refine' w_str ?_ | refine' w_glob ?_ | refine' w_call ?_ | refine' w_ix ?_ | refine' w_cmp ?_ | refine' w_bin ?_ | refine' w_one ?_ | refine' w_blt ?_ | refine' w_isi ?_ | refine' w_not ?_ | refine' w_isN ?_ | refine' w_notN ?_ | refine' w_tup ?_ | refine' w_lst ?_ | refine' w_and ?_ | refine' w_or ?_ | refine' w_sl ?_ | refine' w_lc ?_ | refine' w_neg ?_ | refine' w_cmp2P ?_ ?_)
    | refine' wl_nil ?_
    | refine' wl_cons ?_
    | (refine' gate1 ?_; first | refine' w1_set ?_ | refine' w1_ret ?_ | refine' w1_setT ?_ | refine' w1_set2 ?_ | refine' w1_app rfl ?_ | refine' w1_ins rfl ?_ | refine' w1_expr ?_ | refine' w1_rev rfl ?_ | refine' w1_ext rfl ?_ | refine' w1_setLc ?_ | refine' w1_for ?_ | refine' w1_retN ?_ | refine' w1_cont ?_ | refine' w1_brk ?_ | refine' w1_pass ?_)
    | refine' ws_nil ?_
    | refine' ws_cons ?_
    | (refine' gateB ?_; first | refine' wb_and1 ?_ | refine' wb_or1 ?_ | refine' wb_andP ?_ (fun _ => ?_) ?_ | refine' wb_orP ?_ (fun _ => ?_) ?_ | refine' wb_of ?_)
    | refine' wv ?_
    | (refine' gateK ?_; first | refine' k_lt ?_ | refine' k_le ?_ | refine' k_gt ?_ | refine' k_ge ?_ | refine' k_eqI ?_ | refine' k_neI ?_ | refine' k_inT ?_ | refine' k_inL ?_ | refine' k_ninT ?_ | refine' k_ninL ?_)
    | (refine' gateF ?_; first | refine' f_lenL ?_ | refine' f_lenT ?_ | refine' f_int ?_ | refine' f_tupL ?_ | refine' f_tupT ?_ | refine' f_listL ?_ | refine' f_listT ?_ | refine' f_max2 ?_ | refine' f_rev1T ?_ | refine' f_rev1L ?_ | refine' f_min2 ?_)
    | (refine' gateI ?_; first | refine' wi rfl ?_ | refine' wi_atT rfl rfl ?_ | refine' wi_atL rfl rfl ?_)
    | (refine' gateT ?_; first | refine' wt_v rfl ?_ | refine' wt_t2 rfl ?_ | refine' wt_t3 rfl ?_ | refine' wt_t4 rfl ?_ | refine' wt_t5 rfl ?_ | refine' wt rfl ?_)
    | (refine' gateR ?_; first | refine' wr_seq ?_ | refine' wr_enum ?_ | refine' wr_zip ?_ | refine' wr_rng ?_ | refine' wr_rng2 ?_)
    | (refine' gateSl ?_; first | refine' slF_T rfl ?_ | refine' slT_T rfl ?_ | refine' slF_L rfl ?_ | refine' slT_L rfl ?_)
    | refine' wo_none ?_
    | refine' wo_some ?_
    | refine' wal_nil ?_
    | refine' wal_one ?_
    | refine' d_add ?_
    | refine' d_sub ?_
    | refine' z_TT ?_
    | refine' z_LL ?_
    | refine' wret ?_
    | exact rfl
    | refine' ⟨_, rfl, ?_⟩
    | refine' ⟨rfl, fun _ => ?_⟩
    | refine' ⟨rfl, ?_⟩
    | fail_if_success skip)
section
variable {pn : Option Pn} {Q : D → Bool → Option Pn → Prop} {m : Mkt} {ps : List Int} {K : List Int}
theorem lenK {n : Nat} (hn : n ≤ 6) (h : K ∈ choices n) : K.length ≤ 6 := by
  have := Ku.nodup_len (N := n) (choices_ok h).1 (choices_ok h).2
  omega
theorem c_all_kind_sets {n : Nat} (hn : n ≤ 6) (h : Q (.list ((setsN n).map intsD)) true pn) : WC F_all_kind_sets [.int (n : Nat)] pn Q := by
  refine w_run ?_
  unfold ir_all_kind_sets
  (repeat' first | fail)
  refine ⟨by omega, ?_⟩
  refine wfor_rng (fun i s => ∃ x2, s = ⟨[some (.int (n : Nat), false), some (.list ((choices i).map intsD), true), x2, none], pn⟩) ⟨none, rfl⟩ ?_ ?_
  · rintro i s hi ⟨x2, rfl⟩
    have hi6 : i ≤ 6 := by omega
    have h1 := choices_le (m := i) (by omega)
    refine wt_v rfl (ws_cons ?_)
    refine w1_ext rfl ?_
    refine w_lc (wr_seq (w_own rfl ⟨_, rfl, ?_⟩))
    refine wlc_all (xs := choices i) (g := intsD) (f := fun K => intsD (K ++ [(i : Int)])) rfl rfl (lenOk (by omega)) (fun K hK => ?_) rfl ?_
    · have := lenK hi6 hK
      (repeat' first | refine' f_stp (xs := K.map .int) (by rw [List.length_map]; omega) rfl ?_ | fail)
      rw [show K.map PyData.int ++ [PyData.int (i : Nat)] = (K ++ [(i : Int)]).map .int by rw [List.map_append]; rfl]
      exact ⟨rfl, rfl⟩
    (repeat' first | fail)
    refine ⟨_, _, rfl, rfl, ?_, ?_⟩
    · rw [List.length_map, List.length_map, sizeL]; omega
    (repeat' first | fail)
    refine ⟨some (.int (i : Nat), false), ?_⟩
    rw [choices, List.map_append, List.map_map]
    rfl
  · rintro s ⟨x2, rfl⟩
    rw [Int.toNat_natCast]
    (repeat' first | refine' slF_L (by decide) ?_ | fail)
    rw [← List.map_drop]
    exact h
theorem bid_len (hm : MktOk m) {b : List (Option Int)} (hb : b ∈ m.bids) : b.length ≤ 6 ∧ b.length = m.seats.length := by
  have h1 := hm.len
  have h2 := (hm.bid b hb).1
  omega
def wishD (ps : List Int) (b : List (Option Int)) : D := .tuple [.bool (decide (0 < gainN b ps)), .list ((bestN b ps).map .int)]
def wishesD (m : Mkt) (ps : List Int) : D := .list (m.bids.map (wishD ps))
theorem c_find_wishes (hm : MktOk m) (hp : ps.length = m.seats.length) (h : Q (wishesD m ps) true pn) : WC F_find_wishes [mktD m, intsD ps] pn Q := by
  have hmany := hm.many
  refine w_run ?_
  unfold ir_find_wishes
  (repeat' first | fail)
  refine wlc_all (xs := m.bids) (g := bidD) (f := wishD ps) rfl rfl (lenOk (by omega)) (fun b hb => ?_) rfl ?_
  · obtain ⟨h1, h2⟩ := bid_len hm hb
    (repeat' first |  ((with_reducible show WC F_find_gain _ _ _); refine' c_find_gain h1 ?_) | ((with_reducible show WC F_find_best _ _ _); refine' c_find_best h1 (by omega) ?_)  | fail)
  (repeat' first | fail)
  exact h
theorem wi_seat (hm : MktOk m) {k : Int} {R : D → Prop} (hk : 0 ≤ k ∧ k < m.seats.length) (h : R (.int (stAt m k))) : WI (intsD m.seats) (.int k) R := by
  refine wi_atT (d := .int (stAt m k)) (decide_eq_true hk.1) ?_ h
  rw [List.getElem?_map, List.getElem?_eq_getElem (by omega)]
  unfold stAt
  rw [List.getD_eq_getElem?_getD, List.getElem?_eq_getElem (by omega)]; rfl
theorem c_count_seats (hm : MktOk m) (hK : ∀ k ∈ K, 0 ≤ k ∧ k < m.seats.length) (hl : K.length ≤ 1000) (h : Q (.int (capM m K)) false pn) : WC F_count_seats [mktD m, intsD K] pn Q := by
  refine w_run ?_
  unfold ir_count_seats
  (repeat' first | refine' wlc_all (xs := K) (g := .int) (f := fun k => .int (stAt m k)) rfl ?_ (lenOk (by omega)) (fun k hk => ?_) ?_ ?_ | refine' wi_seat hm (hK _ ‹_›) ?_ | refine' f_sumM (xs := K) (p := stAt m) ?_ | fail)
  exact h
theorem bestN_lenM (hm : MktOk m) {b : List (Option Int)} (hb : b ∈ m.bids) : (bestN b ps).length ≤ 6 := by
  have h1 := (bid_len hm hb).1
  unfold bestN
  rw [List.length_map]
  refine Nat.le_trans (List.length_filter_le ..) ?_
  rw [List.length_range]; exact h1
theorem c_excess_by (hm : MktOk m) (hp : ps.length = m.seats.length) (hK : ∀ k ∈ K, 0 ≤ k ∧ k < m.seats.length) (hl : K.length ≤ 1000) (h : Q (.int (exN m ps K)) false pn) : WC F_excess_by [mktD m, wishesD m ps, intsD K] pn Q := by
  have hmany := hm.many
  refine w_run ?_
  unfold ir_excess_by
  refine ws_cons (w1_setLc (wr_seq (w_var rfl ⟨_, rfl, ?_⟩)))
  refine wlc_map (xs := m.bids) (g := wishD ps) (p := fun b => decide (0 < gainN b ps)) (f := fun b => .list ((bestN b ps).map .int)) rfl rfl (lenOk (by omega)) (fun b hb => ?_) rfl ?_
  · (repeat' first | fail)
    refine ⟨fun _ => ?_, fun _ => rfl⟩
    (repeat' first | fail)
  have hfl := List.length_filter_le (fun b => decide (0 < gainN b ps)) m.bids
  (repeat' first | fail)
  refine wlc_map (xs := m.bids.filter fun b => decide (0 < gainN b ps)) (g := fun b => .list ((bestN b ps).map .int)) (p := fun b => (bestN b ps).all fun k => decide (k ∈ K)) (f := fun b => .list ((bestN b ps).map .int)) rfl rfl (lenOk (by omega)) (fun b hb => ?_) rfl ?_
  · have hbl := bestN_lenM (ps := ps) hm (List.mem_filter.mp hb).1
    (repeat' first | refine' wlc_all (xs := bestN b ps) (g := .int) (f := fun k => .bool (decide (k ∈ K))) rfl ?_ (lenOk (by omega)) (fun k hk => ?_) ?_ ?_ | refine' f_allM (xs := bestN b ps) (p := fun k => decide (k ∈ K)) ?_ | fail)
    refine ⟨fun _ => ?_, fun _ => rfl⟩
    (repeat' first | fail)
  (repeat' first |  ((with_reducible show WC F_count_seats _ _ _); refine' c_count_seats hm hK hl ?_)  | fail)
  rw [List.length_map, List.filter_filter]
  have e : (((m.bids.filter fun a => ((bestN a ps).all fun k => decide (k ∈ K)) && decide (0 < gainN a ps)).length : Nat) : Int) - capM m K = exN m ps K := by
    unfold exN
    rw [← List.countP_eq_length_filter]
    refine congrArg (fun z : Nat => (z : Int) - capM m K) (congrArg (fun f => m.bids.countP f) (funext fun b => ?_))
    unfold exB
    rw [Bool.and_comm]
  rw [e]
  exact h
theorem c_idleness_by (hm : MktOk m) (hp : ps.length = m.seats.length) (hK : ∀ k ∈ K, 0 ≤ k ∧ k < m.seats.length) (hl : K.length ≤ 1000) (h : Q (.int (idN m ps K)) false pn) : WC F_idleness_by [mktD m, wishesD m ps, intsD K] pn Q := by
  have hmany := hm.many
  refine w_run ?_
  unfold ir_idleness_by
  refine ws_cons (w1_setLc (wr_seq (w_var rfl ⟨_, rfl, ?_⟩)))
  refine wlc_all (xs := m.bids) (g := wishD ps) (f := fun b => .list ((bestN b ps).map .int)) rfl rfl (lenOk (by omega)) (fun b hb => ?_) rfl ?_
  · (repeat' first | fail)
  (repeat' first |  ((with_reducible show WC F_count_seats _ _ _); refine' c_count_seats hm hK hl ?_)  | fail)
  refine wlc_map (xs := m.bids) (g := fun b => .list ((bestN b ps).map .int)) (p := fun b => (bestN b ps).any fun k => decide (k ∈ K)) (f := fun b => .list ((bestN b ps).map .int)) rfl rfl (lenOk (by omega)) (fun b hb => ?_) rfl ?_
  · have hbl := bestN_lenM (ps := ps) hm hb
    (repeat' first | refine' wlc_all (xs := bestN b ps) (g := .int) (f := fun k => .bool (decide (k ∈ K))) rfl ?_ (lenOk (by omega)) (fun k hk => ?_) ?_ ?_ | refine' f_anyM (xs := bestN b ps) (p := fun k => decide (k ∈ K)) ?_ | fail)
    refine ⟨fun _ => ?_, fun _ => rfl⟩
    (repeat' first | fail)
  (repeat' first | fail)
  rw [List.length_map, ← List.countP_eq_length_filter]
  exact h
def posK (ps : List Int) : List Int := (rI6 ps.length).filter fun k => decide (0 < ps.getD k.toNat 0)
def pickK (ks K : List Int) : List Int := K.map fun i => ks.getD i.toNat 0
def idleN (ps : List Int) : List (List Int) := (setsN (posK ps).length).map (pickK (posK ps))
theorem posK_up : (posK ps).Pairwise (· < ·) := (rI6_up _).filter _
theorem posK_mem {k : Int} : k ∈ posK ps ↔ (0 ≤ k ∧ k < ps.length) ∧ 0 < ps.getD k.toNat 0 := by
  unfold posK
  rw [List.mem_filter, rI6_mem, decide_eq_true_iff]
theorem posK_len : (posK ps).length ≤ ps.length := by
  unfold posK rI6
  refine Nat.le_trans (List.length_filter_le ..) ?_
  rw [List.length_map, List.length_range]; exact Nat.le_refl _
theorem getD_up {ks : List Int} (h : ks.Pairwise (· < ·)) {i j : Int} (hi : 0 ≤ i ∧ i < ks.length) (hj : 0 ≤ j ∧ j < ks.length) (hij : i < j) : ks.getD i.toNat 0 < ks.getD j.toNat 0 := by
  have := List.pairwise_iff_getElem.mp h i.toNat j.toNat (by omega) (by omega) (by omega)
  rw [List.getD_eq_getElem?_getD, List.getD_eq_getElem?_getD, List.getElem?_eq_getElem (by omega), List.getElem?_eq_getElem (by omega)]
  exact this
theorem idle_iff : K ∈ idleN ps ↔ (K.Pairwise (· < ·) ∧ ∀ k ∈ K, (0 ≤ k ∧ k < ps.length) ∧ decide (0 < ps.getD k.toNat 0) = true) ∧ K ≠ [] := by
  have hup := posK_up (ps := ps)
  unfold idleN
  rw [List.mem_map]
  constructor
  · rintro ⟨J, hJ, rfl⟩
    obtain ⟨⟨h1, h2⟩, h3⟩ := sets_iff.mp hJ
    refine ⟨⟨?_, fun k hk => ?_⟩, fun e => h3 (List.map_eq_nil_iff.mp e)⟩
    · unfold pickK
      rw [List.pairwise_map]
      exact List.Pairwise.imp_of_mem (fun {a b} ha hb hab => getD_up hup (h2 a ha) (h2 b hb) hab) h1
    · obtain ⟨i, hi, rfl⟩ := List.mem_map.mp hk
      have := h2 i hi
      have hm : (posK ps).getD i.toNat 0 ∈ posK ps := by
        rw [List.getD_eq_getElem?_getD, List.getElem?_eq_getElem (by omega)]
        exact List.getElem_mem _
      have := posK_mem.mp hm
      exact ⟨this.1, decide_eq_true this.2⟩
  · rintro ⟨⟨h1, h2⟩, h3⟩
    have hsub : ∀ k ∈ K, k ∈ posK ps := fun k hk => posK_mem.mpr ⟨(h2 k hk).1, of_decide_eq_true (h2 k hk).2⟩
    have hex : (rI6 (posK ps).length).filter (fun i => decide ((posK ps).getD i.toNat 0 ∈ K)) ∈ setsN (posK ps).length := sets_iff.mpr ⟨⟨(rI6_up _).filter _, fun k hk => rI6_mem.mp (List.mem_filter.mp hk).1⟩, fun e => by
      obtain ⟨x, hx⟩ := List.exists_mem_of_ne_nil K h3
      obtain ⟨i, hi⟩ := List.mem_iff_getElem?.mp (hsub x hx)
      have hil := (List.getElem?_eq_some_iff.mp hi).1
      have : (i : Int) ∈ (rI6 (posK ps).length).filter (fun i => decide ((posK ps).getD i.toNat 0 ∈ K)) := List.mem_filter.mpr ⟨rI6_mem.mpr (by omega), by
        rw [Int.toNat_natCast, List.getD_eq_getElem?_getD, hi]
        exact decide_eq_true hx⟩
      rw [e] at this; cases this⟩
    refine ⟨_, hex, sorted_uniq ?_ h1 fun x => ?_⟩
    · unfold pickK
      show ((List.filter _ _).map _).Pairwise (· < ·)
      rw [List.pairwise_map]
      exact List.Pairwise.imp_of_mem (fun {a b} ha hb hab => getD_up hup (rI6_mem.mp (List.mem_filter.mp ha).1) (rI6_mem.mp (List.mem_filter.mp hb).1) hab) ((rI6_up _).filter _)
    · unfold pickK
      show x ∈ (List.filter _ _).map _ ↔ _
      rw [List.mem_map]
      constructor
      · rintro ⟨i, hi, rfl⟩
        exact of_decide_eq_true (List.mem_filter.mp hi).2
      · intro hx
        obtain ⟨i, hi⟩ := List.mem_iff_getElem?.mp (hsub x hx)
        have hil := (List.getElem?_eq_some_iff.mp hi).1
        have e : (posK ps).getD ((i : Nat) : Int).toNat 0 = x := by
          rw [Int.toNat_natCast, List.getD_eq_getElem?_getD, hi]; rfl
        exact ⟨(i : Int), List.mem_filter.mpr ⟨rI6_mem.mpr (by omega), by rw [e]; exact decide_eq_true hx⟩, e⟩
theorem c_find_idle_sets (hl : ps.length ≤ 6) (h : Q (.list ((idleN ps).map intsD)) true pn) : WC F_find_idle_sets_v1 [intsD ps] pn Q := by
  have hpl := posK_len (ps := ps)
  have hsl := sets_len (posK ps).length (by omega)
  refine w_run ?_
  unfold ir_find_idle_sets_v1
  (repeat' first | fail)
  rw [it_enum]
  refine wlc_map (xs := ps.zipIdx) (g := fun p => .tuple [.int (p.2 : Nat), .int p.1]) (p := fun p => decide (0 < p.1)) (f := fun p => .int (p.2 : Nat)) rfl rfl (lenOk (by rw [List.length_zipIdx]; omega)) (fun q hq => ?_) rfl ?_
  · (repeat' first | fail)
    refine ⟨fun _ => ?_, fun _ => rfl⟩
    (repeat' first | fail)
  have e : ((ps.zipIdx.filter fun p => decide (0 < p.1)).map fun p => PyData.int (p.2 : Nat)) = (posK ps).map .int := by
    unfold posK rI6
    rw [List.filter_map, List.map_map]
    rw [show ps.zipIdx = (List.range ps.length).map fun i => (ps.getD i 0, i) from by
      refine List.ext_getElem? fun i => ?_
      rw [List.getElem?_zipIdx, List.getElem?_map]
      by_cases z : i < ps.length
      · rw [List.getElem?_eq_getElem z, List.getElem?_range z]
        show some (ps[i], 0 + i) = some (ps.getD i 0, i)
        rw [List.getD_eq_getElem?_getD, List.getElem?_eq_getElem z, Nat.zero_add]; rfl
      · rw [List.getElem?_eq_none (by omega), List.getElem?_eq_none (by simp; omega)]; rfl]
    rw [List.filter_map, List.map_map]
    rfl
  rw [e]
  (repeat' first | refine' f_lenL (xs := (posK ps).map .int) ?_ | fail)
  rw [List.length_map]
  refine c_all_kind_sets (by omega) ?_
  (repeat' first | fail)
  refine wlc_all (xs := setsN (posK ps).length) (g := intsD) (f := fun K => intsD (pickK (posK ps) K)) rfl rfl (lenOk (by omega)) (fun K hK => ?_) rfl ?_
  · have hK2 := (sets_iff.mp hK).1
    have hKl := Ku.nodup_len (N := (posK ps).length) (hK2.1.imp fun h => by omega) hK2.2
    (repeat' first | fail)
    refine wlc_all (xs := K) (g := .int) (f := fun i => .int ((posK ps).getD i.toNat 0)) rfl rfl (lenOk (by omega)) (fun i hi => ?_) rfl ?_
    · have := hK2.2 i hi
      (repeat' first | fail)
      refine wi_atL (d := .int ((posK ps).getD i.toNat 0)) (decide_eq_true this.1) ?_ ?_
      · rw [List.getElem?_map, List.getElem?_eq_getElem (by omega), List.getD_eq_getElem?_getD, List.getElem?_eq_getElem (by omega)]; rfl
      · exact ⟨rfl, rfl⟩
    (repeat' first | fail)
    unfold pickK intsD
    rw [List.map_map]
    exact ⟨rfl, rfl⟩
  (repeat' first | fail)
  unfold idleN at h
  rw [List.map_map] at h
  exact h
def keyD (K : List Int) : D := .tuple [.int (K.length : Nat), intsD K]
theorem key_lt {K J : List Int} (h : K.length ≠ J.length) : PySem.W.dataLt (keyD K) (keyD J) = decide (K.length < J.length) := by
  unfold keyD
  rw [PySem.W.dataLt_pair (by simp [PySem.W.alike]) (by
    show PySem.W.alike (.tuple (K.map .int)) (.tuple (J.map .int)) = true
    have := PySem.W.alike_ints K J
    simpa [PySem.W.alike] using this)]
  rw [if_neg (by rw [eqv_int]; simp; omega), PySem.W.dataLt_int]
  exact decide_eq_decide.mpr (by omega)
theorem min_key {K0 : List Int} : ∀ (L : List (List Int)) (K : List Int), (∀ J ∈ K :: L, J = K0 ∨ K0.length < J.length) → K0 ∈ K :: L → PySem.W.minD (keyD K) (L.map keyD) = keyD K0
  | [], K, _, h => by
    rw [List.mem_singleton.mp h]; rfl
  | J :: L, K, h, hin => by
    have step : PySem.W.minD (keyD K) ((J :: L).map keyD) = PySem.W.minD (if PySem.W.dataLt (keyD J) (keyD K) then keyD J else keyD K) (L.map keyD) := rfl
    rw [step]
    rcases h K (by simp) with rfl | hK
    · have : PySem.W.dataLt (keyD J) (keyD K) = false := by
        rcases h J (by simp) with rfl | hJ
        · exact PySem.W.dataLt_self _
        · rw [key_lt (by omega)]; exact decide_eq_false (by omega)
      rw [this, if_neg (by decide)]
      exact min_key L K (fun M hM => by
        rcases List.mem_cons.mp hM with rfl | hM
        · exact .inl rfl
        · exact h M (by simp [hM])) (by simp)
    · rcases h J (by simp) with rfl | hJ
      · have : PySem.W.dataLt (keyD J) (keyD K) = true := by rw [key_lt (by omega)]; exact decide_eq_true hK
        rw [this, if_pos rfl]
        exact min_key L J (fun M hM => by
          rcases List.mem_cons.mp hM with rfl | hM
          · exact .inl rfl
          · exact h M (by simp [hM])) (by simp)
      · have hin2 : K0 ∈ L := by
          rcases List.mem_cons.mp hin with e | hin
          · rw [e] at hK; omega
          · rcases List.mem_cons.mp hin with e | hin
            · rw [e] at hJ; omega
            · exact hin
        split
        · exact min_key L J (fun M hM => by
            rcases List.mem_cons.mp hM with rfl | hM
            · exact .inr hJ
            · exact h M (by simp [hM])) (by simp [hin2])
        · exact min_key L K (fun M hM => by
            rcases List.mem_cons.mp hM with rfl | hM
            · exact .inr hK
            · exact h M (by simp [hM])) (by simp [hin2])
theorem good_keys (L : List (List Int)) : good 60 (.list (L.map keyD)) = true := by
  rw [good]
  refine goods_of fun x hx => ?_
  obtain ⟨K, _, rfl⟩ := List.mem_map.mp hx
  unfold keyD
  rw [good]
  refine goods_of fun y hy => ?_
  simp only [List.mem_cons, List.not_mem_nil, or_false] at hy
  rcases hy with rfl | rfl
  · simp [good]
  · unfold intsD; rw [good, goods_ints]
theorem alike_keys (L : List (List Int)) : alikeB (L.map keyD) = true := by
  unfold alikeB
  rw [Bool.and_eq_true, List.all_map, List.all_map]
  refine ⟨List.all_eq_true.mpr fun K _ => ?_, List.all_eq_true.mpr fun K _ => rfl⟩
  show ((L.map keyD).all fun b => PySem.W.alike (keyD K) b) = true
  rw [List.all_map]
  refine List.all_eq_true.mpr fun J _ => ?_
  show PySem.W.alike (.tuple [.int (K.length : Nat), .tuple (K.map .int)]) (.tuple [.int (J.length : Nat), .tuple (J.map .int)]) = true
  have := PySem.W.alike_ints K J
  simp [PySem.W.alike, PySem.W.alikeAll, this]
theorem f_minK {L : List (List Int)} {K0 : List Int} {Q : D → Tg → Prop} (h0 : K0 ∈ L) (hs : ∀ J ∈ L, J = K0 ∨ K0.length < J.length) (h : Q (keyD K0) .fz) : WF .min [.list (L.map keyD)] Q := by
  cases L with
  | nil => cases h0
  | cons K L =>
    refine ⟨(keyD K0, false), ?_, h⟩
    show (if good 60 (.list ((K :: L).map keyD)) && alikeB ((K :: L).map keyD) then some (PySem.W.minD (keyD K) (L.map keyD), false) else none) = _
    rw [good_keys, alike_keys, min_key L K hs h0]; rfl
def rowK (f : List Int → Int) (K : List Int) : D := .tuple [.int (f K), intsD K]
def inmD : Option (List Int) → D
  | none => .none
  | some K => intsD K
theorem c_find_inmost {n : Nat} {D0 : Int → Bool} {f : List Int → Int} {g : (Int → Bool) → Int} {Ks : List (List Int)} (F : Fam n D0 f g Ks) (hl : Ks.length ≤ 100) (h : Q (inmD (inmN f Ks)) false pn) : WC F_find_inmost [.list (Ks.map (rowK f))] pn Q := by
  refine w_run ?_
  unfold ir_find_inmost
  (repeat' first | fail)
  refine wlc_all (xs := Ks) (g := rowK f) (f := fun K => .int (f K)) rfl rfl (lenOk (by omega)) (fun K hK => ?_) rfl ?_
  · (repeat' first | fail)
  rw [show (Ks.map fun K => PyData.int (f K)) = (Ks.map f).map .int from (List.map_map ..).symm]
  (repeat' first | refine' d_addL (by rw [sizeL, List.length_map, List.length_map]; simp; omega) ?_ | fail)
  rw [show (Ks.map f).map PyData.int ++ [PyData.int 0] = (Ks.map f ++ [0]).map .int by rw [List.map_append]; rfl]
  (repeat' first | refine' f_maxL (by simp) ?_ | fail)
  by_cases z : topN f Ks = 0
  · have e : inmN f Ks = none := if_pos z
    rw [e] at h
    unfold topN at z
    rw [z]
    refine w1_iteT ?_
    (repeat' first | fail)
    exact h
  · obtain ⟨K0, h0, e0, hs⟩ := F.core z
    rw [F.inm z h0 e0 hs] at h
    refine w1_iteF ?_
    (repeat' first | fail)
    refine ⟨decide_eq_false z, ?_⟩
    (repeat' first | fail)
    refine wlc_map (xs := Ks) (g := rowK f) (p := fun K => decide (f K = topN f Ks)) (f := keyD) rfl rfl (lenOk (by omega)) (fun K hK => ?_) rfl ?_
    · (repeat' first | fail)
      refine ⟨fun _ => ?_, fun _ => rfl⟩
      (repeat' first | refine' f_lenT (xs := K.map .int) ?_ | fail)
      rw [List.length_map]
      exact ⟨rfl, rfl⟩
    (repeat' first | fail)
    refine f_minK (L := Ks.filter fun K => decide (f K = topN f Ks)) (K0 := K0) (List.mem_filter.mpr ⟨h0, decide_eq_true e0⟩) (fun J hJ => ?_) ?_
    · obtain ⟨hJ, eJ⟩ := List.mem_filter.mp hJ
      by_cases e : J = K0
      · exact .inl e
      · exact .inr (sub_len ((F.mem K0).mp h0).1.1 ((F.mem J).mp hJ).1.1 (hs J hJ (of_decide_eq_true eJ)) e)
    (repeat' first | fail)
    exact h
theorem ex_fam (hm : MktOk m) (hp : ps.length = m.seats.length) {Ks : List (List Int)} (h : ∀ K, K ∈ Ks ↔ K ∈ setsN ps.length) : Fam ps.length (fun _ => true) (exN m ps) (exP m ps) Ks := by
  refine ⟨fun K => ?_, fun K hK => ?_, ex_sup m ps, ex_bot fun b hb => ?_⟩
  · rw [h, sets_iff]
    exact ⟨fun ⟨⟨a, b⟩, c⟩ => ⟨⟨a, fun k hk => ⟨b k hk, rfl⟩⟩, c⟩, fun ⟨⟨a, b⟩, c⟩ => ⟨⟨a, fun k hk => (b k hk).1⟩, c⟩⟩
  · obtain ⟨⟨h1, h2⟩, _⟩ := sets_iff.mp ((h K).mp hK)
    unfold exN exP
    rw [cap_P h1 (by rw [← hp]; exact h2)]
  · rw [hp, (hm.bid b hb).1]
theorem id_fam (hm : MktOk m) (hp : ps.length = m.seats.length) {Ks : List (List Int)} (h : ∀ K, K ∈ Ks ↔ K ∈ idleN ps) : Fam ps.length (fun k => decide (0 < ps.getD k.toNat 0)) (idN m ps) (idP m ps) Ks := by
  refine ⟨fun K => (h K).trans idle_iff, fun K hK => ?_, id_sup m ps, id_bot m ps⟩
  obtain ⟨⟨h1, h2⟩, _⟩ := idle_iff.mp ((h K).mp hK)
  unfold idN idP
  rw [cap_P h1 (by rw [← hp]; exact fun k hk => (h2 k hk).1)]
def pressN (m : Mkt) (ps : List Int) : Option (List Int) := inmN (exN m ps) (setsN ps.length)
def slackN (m : Mkt) (ps : List Int) : Option (List Int) := inmN (idN m ps) (idleN ps)
theorem c_find_pressed (hm : MktOk m) (hp : ps.length = m.seats.length) (h : Q (inmD (pressN m ps)) false pn) : WC F_find_pressed_v1 [mktD m, intsD ps] pn Q := by
  have hlen := hm.len
  have hsl := sets_len ps.length (by omega)
  refine w_run ?_
  unfold ir_find_pressed_v1
  (repeat' first |  ((with_reducible show WC F_find_wishes _ _ _); refine' c_find_wishes hm hp ?_)  | fail)
  rw [List.length_map]
  refine c_all_kind_sets (by omega) ?_
  (repeat' first | fail)
  refine wlc_all (xs := setsN ps.length) (g := intsD) (f := rowK (exN m ps)) rfl rfl (lenOk (by omega)) (fun K hK => ?_) rfl ?_
  · obtain ⟨⟨k1, k2⟩, _⟩ := sets_iff.mp hK
    have hKl := Ku.nodup_len (N := ps.length) (k1.imp fun h => by omega) k2
    (repeat' first |  ((with_reducible show WC F_excess_by _ _ _); refine' c_excess_by hm hp (by rw [← hp]; exact k2) (by omega) ?_)  | fail)
  (repeat' first | fail)
  refine c_find_inmost (ex_fam hm hp fun K => Iff.rfl) (by omega) ?_
  (repeat' first | fail)
  unfold pressN at h
  generalize inmN (exN m ps) (setsN ps.length) = o at h ⊢
  cases o <;> exact h
theorem c_find_slack (hm : MktOk m) (hp : ps.length = m.seats.length) (h : Q (inmD (slackN m ps)) false pn) : WC F_find_slack_v1 [mktD m, intsD ps] pn Q := by
  have hlen := hm.len
  have hpl := posK_len (ps := ps)
  have hsl := sets_len (posK ps).length (by omega)
  have hil : (idleN ps).length ≤ 63 := by unfold idleN; rw [List.length_map]; exact hsl
  refine w_run ?_
  unfold ir_find_slack_v1
  (repeat' first |  ((with_reducible show WC F_find_wishes _ _ _); refine' c_find_wishes hm hp ?_)  | fail)
  refine c_find_idle_sets (by omega) ?_
  (repeat' first | fail)
  refine wlc_all (xs := idleN ps) (g := intsD) (f := rowK (idN m ps)) rfl rfl (lenOk (by omega)) (fun K hK => ?_) rfl ?_
  · obtain ⟨⟨k1, k2⟩, _⟩ := idle_iff.mp hK
    have hKl := Ku.nodup_len (N := ps.length) (k1.imp fun h => by omega) fun k hk => (k2 k hk).1
    (repeat' first |  ((with_reducible show WC F_idleness_by _ _ _); refine' c_idleness_by hm hp (by rw [← hp]; exact fun k hk => (k2 k hk).1) (by omega) ?_)  | fail)
  (repeat' first | fail)
  refine c_find_inmost (id_fam hm hp fun K => Iff.rfl) (by omega) ?_
  (repeat' first | fail)
  unfold slackN at h
  generalize inmN (idN m ps) (idleN ps) = o at h ⊢
  cases o <;> exact h
theorem c_pressed_kinds (hm : MktOk m) (hp : PricesOk m ps) (h : Q (inmD (pressN m ps)) false pn) : WC F_pressed_kinds_v1 [mktD m, intsD ps] pn Q := by
  refine w_run ?_
  unfold ir_pressed_kinds_v1
  (repeat' first |  ((with_reducible show WC F_require_market _ _ _); refine' c_require_mkt hm ?_) | ((with_reducible show WC F_require_prices _ _ _); refine' c_require_prices hm hp ?_) | ((with_reducible show WC F_find_pressed_v1 _ _ _); refine' c_find_pressed hm hp.len ?_)  | fail)
  generalize pressN m ps = o at h ⊢
  cases o <;> exact h
theorem c_slack_kinds (hm : MktOk m) (hp : PricesOk m ps) (h : Q (inmD (slackN m ps)) false pn) : WC F_slack_kinds_v1 [mktD m, intsD ps] pn Q := by
  refine w_run ?_
  unfold ir_slack_kinds_v1
  (repeat' first |  ((with_reducible show WC F_require_market _ _ _); refine' c_require_mkt hm ?_) | ((with_reducible show WC F_require_prices _ _ _); refine' c_require_prices hm hp ?_) | ((with_reducible show WC F_find_slack_v1 _ _ _); refine' c_find_slack hm hp.len ?_)  | fail)
  generalize slackN m ps = o at h ⊢
  cases o <;> exact h
end
end K1

set_option Elab.async false
set_option linter.all false
set_option maxRecDepth 100000
set_option maxHeartbeats 8000000
set_option pp.maxSteps 400
namespace K1
open PySem L2 Fs
section
variable {P : List Kind} {cs ds : List Claim} {t : Int}
variable {pn : Option Pn} {Q : D → Bool → Option Pn → Prop}
theorem ClaimsOk.take {m : Nat} (h : ClaimsOk P m cs) (i : Nat) : ClaimsOk P m (cs.take i) :=
  ⟨by have := h.len; rw [List.length_take]; omega, fun c hc => h.cs c (List.mem_of_mem_take hc)⟩
theorem ClaimsOk.rev {m : Nat} (h : ClaimsOk P m cs) : ClaimsOk P m cs.reverse := ⟨by rw [List.length_reverse]; exact h.len, fun c hc => h.cs c (by simpa using hc)⟩
end
def allFz : List Tg → Bool
  | [] => true
  | .fz :: r => allFz r
  | _ => false
theorem keeps_fz : ∀ {ts : List Tg} {s : S}, allFz ts = true → s.keeps ts = s
  | [], s, _ => rfl
  | .fz :: r, s, h => keeps_fz (ts := r) (s := s) h
  | .fresh :: _, _, h => by cases h
  | .slot _ :: _, _, h => by cases h
theorem d_mulT {x : List D} {k : Int} {Q : D → Tg → Prop} (z : -(2 ^ 63) ≤ k ∧ k ≤ 1000 ∧ x.length ≤ 1000) (h : Q (.tuple (List.replicate k.toNat x).flatten) .fz) : WD .Mult (.tuple x) (.int k) Q := ⟨(.tuple (List.replicate k.toNat x).flatten, false), if_pos z, h⟩
end K1

set_option Elab.async false
set_option linter.all false
set_option maxRecDepth 1000000
set_option maxHeartbeats 8000000
set_option pp.maxSteps 400
namespace K1
open PySem L2 Fs
local macro_rules
  | `(tactic| fail) => `(tactic| first
    | (refine' gateE ?_; first | refine' w_var rfl ?_ | refine' w_own rfl ?_ | refine' w_int ?_ | refine' w_bool ?_ | refine' w_non ?_ | refine' w_str ?_ | refine' w_glob ?_ | refine' w_call ?_ | refine' w_ix ?_ | refine' w_cmp ?_ | refine' w_bin ?_ | refine' w_one ?_ | refine' w_blt ?_ | refine' w_isi ?_ | refine' w_not ?_ | refine' w_isN ?_ | refine' w_notN ?_ | refine' w_tup ?_ | refine' w_lst ?_ | refine' w_and ?_ | refine' w_or ?_ | refine' w_sl ?_ | refine' w_lc ?_ | refine' w_neg ?_ | refine' w_cmp2P ?_ ?_)
    | refine' wl_nil ?_
    | refine' wl_cons ?_
    | (refine' gate1 ?_; first | refine' w1_set ?_ | refine' w1_ret ?_ | refine' w1_setT ?_ | refine' w1_set2 ?_ | refine' w1_app rfl ?_ | refine' w1_ins rfl ?_ | refine' w1_expr ?_ | refine' w1_rev rfl ?_ | refine' w1_ext rfl ?_ | refine' w1_setLc ?_ | refine' w1_for ?_ | refine' w1_retN ?_ | refine' w1_cont ?_ | refine' w1_brk ?_ | refine' w1_pass ?_)
    | refine' ws_nil ?_
    | refine' ws_cons ?_
    | (refine' gateB ?_; first | refine' wb_and1 ?_ | refine' wb_or1 ?_ | refine' wb_andP ?_ (fun _ => ?_) ?_ | refine' wb_orP ?_ (fun _ => ?_) ?_ | refine' wb_of ?_)
    | refine' wv ?_
    | (refine' gateK ?_; first | refine' k_lt ?_ | refine' k_le ?_ | refine' k_gt ?_ | refine' k_ge ?_ | refine' k_eqI ?_ | refine' k_neI ?_ | refine' k_inT ?_ | refine' k_inL ?_ | refine' k_ninT ?_ | refine' k_ninL ?_)
    | (refine' gateF ?_; first | refine' f_lenL ?_ | refine' f_lenT ?_ | refine' f_int ?_ | refine' f_tupL ?_ | refine' f_tupT ?_ | refine' f_listL ?_ | refine' f_listT ?_ | refine' f_max2 ?_ | refine' f_rev1T ?_ | refine' f_rev1L ?_ | refine' f_min2 ?_)
    | (refine' gateI ?_; first | refine' wi rfl ?_ | refine' wi_atT rfl rfl ?_ | refine' wi_atL rfl rfl ?_)
    | (refine' gateT ?_; first | refine' wt_v rfl ?_ | refine' wt_t2 rfl ?_ | refine' wt_t3 rfl ?_ | refine' wt_t4 rfl ?_ | refine' wt_t5 rfl ?_ | refine' wt rfl ?_)
    | (refine' gateR ?_; first | refine' wr_seq ?_ | refine' wr_enum ?_ | refine' wr_zip ?_ | refine' wr_rng ?_ | refine' wr_rng2 ?_)
    | (refine' gateSl ?_; first | refine' slF_T rfl ?_ | refine' slT_T rfl ?_ | refine' slF_L rfl ?_ | refine' slT_L rfl ?_)
    | refine' wo_none ?_
    | refine' wo_some ?_
    | refine' wal_nil ?_
    | refine' wal_one ?_
    | refine' d_add ?_
    | refine' d_sub ?_
    | refine' z_TT ?_
    | refine' z_LL ?_
    | refine' wret ?_
    | exact rfl
    | refine' ⟨_, rfl, ?_⟩
    | refine' ⟨rfl, fun _ => ?_⟩
    | refine' ⟨rfl, ?_⟩
    | fail_if_success skip)
theorem smn_mkt {m : Mkt} (hm : MktOk m) : Smn 4 12000 (mktD m) := by
  have h1 := hm.len
  have h2 := hm.many
  refine (smn_tup (n := 3) (w := 5500) (k := 2) (by simp) (by decide) fun x hx => ?_).mono (by decide) (by decide)
  simp only [List.mem_cons, List.not_mem_nil, or_false] at hx
  rcases hx with rfl | rfl
  · exact (smn_ints (n := 2) (k := 6) h1.2 (by decide) fun i hi => by have := hm.rg i hi; omega).mono (by decide) (by decide)
  · refine (smn_tup (n := 2) (w := 400) (k := 12) (by simpa using h2) (by decide) fun x hx => ?_).mono (by decide) (by decide)
    obtain ⟨b, hb, rfl⟩ := List.mem_map.mp hx
    obtain ⟨hl, hw⟩ := hm.bid b hb
    refine (smn_tup (n := 1) (w := 64) (k := 6) (by simp; omega) (by decide) fun y hy => ?_).mono (by decide) (by decide)
    obtain ⟨w, hw', rfl⟩ := List.mem_map.mp hy
    cases w with
    | none => exact smn_none
    | some i => exact smn_int (by have := hw _ hw' i rfl; omega)
theorem smn_prices {m : Mkt} {ps : List Int} (hm : MktOk m) (hp : PricesOk m ps) : Smn 2 1000 (intsD ps) :=
  (smn_ints (n := 1) (k := 6) (by have := hp.len; have := hm.len; omega) (by decide) fun i hi => by have := hp.rg i hi; omega).mono (by decide) (by decide)
theorem cst_fzs {s : S} {ts : List Tg} {d : D} {pn : Option Pn} (z : allFz ts = true) : cst s ts d pn = { s with pn := pn } := by
  unfold cst
  rw [keeps_fz z]; split <;> rfl
theorem smn_inm {o : Option (List Int)} (h : ∀ K, o = some K → K.length ≤ 6 ∧ ∀ k ∈ K, k.natAbs < 2 ^ 63) : Smn 2 1000 (inmD o) := by
  cases o with
  | none => exact (smn_none (n := 2) (w := 64)).mono (by decide) (by decide)
  | some K => exact (smn_ints (n := 1) (k := 6) (h K rfl).1 (by decide) (h K rfl).2).mono (by decide) (by decide)
theorem smn_2 {n w : Nat} {a b : D} (h1 : Smn n w a) (h2 : Smn n w b) : Smn (n + 1) (2 * (w + 1)) (.tuple [a, b]) :=
  smn_tup (by simp) (by decide) fun x hx => by
    simp only [List.mem_cons, List.not_mem_nil, or_false] at hx
    rcases hx with rfl | rfl
    · exact h1
    · exact h2
theorem inmN_rg {n : Nat} {D0 : Int → Bool} {f : List Int → Int} {g : (Int → Bool) → Int} {Ks : List (List Int)} (F : Fam n D0 f g Ks) {K : List Int} (h : inmN f Ks = some K) : K ∈ Ks := by
  by_cases z : topN f Ks = 0
  · rw [show inmN f Ks = none from if_pos z] at h; cases h
  · obtain ⟨K0, h0, e0, hs⟩ := F.core z
    rw [F.inm z h0 e0 hs] at h
    cases h; exact h0
theorem press_rg {m : Mkt} {ps K : List Int} (hm : MktOk m) (hp : ps.length = m.seats.length) (h : pressN m ps = some K) : (K.Pairwise (· < ·) ∧ ∀ k ∈ K, 0 ≤ k ∧ k < ps.length) ∧ K.length ≤ 6 := by
  have hlen := hm.len
  have := (sets_iff.mp (inmN_rg (ex_fam hm hp fun K => Iff.rfl) h)).1
  have hl := Ku.nodup_len (N := ps.length) (this.1.imp fun h => by omega) this.2
  exact ⟨this, by omega⟩
theorem slack_rg {m : Mkt} {ps K : List Int} (hm : MktOk m) (hp : ps.length = m.seats.length) (h : slackN m ps = some K) : (K.Pairwise (· < ·) ∧ ∀ k ∈ K, (0 ≤ k ∧ k < ps.length) ∧ decide (0 < ps.getD k.toNat 0) = true) ∧ K.length ≤ 6 := by
  have hlen := hm.len
  have := (idle_iff.mp (inmN_rg (id_fam hm hp fun K => Iff.rfl) h)).1
  have hl := Ku.nodup_len (N := ps.length) (this.1.imp fun h => by omega) fun k hk => (this.2 k hk).1
  exact ⟨this, by omega⟩
end K1

set_option Elab.async false
set_option linter.all false
set_option maxRecDepth 1000000
set_option maxHeartbeats 8000000
namespace K1
open PySem L2 Fs
def ir__law_gain : ISs := (.cons (.ret (.blt .max (.cons (.bin .Add (.lst (.cons (.int 0) .nil)) (.lc (.bin .Sub (.var 2) (.var 3)) (.t [2, 3]) (.zip (.var 0) (.var 1)) (.cons (.notN (.var 2)) .nil))) .nil)))
  .nil)
def F__law_gain : Fn := runF 4 ir__law_gain
def ir__law_best : ISs := (.cons (.set2 [2, 3] (.cons (.call "_law_gain" F__law_gain (.cons (.var 0) (.cons (.var 1) .nil))) (.cons (.lst .nil) .nil)))
  (.cons (.for (.t [4, 5]) (.enum (.var 0))
  (.cons (.ite (.and (.cons (.notN (.var 5)) (.cons (.cmp .Eq (.bin .Sub (.var 5) (.ix (.var 1) (.var 4))) (.var 2)) .nil)))
  (.cons (.app 3 (.var 4))
  .nil)
  .nil)
  .nil))
  (.cons (.ret (.var 3))
  .nil)))
def F__law_best : Fn := runF 6 ir__law_best
def ir__law_bests : ISs := (.cons (.ret (.lc (.tup (.cons (.call "_law_gain" F__law_gain (.cons (.var 2) (.cons (.var 1) .nil))) (.cons (.call "_law_best" F__law_best (.cons (.var 2) (.cons (.var 1) .nil))) .nil))) (.v 2) (.seq (.ix (.var 0) (.int 1))) .nil))
  .nil)
def F__law_bests : Fn := runF 3 ir__law_bests
def ir__law_inmost : ISs := (.cons (.set 1 (.blt .max (.cons (.bin .Add (.lst (.cons (.int 0) .nil)) (.lc (.var 4) (.t [4, 5]) (.seq (.var 0)) .nil)) .nil)))
  (.cons (.ite (.cmp .Eq (.var 1) (.int 0))
  (.cons (.ret .non)
  .nil)
  .nil)
  (.cons (.set 2 (.lc (.var 5) (.t [4, 5]) (.seq (.var 0)) (.cons (.cmp .Eq (.var 4) (.var 1)) .nil)))
  (.cons (.setLc 3 (.var 6) (.v 6) (.seq (.ix (.var 2) (.int 0))) (.cons (.cmp .Eq (.lc (.var 5) (.v 5) (.seq (.var 2)) (.cons (.cmp .NotIn (.var 6) (.var 5)) .nil)) (.lst .nil)) .nil))
  (.cons (.ret (.blt .tuple (.cons (.var 3) .nil)))
  .nil)))))
def F__law_inmost : Fn := runF 7 ir__law_inmost
def ir__law_excess : ISs := (.cons (.set 3 (.bin .Sub (.int 0) (.blt .sum (.cons (.lc (.ix (.ix (.var 0) (.int 0)) (.var 6)) (.v 6) (.seq (.var 2)) .nil) .nil))))
  (.cons (.for (.t [4, 5]) (.seq (.var 1))
  (.cons (.ite (.and (.cons (.cmp .Gt (.var 4) (.int 0)) (.cons (.cmp .Eq (.lc (.var 6) (.v 6) (.seq (.var 5)) (.cons (.cmp .NotIn (.var 6) (.var 2)) .nil)) (.lst .nil)) .nil)))
  (.cons (.set 3 (.bin .Add (.var 3) (.int 1)))
  .nil)
  .nil)
  .nil))
  (.cons (.ret (.var 3))
  .nil)))
def F__law_excess : Fn := runF 7 ir__law_excess
def ir__law_sets_v1 : ISs := (.cons (.set 1 (.lst (.cons (.tup .nil) .nil)))
  (.cons (.for (.v 2) (.rng (.var 0))
  (.cons (.set 1 (.bin .Add (.var 1) (.lc (.bin .Add (.var 3) (.tup (.cons (.var 2) .nil))) (.v 3) (.seq (.var 1)) .nil)))
  .nil))
  (.cons (.ret (.blt .srt (.cons (.sl (.var 1) (.some (.int 1)) .none) .nil)))
  .nil)))
def F__law_sets_v1 : Fn := runF 4 ir__law_sets_v1
def ir__law_pressed_v1 : ISs := (.cons (.set 2 (.call "_law_bests" F__law_bests (.cons (.var 0) (.cons (.var 1) .nil))))
  (.cons (.ret (.call "_law_inmost" F__law_inmost (.cons (.lc (.tup (.cons (.call "_law_excess" F__law_excess (.cons (.var 0) (.cons (.var 2) (.cons (.var 3) .nil)))) (.cons (.var 3) .nil))) (.v 3) (.seq (.call "_law_sets" F__law_sets_v1 (.cons (.blt .len (.cons (.var 1) .nil)) .nil))) .nil) .nil)))
  .nil))
def F__law_pressed_v1 : Fn := runF 4 ir__law_pressed_v1
def ir__law_idleness : ISs := (.cons (.set 3 (.blt .sum (.cons (.lc (.ix (.ix (.var 0) (.int 0)) (.var 6)) (.v 6) (.seq (.var 2)) .nil) .nil)))
  (.cons (.for (.t [4, 5]) (.seq (.var 1))
  (.cons (.ite (.cmp .NotEq (.lc (.var 6) (.v 6) (.seq (.var 5)) (.cons (.cmp .In (.var 6) (.var 2)) .nil)) (.lst .nil))
  (.cons (.set 3 (.bin .Sub (.var 3) (.int 1)))
  .nil)
  .nil)
  .nil))
  (.cons (.ret (.var 3))
  .nil)))
def F__law_idleness : Fn := runF 7 ir__law_idleness
def ir__law_slack_v1 : ISs := (.cons (.set2 [2, 3] (.cons (.lst .nil) (.cons (.call "_law_bests" F__law_bests (.cons (.var 0) (.cons (.var 1) .nil))) .nil)))
  (.cons (.for (.v 4) (.seq (.call "_law_sets" F__law_sets_v1 (.cons (.blt .len (.cons (.var 1) .nil)) .nil)))
  (.cons (.ite (.cmp .Eq (.lc (.var 5) (.v 5) (.seq (.var 4)) (.cons (.cmp .Eq (.ix (.var 1) (.var 5)) (.int 0)) .nil)) (.lst .nil))
  (.cons (.app 2 (.tup (.cons (.call "_law_idleness" F__law_idleness (.cons (.var 0) (.cons (.var 3) (.cons (.var 4) .nil)))) (.cons (.var 4) .nil))))
  .nil)
  .nil)
  .nil))
  (.cons (.ret (.call "_law_inmost" F__law_inmost (.cons (.var 2) .nil)))
  .nil)))
def F__law_slack_v1 : Fn := runF 6 ir__law_slack_v1
def irr_law : ISs := (.cons (.for (.v 2) (.rng (.int 2))
  (.cons (.set 3 (.call "_law_drawn_market" F__law_drawn_market (.cons (.call "_law_anew" FAnew (.cons (.var 1) .nil)) (.cons (.int 12) .nil))))
  (.cons (.set 4 (.lst (.cons (.bin .Mult (.tup (.cons (.int 0) .nil)) (.blt .len (.cons (.ix (.var 3) (.int 0)) .nil))) (.cons (.bin .Mult (.tup (.cons (.int 200) .nil)) (.blt .len (.cons (.ix (.var 3) (.int 0)) .nil))) .nil))))
  (.cons (.for (.v 5) (.seq (.bin .Add (.var 4) (.lc (.call "_law_drawn_prices" F__law_drawn_prices (.cons (.call "_law_anew" FAnew (.cons (.var 1) .nil)) (.cons (.var 3) .nil))) (.v 7) (.rng (.int 2)) .nil)))
  (.cons (.set 6 (.blt .repr (.cons (.tup (.cons (.var 3) (.cons (.var 5) .nil))) .nil)))
  (.cons (.ite (.cmp .NotEq (.blt .repr (.cons (.call "pressed_kinds" F_pressed_kinds_v1 (.cons (.var 3) (.cons (.var 5) .nil))) .nil)) (.blt .repr (.cons (.call "_law_pressed" F__law_pressed_v1 (.cons (.var 3) (.cons (.var 5) .nil))) .nil)))
  (.cons (.ret (.bool false))
  .nil)
  .nil)
  (.cons (.ite (.cmp .NotEq (.blt .repr (.cons (.call "slack_kinds" F_slack_kinds_v1 (.cons (.var 3) (.cons (.var 5) .nil))) .nil)) (.blt .repr (.cons (.call "_law_slack" F__law_slack_v1 (.cons (.var 3) (.cons (.var 5) .nil))) .nil)))
  (.cons (.ret (.bool false))
  .nil)
  .nil)
  (.cons (.ite (.cmp .NotEq (.blt .repr (.cons (.tup (.cons (.var 3) (.cons (.var 5) .nil))) .nil)) (.var 6))
  (.cons (.ret (.bool false))
  .nil)
  .nil)
  .nil)))))
  .nil))))
  (.cons (.ret (.bool true))
  .nil))
end K1

set_option Elab.async false
set_option linter.all false
set_option maxRecDepth 1000000
set_option maxHeartbeats 8000000
namespace K1
open PySem L2 Fs
def top (i : Nat) : Stmt := PySem.Challenge.pw_floatseats_k92_pressed_and_slack_kinds.main.body.getD i (.Pass ⟨0, 0, 0, 0⟩)

abbrev st__law_open : Stmt := top 37
def nN__law_open : List Str := ["_law_script", "_law_cells", "_law_k", "_law_cell"]
def nE__law_open : Em := ⟨[⟨104, 4, 104, 39⟩, ⟨104, 4, 104, 14⟩, ⟨104, 17, 104, 39⟩, ⟨104, 17, 104, 21⟩, ⟨104, 22, 104, 38⟩, ⟨104, 34, 104, 37⟩, ⟨104, 22, 104, 33⟩, ⟨104, 35, 104, 37⟩, ⟨105, 4, 106, 79⟩, ⟨105, 8, 105, 25⟩, ⟨105, 8, 105, 14⟩, ⟨105, 16, 105, 25⟩, ⟨105, 29, 105, 58⟩, ⟨105, 29, 105, 38⟩, ⟨105, 39, 105, 57⟩, ⟨105, 51, 105, 56⟩, ⟨105, 39, 105, 50⟩, ⟨105, 51, 105, 53⟩, ⟨105, 54, 105, 56⟩, ⟨106, 8, 106, 79⟩, ⟨106, 8, 106, 36⟩, ⟨106, 8, 106, 18⟩, ⟨106, 19, 106, 35⟩, ⟨106, 19, 106, 30⟩, ⟨106, 19, 106, 22⟩, ⟨106, 23, 106, 29⟩, ⟨106, 33, 106, 35⟩, ⟨106, 39, 106, 79⟩, ⟨106, 39, 106, 67⟩, ⟨106, 39, 106, 49⟩, ⟨106, 50, 106, 66⟩, ⟨106, 50, 106, 61⟩, ⟨106, 50, 106, 53⟩, ⟨106, 54, 106, 60⟩, ⟨106, 64, 106, 66⟩, ⟨106, 70, 106, 79⟩, ⟨107, 4, 107, 29⟩, ⟨107, 11, 107, 29⟩, ⟨107, 12, 107, 22⟩, ⟨107, 24, 107, 25⟩, ⟨107, 27, 107, 28⟩],
  [],
  []⟩
theorem em__law_open : (emSs nN__law_open ir_open nE__law_open).1 = defBody st__law_open := by rfl
theorem ok__law_open : okSs nN__law_open (defScope st__law_open) ir_open nE__law_open = true := by decide +kernel
theorem sc__law_open : FnScope nN__law_open ["_law_script"] (defScope st__law_open) := ⟨rfl, rfl, rfl, by decide +kernel, rfl, by decide +kernel, by decide +kernel⟩

abbrev st__law_spread : Stmt := top 36
def nN__law_spread : List Str := ["_law_cell", "_law_at", "_law_primes", "_law_mixed", "_law_one_here", "_law_rest", "_law_two", "_law_three"]
def nE__law_spread : Em := ⟨[⟨93, 4, 94, 24⟩, ⟨93, 7, 93, 28⟩, ⟨93, 7, 93, 16⟩, ⟨93, 20, 93, 28⟩, ⟨93, 20, 93, 22⟩, ⟨93, 26, 93, 28⟩, ⟨94, 8, 94, 24⟩, ⟨94, 15, 94, 24⟩, ⟨95, 4, 95, 102⟩, ⟨95, 4, 95, 15⟩, ⟨95, 18, 95, 102⟩, ⟨95, 19, 95, 29⟩, ⟨95, 31, 95, 41⟩, ⟨95, 43, 95, 53⟩, ⟨95, 55, 95, 65⟩, ⟨95, 67, 95, 77⟩, ⟨95, 79, 95, 89⟩, ⟨95, 91, 95, 101⟩, ⟨96, 4, 96, 104⟩, ⟨96, 4, 96, 15⟩, ⟨96, 18, 96, 104⟩, ⟨96, 18, 96, 29⟩, ⟨96, 32, 96, 104⟩, ⟨96, 33, 96, 43⟩, ⟨96, 45, 96, 55⟩, ⟨96, 57, 96, 67⟩, ⟨96, 69, 96, 79⟩, ⟨96, 81, 96, 91⟩, ⟨96, 93, 96, 103⟩, ⟨97, 4, 97, 92⟩, ⟨97, 4, 97, 14⟩, ⟨97, 17, 97, 92⟩, ⟨97, 17, 97, 86⟩, ⟨97, 17, 97, 68⟩, ⟨97, 17, 97, 44⟩, ⟨97, 17, 97, 31⟩, ⟨97, 17, 97, 20⟩, ⟨97, 21, 97, 30⟩, ⟨97, 34, 97, 44⟩, ⟨97, 48, 97, 67⟩, ⟨97, 48, 97, 59⟩, ⟨97, 48, 97, 49⟩, ⟨97, 52, 97, 59⟩, ⟨97, 62, 97, 67⟩, ⟨97, 71, 97, 86⟩, ⟨97, 71, 97, 78⟩, ⟨97, 81, 97, 86⟩, ⟨97, 89, 97, 92⟩, ⟨98, 4, 98, 73⟩, ⟨98, 4, 98, 17⟩, ⟨98, 20, 98, 73⟩, ⟨98, 20, 98, 40⟩, ⟨98, 20, 98, 23⟩, ⟨98, 24, 98, 39⟩, ⟨98, 24, 98, 34⟩, ⟨98, 38, 98, 39⟩, ⟨98, 43, 98, 73⟩, ⟨98, 43, 98, 54⟩, ⟨98, 55, 98, 72⟩, ⟨98, 55, 98, 67⟩, ⟨98, 55, 98, 58⟩, ⟨98, 59, 98, 66⟩, ⟨98, 70, 98, 72⟩, ⟨99, 4, 99, 42⟩, ⟨99, 4, 99, 13⟩, ⟨99, 16, 99, 42⟩, ⟨99, 16, 99, 38⟩, ⟨99, 16, 99, 30⟩, ⟨99, 16, 99, 19⟩, ⟨99, 20, 99, 29⟩, ⟨99, 33, 99, 38⟩, ⟨99, 41, 99, 42⟩, ⟨100, 4, 100, 105⟩, ⟨100, 4, 100, 12⟩, ⟨100, 15, 100, 105⟩, ⟨100, 15, 100, 68⟩, ⟨100, 15, 100, 18⟩, ⟨100, 19, 100, 67⟩, ⟨100, 20, 100, 61⟩, ⟨100, 20, 100, 49⟩, ⟨100, 20, 100, 33⟩, ⟨100, 37, 100, 48⟩, ⟨100, 37, 100, 44⟩, ⟨100, 47, 100, 48⟩, ⟨100, 52, 100, 61⟩, ⟨100, 66, 100, 67⟩, ⟨100, 71, 100, 105⟩, ⟨100, 71, 100, 82⟩, ⟨100, 83, 100, 104⟩, ⟨100, 83, 100, 99⟩, ⟨100, 83, 100, 86⟩, ⟨100, 87, 100, 98⟩, ⟨100, 87, 100, 94⟩, ⟨100, 97, 100, 98⟩, ⟨100, 102, 100, 104⟩, ⟨101, 4, 101, 112⟩, ⟨101, 4, 101, 14⟩, ⟨101, 17, 101, 112⟩, ⟨101, 17, 101, 75⟩, ⟨101, 17, 101, 20⟩, ⟨101, 21, 101, 74⟩, ⟨101, 22, 101, 68⟩, ⟨101, 22, 101, 58⟩, ⟨101, 22, 101, 30⟩, ⟨101, 33, 101, 58⟩, ⟨101, 33, 101, 51⟩, ⟨101, 33, 101, 36⟩, ⟨101, 37, 101, 50⟩, ⟨101, 54, 101, 58⟩, ⟨101, 61, 101, 68⟩, ⟨101, 73, 101, 74⟩, ⟨101, 78, 101, 112⟩, ⟨101, 78, 101, 89⟩, ⟨101, 90, 101, 111⟩, ⟨101, 90, 101, 106⟩, ⟨101, 90, 101, 93⟩, ⟨101, 94, 101, 105⟩, ⟨101, 94, 101, 101⟩, ⟨101, 104, 101, 105⟩, ⟨101, 109, 101, 111⟩, ⟨102, 4, 102, 76⟩, ⟨102, 11, 102, 76⟩, ⟨102, 11, 102, 63⟩, ⟨102, 12, 102, 49⟩, ⟨102, 12, 102, 38⟩, ⟨102, 12, 102, 25⟩, ⟨102, 28, 102, 38⟩, ⟨102, 41, 102, 49⟩, ⟨102, 53, 102, 63⟩, ⟨102, 66, 102, 76⟩],
  [],
  []⟩
theorem em__law_spread : (emSs nN__law_spread ir_spread nE__law_spread).1 = defBody st__law_spread := by rfl
theorem ok__law_spread : okSs nN__law_spread (defScope st__law_spread) ir_spread nE__law_spread = true := by decide +kernel
theorem sc__law_spread : FnScope nN__law_spread ["_law_cell", "_law_at"] (defScope st__law_spread) := ⟨rfl, rfl, rfl, by decide +kernel, rfl, by decide +kernel, by decide +kernel⟩

abbrev st__law_take : Stmt := top 38
def nN__law_take : List Str := ["_law_pen", "_law_many", "_law_at", "_law_cell", "_law_found"]
def nE__law_take : Em := ⟨[⟨109, 4, 117, 53⟩, ⟨109, 7, 109, 30⟩, ⟨109, 7, 109, 18⟩, ⟨109, 7, 109, 15⟩, ⟨109, 16, 109, 17⟩, ⟨109, 21, 109, 30⟩, ⟨110, 8, 110, 29⟩, ⟨110, 8, 110, 15⟩, ⟨110, 18, 110, 29⟩, ⟨110, 18, 110, 26⟩, ⟨110, 27, 110, 28⟩, ⟨111, 8, 111, 21⟩, ⟨111, 8, 111, 17⟩, ⟨111, 20, 111, 21⟩, ⟨112, 8, 115, 104⟩, ⟨112, 11, 112, 37⟩, ⟨112, 11, 112, 18⟩, ⟨112, 21, 112, 37⟩, ⟨112, 21, 112, 24⟩, ⟨112, 25, 112, 36⟩, ⟨112, 25, 112, 33⟩, ⟨112, 34, 112, 35⟩, ⟨113, 12, 113, 44⟩, ⟨113, 12, 113, 21⟩, ⟨113, 24, 113, 44⟩, ⟨113, 24, 113, 35⟩, ⟨113, 24, 113, 32⟩, ⟨113, 33, 113, 34⟩, ⟨113, 36, 113, 43⟩, ⟨114, 8, 115, 104⟩, ⟨114, 13, 114, 33⟩, ⟨114, 13, 114, 29⟩, ⟨114, 13, 114, 16⟩, ⟨114, 17, 114, 28⟩, ⟨114, 17, 114, 25⟩, ⟨114, 26, 114, 27⟩, ⟨114, 32, 114, 33⟩, ⟨115, 12, 115, 104⟩, ⟨115, 12, 115, 21⟩, ⟨115, 24, 115, 104⟩, ⟨115, 24, 115, 81⟩, ⟨115, 24, 115, 27⟩, ⟨115, 28, 115, 80⟩, ⟨115, 28, 115, 39⟩, ⟨115, 28, 115, 36⟩, ⟨115, 37, 115, 38⟩, ⟨115, 40, 115, 79⟩, ⟨115, 40, 115, 60⟩, ⟨115, 40, 115, 43⟩, ⟨115, 44, 115, 59⟩, ⟨115, 44, 115, 55⟩, ⟨115, 44, 115, 51⟩, ⟨115, 54, 115, 55⟩, ⟨115, 58, 115, 59⟩, ⟨115, 63, 115, 79⟩, ⟨115, 63, 115, 66⟩, ⟨115, 67, 115, 78⟩, ⟨115, 67, 115, 75⟩, ⟨115, 76, 115, 77⟩, ⟨115, 85, 115, 103⟩, ⟨115, 85, 115, 93⟩, ⟨115, 85, 115, 87⟩, ⟨115, 91, 115, 93⟩, ⟨115, 96, 115, 103⟩, ⟨116, 8, 116, 33⟩, ⟨116, 8, 116, 19⟩, ⟨116, 8, 116, 16⟩, ⟨116, 17, 116, 18⟩, ⟨116, 22, 116, 33⟩, ⟨116, 22, 116, 29⟩, ⟨116, 32, 116, 33⟩, ⟨117, 8, 117, 53⟩, ⟨117, 8, 117, 19⟩, ⟨117, 8, 117, 16⟩, ⟨117, 17, 117, 18⟩, ⟨117, 22, 117, 53⟩, ⟨117, 22, 117, 33⟩, ⟨117, 34, 117, 43⟩, ⟨117, 45, 117, 52⟩, ⟨118, 4, 118, 45⟩, ⟨118, 4, 118, 14⟩, ⟨118, 17, 118, 45⟩, ⟨118, 17, 118, 33⟩, ⟨118, 17, 118, 20⟩, ⟨118, 21, 118, 32⟩, ⟨118, 21, 118, 29⟩, ⟨118, 30, 118, 31⟩, ⟨118, 36, 118, 45⟩, ⟨119, 4, 119, 42⟩, ⟨119, 4, 119, 15⟩, ⟨119, 4, 119, 12⟩, ⟨119, 13, 119, 14⟩, ⟨119, 18, 119, 42⟩, ⟨119, 18, 119, 29⟩, ⟨119, 18, 119, 26⟩, ⟨119, 27, 119, 28⟩, ⟨119, 33, 119, 42⟩, ⟨120, 4, 120, 21⟩, ⟨120, 11, 120, 21⟩],
  [],
  []⟩
theorem em__law_take : (emSs nN__law_take ir_take nE__law_take).1 = defBody st__law_take := by rfl
theorem ok__law_take : okSs nN__law_take (defScope st__law_take) ir_take nE__law_take = true := by decide +kernel
theorem sc__law_take : FnScope nN__law_take ["_law_pen", "_law_many"] (defScope st__law_take) := ⟨rfl, rfl, rfl, by decide +kernel, rfl, by decide +kernel, by decide +kernel⟩

abbrev st__law_one : Stmt := top 40
def nN__law_one : List Str := ["_law_pen", "_law_some"]
def nE__law_one : Em := ⟨[⟨125, 4, 125, 57⟩, ⟨125, 11, 125, 57⟩, ⟨125, 11, 125, 20⟩, ⟨125, 21, 125, 56⟩, ⟨125, 21, 125, 30⟩, ⟨125, 31, 125, 39⟩, ⟨125, 41, 125, 55⟩, ⟨125, 41, 125, 44⟩, ⟨125, 45, 125, 54⟩],
  [],
  []⟩
theorem em__law_one : (emSs nN__law_one ir_one nE__law_one).1 = defBody st__law_one := by rfl
theorem ok__law_one : okSs nN__law_one (defScope st__law_one) ir_one nE__law_one = true := by decide +kernel
theorem sc__law_one : FnScope nN__law_one ["_law_pen", "_law_some"] (defScope st__law_one) := ⟨rfl, rfl, rfl, by decide +kernel, rfl, by decide +kernel, by decide +kernel⟩

abbrev st__law_drawn_bid : Stmt := top 42
def nN__law_drawn_bid : List Str := ["_law_pen", "_law_many", "_law_high", "_law_sort", "_law_same", "_law_only", "_law_kind"]
def nE__law_drawn_bid : Em := ⟨[⟨135, 4, 135, 87⟩, ⟨135, 4, 135, 24⟩, ⟨135, 4, 135, 13⟩, ⟨135, 15, 135, 24⟩, ⟨135, 27, 135, 87⟩, ⟨135, 28, 135, 50⟩, ⟨135, 28, 135, 37⟩, ⟨135, 38, 135, 46⟩, ⟨135, 48, 135, 49⟩, ⟨135, 52, 135, 86⟩, ⟨135, 52, 135, 61⟩, ⟨135, 62, 135, 70⟩, ⟨135, 72, 135, 85⟩, ⟨135, 72, 135, 81⟩, ⟨135, 84, 135, 85⟩, ⟨136, 4, 137, 95⟩, ⟨136, 7, 136, 21⟩, ⟨136, 7, 136, 16⟩, ⟨136, 20, 136, 21⟩, ⟨137, 8, 137, 95⟩, ⟨137, 15, 137, 95⟩, ⟨137, 15, 137, 20⟩, ⟨137, 21, 137, 94⟩, ⟨137, 22, 137, 59⟩, ⟨137, 22, 137, 30⟩, ⟨137, 31, 137, 39⟩, ⟨137, 41, 137, 58⟩, ⟨137, 42, 137, 46⟩, ⟨137, 48, 137, 57⟩, ⟨137, 64, 137, 73⟩, ⟨137, 77, 137, 93⟩, ⟨137, 77, 137, 82⟩, ⟨137, 83, 137, 92⟩, ⟨138, 4, 140, 103⟩, ⟨138, 7, 138, 21⟩, ⟨138, 7, 138, 16⟩, ⟨138, 20, 138, 21⟩, ⟨139, 8, 139, 50⟩, ⟨139, 8, 139, 17⟩, ⟨139, 20, 139, 50⟩, ⟨139, 20, 139, 29⟩, ⟨139, 30, 139, 38⟩, ⟨139, 40, 139, 49⟩, ⟨140, 8, 140, 103⟩, ⟨140, 15, 140, 103⟩, ⟨140, 15, 140, 20⟩, ⟨140, 21, 140, 102⟩, ⟨140, 22, 140, 67⟩, ⟨140, 35, 140, 57⟩, ⟨140, 35, 140, 44⟩, ⟨140, 48, 140, 57⟩, ⟨140, 22, 140, 31⟩, ⟨140, 63, 140, 67⟩, ⟨140, 72, 140, 81⟩, ⟨140, 85, 140, 101⟩, ⟨140, 85, 140, 90⟩, ⟨140, 91, 140, 100⟩, ⟨141, 4, 141, 152⟩, ⟨141, 11, 141, 152⟩, ⟨141, 11, 141, 16⟩, ⟨141, 17, 141, 151⟩, ⟨141, 18, 141, 116⟩, ⟨141, 18, 141, 26⟩, ⟨141, 27, 141, 35⟩, ⟨141, 37, 141, 115⟩, ⟨141, 38, 141, 42⟩, ⟨141, 44, 141, 78⟩, ⟨141, 44, 141, 53⟩, ⟨141, 54, 141, 62⟩, ⟨141, 64, 141, 77⟩, ⟨141, 64, 141, 73⟩, ⟨141, 76, 141, 77⟩, ⟨141, 80, 141, 114⟩, ⟨141, 80, 141, 89⟩, ⟨141, 90, 141, 98⟩, ⟨141, 100, 141, 113⟩, ⟨141, 100, 141, 109⟩, ⟨141, 112, 141, 113⟩, ⟨141, 121, 141, 130⟩, ⟨141, 134, 141, 150⟩, ⟨141, 134, 141, 139⟩, ⟨141, 140, 141, 149⟩],
  [{ kind := .function, names := [(".0", .local), ("_law_kind", .local), ("_law_one", .globalImplicit), ("_law_pen", .free), ("_law_same", .free)], isGenerator := false, isCoroutine := false, more := [] },
   { kind := .function, names := [(".0", .local), ("_law_kind", .local), ("_law_only", .free), ("_law_same", .free)], isGenerator := false, isCoroutine := false, more := [] },
   { kind := .function, names := [(".0", .local), ("_law_kind", .local), ("_law_one", .globalImplicit), ("_law_take", .globalImplicit), ("_law_high", .free), ("_law_pen", .free)], isGenerator := false, isCoroutine := false, more := [] }],
  []⟩
theorem em__law_drawn_bid : (emSs nN__law_drawn_bid ir__law_drawn_bid nE__law_drawn_bid).1 = defBody st__law_drawn_bid := by rfl
theorem ok__law_drawn_bid : okSs nN__law_drawn_bid (defScope st__law_drawn_bid) ir__law_drawn_bid nE__law_drawn_bid = true := by decide +kernel
theorem sc__law_drawn_bid : FnScope nN__law_drawn_bid ["_law_pen", "_law_many", "_law_high"] (defScope st__law_drawn_bid) := ⟨rfl, rfl, rfl, by decide +kernel, rfl, by decide +kernel, by decide +kernel⟩

abbrev st__law_anew : Stmt := top 39
def nN__law_anew : List Str := ["_law_pen"]
def nE__law_anew : Em := ⟨[⟨122, 4, 122, 19⟩, ⟨122, 4, 122, 15⟩, ⟨122, 4, 122, 12⟩, ⟨122, 13, 122, 14⟩, ⟨122, 18, 122, 19⟩, ⟨123, 4, 123, 19⟩, ⟨123, 11, 123, 19⟩],
  [],
  []⟩
theorem em__law_anew : (emSs nN__law_anew ir_anew nE__law_anew).1 = defBody st__law_anew := by rfl
theorem ok__law_anew : okSs nN__law_anew (defScope st__law_anew) ir_anew nE__law_anew = true := by decide +kernel
theorem sc__law_anew : FnScope nN__law_anew ["_law_pen"] (defScope st__law_anew) := ⟨rfl, rfl, rfl, by decide +kernel, rfl, by decide +kernel, by decide +kernel⟩

abbrev st__law_drawn_market : Stmt := top 41
def nN__law_drawn_market : List Str := ["_law_pen", "_law_most", "_law_many", "_law_high", "_law_seats", "_law_bids", "_law_step", "_law_kind"]
def nE__law_drawn_market : Em := ⟨[⟨127, 4, 127, 60⟩, ⟨127, 4, 127, 13⟩, ⟨127, 16, 127, 60⟩, ⟨127, 16, 127, 24⟩, ⟨127, 25, 127, 33⟩, ⟨127, 35, 127, 59⟩, ⟨127, 36, 127, 37⟩, ⟨127, 39, 127, 40⟩, ⟨127, 42, 127, 43⟩, ⟨127, 45, 127, 46⟩, ⟨127, 48, 127, 49⟩, ⟨127, 51, 127, 52⟩, ⟨127, 54, 127, 55⟩, ⟨127, 57, 127, 58⟩, ⟨128, 4, 128, 54⟩, ⟨128, 4, 128, 13⟩, ⟨128, 16, 128, 54⟩, ⟨128, 16, 128, 24⟩, ⟨128, 25, 128, 33⟩, ⟨128, 35, 128, 53⟩, ⟨128, 36, 128, 37⟩, ⟨128, 39, 128, 40⟩, ⟨128, 42, 128, 43⟩, ⟨128, 45, 128, 47⟩, ⟨128, 49, 128, 52⟩, ⟨129, 4, 129, 127⟩, ⟨129, 4, 129, 14⟩, ⟨129, 17, 129, 127⟩, ⟨129, 17, 129, 22⟩, ⟨129, 23, 129, 126⟩, ⟨129, 24, 129, 91⟩, ⟨129, 24, 129, 32⟩, ⟨129, 33, 129, 41⟩, ⟨129, 43, 129, 90⟩, ⟨129, 44, 129, 45⟩, ⟨129, 47, 129, 48⟩, ⟨129, 50, 129, 51⟩, ⟨129, 53, 129, 54⟩, ⟨129, 56, 129, 57⟩, ⟨129, 59, 129, 60⟩, ⟨129, 62, 129, 89⟩, ⟨129, 62, 129, 63⟩, ⟨129, 66, 129, 89⟩, ⟨129, 66, 129, 75⟩, ⟨129, 76, 129, 84⟩, ⟨129, 86, 129, 88⟩, ⟨129, 96, 129, 105⟩, ⟨129, 109, 129, 125⟩, ⟨129, 109, 129, 114⟩, ⟨129, 115, 129, 124⟩, ⟨130, 4, 130, 18⟩, ⟨130, 4, 130, 13⟩, ⟨130, 16, 130, 18⟩, ⟨131, 4, 132, 83⟩, ⟨131, 8, 131, 17⟩, ⟨131, 21, 131, 62⟩, ⟨131, 21, 131, 26⟩, ⟨131, 27, 131, 61⟩, ⟨131, 27, 131, 36⟩, ⟨131, 37, 131, 45⟩, ⟨131, 47, 131, 60⟩, ⟨131, 47, 131, 56⟩, ⟨131, 59, 131, 60⟩, ⟨132, 8, 132, 83⟩, ⟨132, 8, 132, 83⟩, ⟨132, 8, 132, 24⟩, ⟨132, 8, 132, 17⟩, ⟨132, 25, 132, 82⟩, ⟨132, 25, 132, 39⟩, ⟨132, 40, 132, 59⟩, ⟨132, 40, 132, 49⟩, ⟨132, 50, 132, 58⟩, ⟨132, 61, 132, 70⟩, ⟨132, 72, 132, 81⟩, ⟨133, 4, 133, 41⟩, ⟨133, 11, 133, 41⟩, ⟨133, 12, 133, 22⟩, ⟨133, 24, 133, 40⟩, ⟨133, 24, 133, 29⟩, ⟨133, 30, 133, 39⟩],
  [{ kind := .function, names := [(".0", .local), ("_law_kind", .local), ("_law_one", .globalImplicit), ("_law_take", .globalImplicit), ("_law_pen", .free)], isGenerator := false, isCoroutine := false, more := [] }],
  []⟩
theorem em__law_drawn_market : (emSs nN__law_drawn_market ir__law_drawn_market nE__law_drawn_market).1 = defBody st__law_drawn_market := by rfl
theorem ok__law_drawn_market : okSs nN__law_drawn_market (defScope st__law_drawn_market) ir__law_drawn_market nE__law_drawn_market = true := by decide +kernel
theorem sc__law_drawn_market : FnScope nN__law_drawn_market ["_law_pen", "_law_most"] (defScope st__law_drawn_market) := ⟨rfl, rfl, rfl, by decide +kernel, rfl, by decide +kernel, by decide +kernel⟩

abbrev st__law_drawn_prices : Stmt := top 51
def nN__law_drawn_prices : List Str := ["_law_pen", "_law_market", "_law_high", "_law_bid", "_law_worth", "_law_kind"]
def nE__law_drawn_prices : Em := ⟨[⟨184, 4, 184, 17⟩, ⟨184, 4, 184, 13⟩, ⟨184, 16, 184, 17⟩, ⟨185, 4, 186, 104⟩, ⟨185, 8, 185, 16⟩, ⟨185, 20, 185, 34⟩, ⟨185, 20, 185, 31⟩, ⟨185, 32, 185, 33⟩, ⟨186, 8, 186, 104⟩, ⟨186, 8, 186, 17⟩, ⟨186, 20, 186, 104⟩, ⟨186, 20, 186, 23⟩, ⟨186, 24, 186, 103⟩, ⟨186, 24, 186, 35⟩, ⟨186, 25, 186, 34⟩, ⟨186, 38, 186, 103⟩, ⟨186, 39, 186, 49⟩, ⟨186, 54, 186, 64⟩, ⟨186, 68, 186, 76⟩, ⟨186, 80, 186, 102⟩, ⟨186, 80, 186, 90⟩, ⟨186, 98, 186, 102⟩, ⟨187, 4, 187, 147⟩, ⟨187, 11, 187, 147⟩, ⟨187, 11, 187, 16⟩, ⟨187, 17, 187, 146⟩, ⟨187, 18, 187, 113⟩, ⟨187, 18, 187, 26⟩, ⟨187, 27, 187, 35⟩, ⟨187, 37, 187, 112⟩, ⟨187, 38, 187, 39⟩, ⟨187, 41, 187, 75⟩, ⟨187, 41, 187, 50⟩, ⟨187, 51, 187, 59⟩, ⟨187, 61, 187, 74⟩, ⟨187, 61, 187, 70⟩, ⟨187, 73, 187, 74⟩, ⟨187, 77, 187, 111⟩, ⟨187, 77, 187, 86⟩, ⟨187, 87, 187, 95⟩, ⟨187, 97, 187, 110⟩, ⟨187, 97, 187, 106⟩, ⟨187, 109, 187, 110⟩, ⟨187, 118, 187, 127⟩, ⟨187, 131, 187, 145⟩, ⟨187, 131, 187, 142⟩, ⟨187, 143, 187, 144⟩],
  [{ kind := .function, names := [(".0", .local), ("_law_worth", .local)], isGenerator := false, isCoroutine := false, more := [] },
   { kind := .function, names := [(".0", .local), ("_law_kind", .local), ("_law_one", .globalImplicit), ("_law_take", .globalImplicit), ("_law_high", .free), ("_law_pen", .free)], isGenerator := false, isCoroutine := false, more := [] }],
  []⟩
theorem em__law_drawn_prices : (emSs nN__law_drawn_prices ir__law_drawn_prices nE__law_drawn_prices).1 = defBody st__law_drawn_prices := by rfl
theorem ok__law_drawn_prices : okSs nN__law_drawn_prices (defScope st__law_drawn_prices) ir__law_drawn_prices nE__law_drawn_prices = true := by decide +kernel
theorem sc__law_drawn_prices : FnScope nN__law_drawn_prices ["_law_pen", "_law_market"] (defScope st__law_drawn_prices) := ⟨rfl, rfl, rfl, by decide +kernel, rfl, by decide +kernel, by decide +kernel⟩

abbrev st_is_integer : Stmt := top 1
def nN_is_integer : List Str := ["value"]
def nE_is_integer : Em := ⟨[⟨3, 4, 3, 67⟩, ⟨3, 11, 3, 67⟩, ⟨3, 11, 3, 33⟩, ⟨3, 11, 3, 21⟩, ⟨3, 22, 3, 27⟩, ⟨3, 29, 3, 32⟩, ⟨3, 39, 3, 66⟩, ⟨3, 43, 3, 66⟩, ⟨3, 43, 3, 53⟩, ⟨3, 54, 3, 59⟩, ⟨3, 61, 3, 65⟩],
  [],
  []⟩
theorem em_is_integer : (emSs nN_is_integer ir_is_integer nE_is_integer).1 = defBody st_is_integer := by rfl
theorem ok_is_integer : okSs nN_is_integer (defScope st_is_integer) ir_is_integer nE_is_integer = true := by decide +kernel
theorem sc_is_integer : FnScope nN_is_integer ["value"] (defScope st_is_integer) := ⟨rfl, rfl, rfl, by decide +kernel, rfl, by decide +kernel, by decide +kernel⟩

abbrev st_is_between : Stmt := top 2
def nN_is_between : List Str := ["value", "least", "most"]
def nE_is_between : Em := ⟨[⟨5, 4, 5, 55⟩, ⟨5, 11, 5, 55⟩, ⟨5, 11, 5, 28⟩, ⟨5, 11, 5, 21⟩, ⟨5, 22, 5, 27⟩, ⟨5, 33, 5, 55⟩, ⟨5, 33, 5, 38⟩, ⟨5, 42, 5, 47⟩, ⟨5, 51, 5, 55⟩],
  [],
  []⟩
theorem em_is_between : (emSs nN_is_between ir_is_between nE_is_between).1 = defBody st_is_between := by rfl
theorem ok_is_between : okSs nN_is_between (defScope st_is_between) ir_is_between nE_is_between = true := by decide +kernel
theorem sc_is_between : FnScope nN_is_between ["value", "least", "most"] (defScope st_is_between) := ⟨rfl, rfl, rfl, by decide +kernel, rfl, by decide +kernel, by decide +kernel⟩

abbrev st_are_market_seats : Stmt := top 14
def nN_are_market_seats : List Str := ["value", "number"]
def nE_are_market_seats : Em := ⟨[⟨21, 4, 22, 20⟩, ⟨21, 7, 21, 79⟩, ⟨21, 7, 21, 35⟩, ⟨21, 11, 21, 35⟩, ⟨21, 11, 21, 21⟩, ⟨21, 22, 21, 27⟩, ⟨21, 29, 21, 34⟩, ⟨21, 39, 21, 79⟩, ⟨21, 43, 21, 79⟩, ⟨21, 43, 21, 44⟩, ⟨21, 48, 21, 58⟩, ⟨21, 48, 21, 51⟩, ⟨21, 52, 21, 57⟩, ⟨21, 62, 21, 79⟩, ⟨22, 8, 22, 20⟩, ⟨22, 15, 22, 20⟩, ⟨23, 4, 23, 76⟩, ⟨23, 11, 23, 76⟩, ⟨23, 11, 23, 14⟩, ⟨23, 15, 23, 75⟩, ⟨23, 16, 23, 54⟩, ⟨23, 16, 23, 26⟩, ⟨23, 27, 23, 33⟩, ⟨23, 35, 23, 36⟩, ⟨23, 38, 23, 53⟩, ⟨23, 59, 23, 65⟩, ⟨23, 69, 23, 74⟩],
  [{ kind := .function, names := [(".0", .local), ("number", .local), ("is_between", .globalImplicit), ("MOST_KIND_SEATS", .globalImplicit)], isGenerator := false, isCoroutine := false, more := [] }],
  []⟩
theorem em_are_market_seats : (emSs nN_are_market_seats ir_are_market_seats nE_are_market_seats).1 = defBody st_are_market_seats := by rfl
theorem ok_are_market_seats : okSs nN_are_market_seats (defScope st_are_market_seats) ir_are_market_seats nE_are_market_seats = true := by decide +kernel
theorem sc_are_market_seats : FnScope nN_are_market_seats ["value"] (defScope st_are_market_seats) := ⟨rfl, rfl, rfl, by decide +kernel, rfl, by decide +kernel, by decide +kernel⟩

abbrev st_is_bid : Stmt := top 15
def nN_is_bid : List Str := ["value", "many", "worth"]
def nE_is_bid : Em := ⟨[⟨25, 4, 26, 20⟩, ⟨25, 7, 25, 57⟩, ⟨25, 7, 25, 35⟩, ⟨25, 11, 25, 35⟩, ⟨25, 11, 25, 21⟩, ⟨25, 22, 25, 27⟩, ⟨25, 29, 25, 34⟩, ⟨25, 39, 25, 57⟩, ⟨25, 39, 25, 49⟩, ⟨25, 39, 25, 42⟩, ⟨25, 43, 25, 48⟩, ⟨25, 53, 25, 57⟩, ⟨26, 8, 26, 20⟩, ⟨26, 15, 26, 20⟩, ⟨27, 4, 27, 90⟩, ⟨27, 11, 27, 90⟩, ⟨27, 11, 27, 14⟩, ⟨27, 15, 27, 89⟩, ⟨27, 16, 27, 69⟩, ⟨27, 16, 27, 29⟩, ⟨27, 16, 27, 21⟩, ⟨27, 25, 27, 29⟩, ⟨27, 33, 27, 69⟩, ⟨27, 33, 27, 43⟩, ⟨27, 44, 27, 49⟩, ⟨27, 51, 27, 52⟩, ⟨27, 54, 27, 68⟩, ⟨27, 74, 27, 79⟩, ⟨27, 83, 27, 88⟩],
  [{ kind := .function, names := [(".0", .local), ("worth", .local), ("is_between", .globalImplicit), ("MOST_BID_WORTH", .globalImplicit)], isGenerator := false, isCoroutine := false, more := [] }],
  []⟩
theorem em_is_bid : (emSs nN_is_bid ir_is_bid nE_is_bid).1 = defBody st_is_bid := by rfl
theorem ok_is_bid : okSs nN_is_bid (defScope st_is_bid) ir_is_bid nE_is_bid = true := by decide +kernel
theorem sc_is_bid : FnScope nN_is_bid ["value", "many"] (defScope st_is_bid) := ⟨rfl, rfl, rfl, by decide +kernel, rfl, by decide +kernel, by decide +kernel⟩

abbrev st_is_market : Stmt := top 16
def nN_is_market : List Str := ["value", "bid"]
def nE_is_market : Em := ⟨[⟨29, 4, 30, 20⟩, ⟨29, 7, 29, 90⟩, ⟨29, 7, 29, 35⟩, ⟨29, 11, 29, 35⟩, ⟨29, 11, 29, 21⟩, ⟨29, 22, 29, 27⟩, ⟨29, 29, 29, 34⟩, ⟨29, 39, 29, 54⟩, ⟨29, 39, 29, 49⟩, ⟨29, 39, 29, 42⟩, ⟨29, 43, 29, 48⟩, ⟨29, 53, 29, 54⟩, ⟨29, 59, 29, 89⟩, ⟨29, 63, 29, 89⟩, ⟨29, 63, 29, 79⟩, ⟨29, 80, 29, 88⟩, ⟨29, 80, 29, 85⟩, ⟨29, 86, 29, 87⟩, ⟨30, 8, 30, 20⟩, ⟨30, 15, 30, 20⟩, ⟨31, 4, 32, 20⟩, ⟨31, 7, 31, 67⟩, ⟨31, 7, 31, 38⟩, ⟨31, 11, 31, 38⟩, ⟨31, 11, 31, 21⟩, ⟨31, 22, 31, 30⟩, ⟨31, 22, 31, 27⟩, ⟨31, 28, 31, 29⟩, ⟨31, 32, 31, 37⟩, ⟨31, 42, 31, 67⟩, ⟨31, 42, 31, 55⟩, ⟨31, 42, 31, 45⟩, ⟨31, 46, 31, 54⟩, ⟨31, 46, 31, 51⟩, ⟨31, 52, 31, 53⟩, ⟨31, 58, 31, 67⟩, ⟨32, 8, 32, 20⟩, ⟨32, 15, 32, 20⟩, ⟨33, 4, 33, 64⟩, ⟨33, 11, 33, 64⟩, ⟨33, 11, 33, 14⟩, ⟨33, 15, 33, 63⟩, ⟨33, 16, 33, 42⟩, ⟨33, 16, 33, 22⟩, ⟨33, 23, 33, 26⟩, ⟨33, 28, 33, 41⟩, ⟨33, 28, 33, 31⟩, ⟨33, 32, 33, 40⟩, ⟨33, 32, 33, 37⟩, ⟨33, 38, 33, 39⟩, ⟨33, 47, 33, 50⟩, ⟨33, 54, 33, 62⟩, ⟨33, 54, 33, 59⟩, ⟨33, 60, 33, 61⟩],
  [{ kind := .function, names := [(".0", .local), ("bid", .local), ("is_bid", .globalImplicit), ("len", .globalImplicit), ("value", .free)], isGenerator := false, isCoroutine := false, more := [] }],
  []⟩
theorem em_is_market : (emSs nN_is_market ir_is_market nE_is_market).1 = defBody st_is_market := by rfl
theorem ok_is_market : okSs nN_is_market (defScope st_is_market) ir_is_market nE_is_market = true := by decide +kernel
theorem sc_is_market : FnScope nN_is_market ["value"] (defScope st_is_market) := ⟨rfl, rfl, rfl, by decide +kernel, rfl, by decide +kernel, by decide +kernel⟩

abbrev st_require_market : Stmt := top 20
def nN_require_market : List Str := ["market"]
def nE_require_market : Em := ⟨[⟨47, 4, 48, 43⟩, ⟨47, 7, 47, 28⟩, ⟨47, 11, 47, 28⟩, ⟨47, 11, 47, 20⟩, ⟨47, 21, 47, 27⟩],
  [],
  [nav [0, 0, 0] (defBody st_require_market)]⟩
theorem em_require_market : (emSs nN_require_market ir_require_market nE_require_market).1 = defBody st_require_market := by rfl
theorem ok_require_market : okSs nN_require_market (defScope st_require_market) ir_require_market nE_require_market = true := by decide +kernel
theorem sc_require_market : FnScope nN_require_market ["market"] (defScope st_require_market) := ⟨rfl, rfl, rfl, by decide +kernel, rfl, by decide +kernel, by decide +kernel⟩

abbrev st_is_prices_of : Stmt := top 17
def nN_is_prices_of : List Str := ["market", "value", "price"]
def nE_is_prices_of : Em := ⟨[⟨35, 4, 36, 20⟩, ⟨35, 7, 35, 67⟩, ⟨35, 7, 35, 35⟩, ⟨35, 11, 35, 35⟩, ⟨35, 11, 35, 21⟩, ⟨35, 22, 35, 27⟩, ⟨35, 29, 35, 34⟩, ⟨35, 39, 35, 67⟩, ⟨35, 39, 35, 49⟩, ⟨35, 39, 35, 42⟩, ⟨35, 43, 35, 48⟩, ⟨35, 53, 35, 67⟩, ⟨35, 53, 35, 56⟩, ⟨35, 57, 35, 66⟩, ⟨35, 57, 35, 63⟩, ⟨35, 64, 35, 65⟩, ⟨36, 8, 36, 20⟩, ⟨36, 15, 36, 20⟩, ⟨37, 4, 37, 69⟩, ⟨37, 11, 37, 69⟩, ⟨37, 11, 37, 14⟩, ⟨37, 15, 37, 68⟩, ⟨37, 16, 37, 48⟩, ⟨37, 16, 37, 26⟩, ⟨37, 27, 37, 32⟩, ⟨37, 34, 37, 35⟩, ⟨37, 37, 37, 47⟩, ⟨37, 53, 37, 58⟩, ⟨37, 62, 37, 67⟩],
  [{ kind := .function, names := [(".0", .local), ("price", .local), ("is_between", .globalImplicit), ("MOST_PRICE", .globalImplicit)], isGenerator := false, isCoroutine := false, more := [] }],
  []⟩
theorem em_is_prices_of : (emSs nN_is_prices_of ir_is_prices_of nE_is_prices_of).1 = defBody st_is_prices_of := by rfl
theorem ok_is_prices_of : okSs nN_is_prices_of (defScope st_is_prices_of) ir_is_prices_of nE_is_prices_of = true := by decide +kernel
theorem sc_is_prices_of : FnScope nN_is_prices_of ["market", "value"] (defScope st_is_prices_of) := ⟨rfl, rfl, rfl, by decide +kernel, rfl, by decide +kernel, by decide +kernel⟩

abbrev st_require_prices : Stmt := top 21
def nN_require_prices : List Str := ["market", "prices"]
def nE_require_prices : Em := ⟨[⟨50, 4, 51, 56⟩, ⟨50, 7, 50, 39⟩, ⟨50, 11, 50, 39⟩, ⟨50, 11, 50, 23⟩, ⟨50, 24, 50, 30⟩, ⟨50, 32, 50, 38⟩],
  [],
  [nav [0, 0, 0] (defBody st_require_prices)]⟩
theorem em_require_prices : (emSs nN_require_prices ir_require_prices nE_require_prices).1 = defBody st_require_prices := by rfl
theorem ok_require_prices : okSs nN_require_prices (defScope st_require_prices) ir_require_prices nE_require_prices = true := by decide +kernel
theorem sc_require_prices : FnScope nN_require_prices ["market", "prices"] (defScope st_require_prices) := ⟨rfl, rfl, rfl, by decide +kernel, rfl, by decide +kernel, by decide +kernel⟩

abbrev st_find_gain : Stmt := top 18
def nN_find_gain : List Str := ["bid", "prices", "worth", "price"]
def nE_find_gain : Em := ⟨[⟨39, 4, 39, 95⟩, ⟨39, 11, 39, 95⟩, ⟨39, 11, 39, 14⟩, ⟨39, 15, 39, 94⟩, ⟨39, 15, 39, 88⟩, ⟨39, 16, 39, 29⟩, ⟨39, 16, 39, 21⟩, ⟨39, 24, 39, 29⟩, ⟨39, 34, 39, 46⟩, ⟨39, 34, 39, 39⟩, ⟨39, 41, 39, 46⟩, ⟨39, 50, 39, 66⟩, ⟨39, 50, 39, 53⟩, ⟨39, 54, 39, 57⟩, ⟨39, 59, 39, 65⟩, ⟨39, 70, 39, 87⟩, ⟨39, 70, 39, 75⟩, ⟨39, 83, 39, 87⟩, ⟨39, 91, 39, 94⟩, ⟨39, 92, 39, 93⟩],
  [{ kind := .function, names := [(".0", .local), ("worth", .local), ("price", .local)], isGenerator := false, isCoroutine := false, more := [] }],
  []⟩
theorem em_find_gain : (emSs nN_find_gain ir_find_gain nE_find_gain).1 = defBody st_find_gain := by rfl
theorem ok_find_gain : okSs nN_find_gain (defScope st_find_gain) ir_find_gain nE_find_gain = true := by decide +kernel
theorem sc_find_gain : FnScope nN_find_gain ["bid", "prices"] (defScope st_find_gain) := ⟨rfl, rfl, rfl, by decide +kernel, rfl, by decide +kernel, by decide +kernel⟩

abbrev st_find_best : Stmt := top 19
def nN_find_best : List Str := ["bid", "prices", "gain", "found", "kind", "worth"]
def nE_find_best : Em := ⟨[⟨41, 4, 41, 46⟩, ⟨41, 4, 41, 15⟩, ⟨41, 4, 41, 8⟩, ⟨41, 10, 41, 15⟩, ⟨41, 18, 41, 46⟩, ⟨41, 19, 41, 41⟩, ⟨41, 19, 41, 28⟩, ⟨41, 29, 41, 32⟩, ⟨41, 34, 41, 40⟩, ⟨41, 43, 41, 45⟩, ⟨42, 4, 44, 30⟩, ⟨42, 8, 42, 19⟩, ⟨42, 8, 42, 12⟩, ⟨42, 14, 42, 19⟩, ⟨42, 23, 42, 37⟩, ⟨42, 23, 42, 32⟩, ⟨42, 33, 42, 36⟩, ⟨43, 8, 44, 30⟩, ⟨43, 11, 43, 61⟩, ⟨43, 11, 43, 28⟩, ⟨43, 11, 43, 16⟩, ⟨43, 24, 43, 28⟩, ⟨43, 33, 43, 61⟩, ⟨43, 33, 43, 53⟩, ⟨43, 33, 43, 38⟩, ⟨43, 41, 43, 53⟩, ⟨43, 41, 43, 47⟩, ⟨43, 48, 43, 52⟩, ⟨43, 57, 43, 61⟩, ⟨44, 12, 44, 30⟩, ⟨44, 12, 44, 30⟩, ⟨44, 12, 44, 24⟩, ⟨44, 12, 44, 17⟩, ⟨44, 25, 44, 29⟩, ⟨45, 4, 45, 16⟩, ⟨45, 11, 45, 16⟩],
  [],
  []⟩
theorem em_find_best : (emSs nN_find_best ir_find_best nE_find_best).1 = defBody st_find_best := by rfl
theorem ok_find_best : okSs nN_find_best (defScope st_find_best) ir_find_best nE_find_best = true := by decide +kernel
theorem sc_find_best : FnScope nN_find_best ["bid", "prices"] (defScope st_find_best) := ⟨rfl, rfl, rfl, by decide +kernel, rfl, by decide +kernel, by decide +kernel⟩

abbrev st_find_wishes : Stmt := top 24
def nN_find_wishes : List Str := ["market", "prices", "bid"]
def nE_find_wishes : Em := ⟨[⟨59, 4, 59, 86⟩, ⟨59, 11, 59, 86⟩, ⟨59, 12, 59, 64⟩, ⟨59, 13, 59, 39⟩, ⟨59, 13, 59, 35⟩, ⟨59, 13, 59, 22⟩, ⟨59, 23, 59, 26⟩, ⟨59, 28, 59, 34⟩, ⟨59, 38, 59, 39⟩, ⟨59, 41, 59, 63⟩, ⟨59, 41, 59, 50⟩, ⟨59, 51, 59, 54⟩, ⟨59, 56, 59, 62⟩, ⟨59, 69, 59, 72⟩, ⟨59, 76, 59, 85⟩, ⟨59, 76, 59, 82⟩, ⟨59, 83, 59, 84⟩],
  [{ kind := .function, names := [(".0", .local), ("bid", .local), ("find_gain", .globalImplicit), ("find_best", .globalImplicit), ("prices", .free)], isGenerator := false, isCoroutine := false, more := [] }],
  []⟩
theorem em_find_wishes : (emSs nN_find_wishes ir_find_wishes nE_find_wishes).1 = defBody st_find_wishes := by rfl
theorem ok_find_wishes : okSs nN_find_wishes (defScope st_find_wishes) ir_find_wishes nE_find_wishes = true := by decide +kernel
theorem sc_find_wishes : FnScope nN_find_wishes ["market", "prices"] (defScope st_find_wishes) := ⟨rfl, rfl, rfl, by decide +kernel, rfl, by decide +kernel, by decide +kernel⟩

abbrev st_find_inmost : Stmt := top 32
def nN_find_inmost : List Str := ["rows", "greatest", "number", "kinds"]
def nE_find_inmost : Em := ⟨[⟨79, 4, 79, 60⟩, ⟨79, 4, 79, 12⟩, ⟨79, 15, 79, 60⟩, ⟨79, 15, 79, 18⟩, ⟨79, 19, 79, 59⟩, ⟨79, 19, 79, 53⟩, ⟨79, 20, 79, 26⟩, ⟨79, 31, 79, 44⟩, ⟨79, 31, 79, 37⟩, ⟨79, 39, 79, 44⟩, ⟨79, 48, 79, 52⟩, ⟨79, 56, 79, 59⟩, ⟨79, 57, 79, 58⟩, ⟨80, 4, 81, 19⟩, ⟨80, 7, 80, 20⟩, ⟨80, 7, 80, 15⟩, ⟨80, 19, 80, 20⟩, ⟨81, 8, 81, 19⟩, ⟨81, 15, 81, 19⟩, ⟨82, 4, 82, 88⟩, ⟨82, 11, 82, 88⟩, ⟨82, 11, 82, 85⟩, ⟨82, 11, 82, 14⟩, ⟨82, 15, 82, 84⟩, ⟨82, 16, 82, 35⟩, ⟨82, 17, 82, 27⟩, ⟨82, 17, 82, 20⟩, ⟨82, 21, 82, 26⟩, ⟨82, 29, 82, 34⟩, ⟨82, 40, 82, 53⟩, ⟨82, 40, 82, 46⟩, ⟨82, 48, 82, 53⟩, ⟨82, 57, 82, 61⟩, ⟨82, 65, 82, 83⟩, ⟨82, 65, 82, 71⟩, ⟨82, 75, 82, 83⟩, ⟨82, 86, 82, 87⟩],
  [{ kind := .function, names := [(".0", .local), ("number", .local), ("kinds", .local)], isGenerator := false, isCoroutine := false, more := [] },
   { kind := .function, names := [(".0", .local), ("number", .local), ("kinds", .local), ("len", .globalImplicit), ("greatest", .free)], isGenerator := false, isCoroutine := false, more := [] }],
  []⟩
theorem em_find_inmost : (emSs nN_find_inmost ir_find_inmost nE_find_inmost).1 = defBody st_find_inmost := by rfl
theorem ok_find_inmost : okSs nN_find_inmost (defScope st_find_inmost) ir_find_inmost nE_find_inmost = true := by decide +kernel
theorem sc_find_inmost : FnScope nN_find_inmost ["rows"] (defScope st_find_inmost) := ⟨rfl, rfl, rfl, by decide +kernel, rfl, by decide +kernel, by decide +kernel⟩

abbrev st_count_seats : Stmt := top 25
def nN_count_seats : List Str := ["market", "kinds", "kind"]
def nE_count_seats : Em := ⟨[⟨61, 4, 61, 51⟩, ⟨61, 11, 61, 51⟩, ⟨61, 11, 61, 14⟩, ⟨61, 15, 61, 50⟩, ⟨61, 16, 61, 31⟩, ⟨61, 16, 61, 25⟩, ⟨61, 16, 61, 22⟩, ⟨61, 23, 61, 24⟩, ⟨61, 26, 61, 30⟩, ⟨61, 36, 61, 40⟩, ⟨61, 44, 61, 49⟩],
  [{ kind := .function, names := [(".0", .local), ("kind", .local), ("market", .free)], isGenerator := false, isCoroutine := false, more := [] }],
  []⟩
theorem em_count_seats : (emSs nN_count_seats ir_count_seats nE_count_seats).1 = defBody st_count_seats := by rfl
theorem ok_count_seats : okSs nN_count_seats (defScope st_count_seats) ir_count_seats nE_count_seats = true := by decide +kernel
theorem sc_count_seats : FnScope nN_count_seats ["market", "kinds"] (defScope st_count_seats) := ⟨rfl, rfl, rfl, by decide +kernel, rfl, by decide +kernel, by decide +kernel⟩

abbrev st_excess_by : Stmt := top 26
def nN_excess_by : List Str := ["market", "wishes", "kinds", "rows", "is_gaining", "best", "kind"]
def nE_excess_by : Em := ⟨[⟨63, 4, 63, 62⟩, ⟨63, 4, 63, 8⟩, ⟨63, 11, 63, 62⟩, ⟨63, 12, 63, 16⟩, ⟨63, 21, 63, 37⟩, ⟨63, 21, 63, 31⟩, ⟨63, 33, 63, 37⟩, ⟨63, 41, 63, 47⟩, ⟨63, 51, 63, 61⟩, ⟨64, 4, 64, 109⟩, ⟨64, 11, 64, 109⟩, ⟨64, 11, 64, 80⟩, ⟨64, 11, 64, 14⟩, ⟨64, 15, 64, 79⟩, ⟨64, 16, 64, 20⟩, ⟨64, 25, 64, 29⟩, ⟨64, 33, 64, 37⟩, ⟨64, 41, 64, 78⟩, ⟨64, 41, 64, 44⟩, ⟨64, 45, 64, 77⟩, ⟨64, 46, 64, 59⟩, ⟨64, 46, 64, 50⟩, ⟨64, 54, 64, 59⟩, ⟨64, 64, 64, 68⟩, ⟨64, 72, 64, 76⟩, ⟨64, 83, 64, 109⟩, ⟨64, 83, 64, 94⟩, ⟨64, 95, 64, 101⟩, ⟨64, 103, 64, 108⟩],
  [{ kind := .function, names := [(".0", .local), ("is_gaining", .local), ("best", .local)], isGenerator := false, isCoroutine := false, more := [] },
   { kind := .function, names := [(".0", .local), ("best", .local), ("all", .globalImplicit), ("kinds", .free)], isGenerator := false, isCoroutine := false, more := [] },
   { kind := .function, names := [(".0", .local), ("kind", .local), ("kinds", .free)], isGenerator := false, isCoroutine := false, more := [] }],
  []⟩
theorem em_excess_by : (emSs nN_excess_by ir_excess_by nE_excess_by).1 = defBody st_excess_by := by rfl
theorem ok_excess_by : okSs nN_excess_by (defScope st_excess_by) ir_excess_by nE_excess_by = true := by decide +kernel
theorem sc_excess_by : FnScope nN_excess_by ["market", "wishes", "kinds"] (defScope st_excess_by) := ⟨rfl, rfl, rfl, by decide +kernel, rfl, by decide +kernel, by decide +kernel⟩

abbrev st_all_kind_sets : Stmt := top 23
def nN_all_kind_sets : List Str := ["many", "found", "kind", "own"]
def nE_all_kind_sets : Em := ⟨[⟨54, 4, 54, 16⟩, ⟨54, 4, 54, 9⟩, ⟨54, 12, 54, 16⟩, ⟨54, 13, 54, 15⟩, ⟨55, 4, 56, 53⟩, ⟨55, 8, 55, 12⟩, ⟨55, 16, 55, 27⟩, ⟨55, 16, 55, 21⟩, ⟨55, 22, 55, 26⟩, ⟨56, 8, 56, 53⟩, ⟨56, 8, 56, 53⟩, ⟨56, 8, 56, 20⟩, ⟨56, 8, 56, 13⟩, ⟨56, 21, 56, 52⟩, ⟨56, 22, 56, 34⟩, ⟨56, 23, 56, 27⟩, ⟨56, 24, 56, 27⟩, ⟨56, 29, 56, 33⟩, ⟨56, 39, 56, 42⟩, ⟨56, 46, 56, 51⟩, ⟨57, 4, 57, 20⟩, ⟨57, 11, 57, 20⟩, ⟨57, 17, 57, 19⟩, ⟨57, 11, 57, 16⟩, ⟨57, 17, 57, 18⟩],
  [{ kind := .function, names := [(".0", .local), ("own", .local), ("kind", .free)], isGenerator := false, isCoroutine := false, more := [] }],
  []⟩
theorem em_all_kind_sets : (emSs nN_all_kind_sets ir_all_kind_sets nE_all_kind_sets).1 = defBody st_all_kind_sets := by rfl
theorem ok_all_kind_sets : okSs nN_all_kind_sets (defScope st_all_kind_sets) ir_all_kind_sets nE_all_kind_sets = true := by decide +kernel
theorem sc_all_kind_sets : FnScope nN_all_kind_sets ["many"] (defScope st_all_kind_sets) := ⟨rfl, rfl, rfl, by decide +kernel, rfl, by decide +kernel, by decide +kernel⟩

abbrev st_find_pressed : Stmt := top 30
def nN_find_pressed : List Str := ["market", "prices", "wishes", "kinds"]
def nE_find_pressed : Em := ⟨[⟨73, 4, 73, 40⟩, ⟨73, 4, 73, 10⟩, ⟨73, 13, 73, 40⟩, ⟨73, 13, 73, 24⟩, ⟨73, 25, 73, 31⟩, ⟨73, 33, 73, 39⟩, ⟨74, 4, 74, 107⟩, ⟨74, 11, 74, 107⟩, ⟨74, 11, 74, 22⟩, ⟨74, 23, 74, 106⟩, ⟨74, 24, 74, 65⟩, ⟨74, 25, 74, 57⟩, ⟨74, 25, 74, 34⟩, ⟨74, 35, 74, 41⟩, ⟨74, 43, 74, 49⟩, ⟨74, 51, 74, 56⟩, ⟨74, 59, 74, 64⟩, ⟨74, 70, 74, 75⟩, ⟨74, 79, 74, 105⟩, ⟨74, 79, 74, 92⟩, ⟨74, 93, 74, 104⟩, ⟨74, 93, 74, 96⟩, ⟨74, 97, 74, 103⟩],
  [{ kind := .function, names := [(".0", .local), ("kinds", .local), ("excess_by", .globalImplicit), ("market", .free), ("wishes", .free)], isGenerator := false, isCoroutine := false, more := [] }],
  []⟩
theorem em_find_pressed : (emSs nN_find_pressed ir_find_pressed_v1 nE_find_pressed).1 = defBody st_find_pressed := by rfl
theorem ok_find_pressed : okSs nN_find_pressed (defScope st_find_pressed) ir_find_pressed_v1 nE_find_pressed = true := by decide +kernel
theorem sc_find_pressed : FnScope nN_find_pressed ["market", "prices"] (defScope st_find_pressed) := ⟨rfl, rfl, rfl, by decide +kernel, rfl, by decide +kernel, by decide +kernel⟩

abbrev st_pressed_kinds : Stmt := top 33
def nN_pressed_kinds : List Str := ["market", "prices"]
def nE_pressed_kinds : Em := ⟨[⟨84, 4, 84, 26⟩, ⟨84, 4, 84, 26⟩, ⟨84, 4, 84, 18⟩, ⟨84, 19, 84, 25⟩, ⟨85, 4, 85, 34⟩, ⟨85, 4, 85, 34⟩, ⟨85, 4, 85, 18⟩, ⟨85, 19, 85, 25⟩, ⟨85, 27, 85, 33⟩, ⟨86, 4, 86, 39⟩, ⟨86, 11, 86, 39⟩, ⟨86, 11, 86, 23⟩, ⟨86, 24, 86, 30⟩, ⟨86, 32, 86, 38⟩],
  [],
  []⟩
theorem em_pressed_kinds : (emSs nN_pressed_kinds ir_pressed_kinds_v1 nE_pressed_kinds).1 = defBody st_pressed_kinds := by rfl
theorem ok_pressed_kinds : okSs nN_pressed_kinds (defScope st_pressed_kinds) ir_pressed_kinds_v1 nE_pressed_kinds = true := by decide +kernel
theorem sc_pressed_kinds : FnScope nN_pressed_kinds ["market", "prices"] (defScope st_pressed_kinds) := ⟨rfl, rfl, rfl, by decide +kernel, rfl, by decide +kernel, by decide +kernel⟩

abbrev st__law_gain : Stmt := top 43
def nN__law_gain : List Str := ["_law_bid", "_law_prices", "_law_worth", "_law_price"]
def nE__law_gain : Em := ⟨[⟨143, 4, 143, 130⟩, ⟨143, 11, 143, 130⟩, ⟨143, 11, 143, 14⟩, ⟨143, 15, 143, 129⟩, ⟨143, 15, 143, 18⟩, ⟨143, 16, 143, 17⟩, ⟨143, 21, 143, 129⟩, ⟨143, 22, 143, 45⟩, ⟨143, 22, 143, 32⟩, ⟨143, 35, 143, 45⟩, ⟨143, 50, 143, 72⟩, ⟨143, 50, 143, 60⟩, ⟨143, 62, 143, 72⟩, ⟨143, 76, 143, 102⟩, ⟨143, 76, 143, 79⟩, ⟨143, 80, 143, 88⟩, ⟨143, 90, 143, 101⟩, ⟨143, 106, 143, 128⟩, ⟨143, 106, 143, 116⟩, ⟨143, 124, 143, 128⟩],
  [{ kind := .function, names := [(".0", .local), ("_law_worth", .local), ("_law_price", .local)], isGenerator := false, isCoroutine := false, more := [] }],
  []⟩
theorem em__law_gain : (emSs nN__law_gain ir__law_gain nE__law_gain).1 = defBody st__law_gain := by rfl
theorem ok__law_gain : okSs nN__law_gain (defScope st__law_gain) ir__law_gain nE__law_gain = true := by decide +kernel
theorem sc__law_gain : FnScope nN__law_gain ["_law_bid", "_law_prices"] (defScope st__law_gain) := ⟨rfl, rfl, rfl, by decide +kernel, rfl, by decide +kernel, by decide +kernel⟩

abbrev st__law_best : Stmt := top 44
def nN__law_best : List Str := ["_law_bid", "_law_prices", "_law_gain_here", "_law_found", "_law_kind", "_law_worth"]
def nE__law_best : Em := ⟨[⟨145, 4, 145, 71⟩, ⟨145, 4, 145, 30⟩, ⟨145, 4, 145, 18⟩, ⟨145, 20, 145, 30⟩, ⟨145, 33, 145, 71⟩, ⟨145, 34, 145, 66⟩, ⟨145, 34, 145, 43⟩, ⟨145, 44, 145, 52⟩, ⟨145, 54, 145, 65⟩, ⟨145, 68, 145, 70⟩, ⟨146, 4, 148, 40⟩, ⟨146, 8, 146, 29⟩, ⟨146, 8, 146, 17⟩, ⟨146, 19, 146, 29⟩, ⟨146, 33, 146, 52⟩, ⟨146, 33, 146, 42⟩, ⟨146, 43, 146, 51⟩, ⟨147, 8, 148, 40⟩, ⟨147, 11, 147, 91⟩, ⟨147, 11, 147, 33⟩, ⟨147, 11, 147, 21⟩, ⟨147, 29, 147, 33⟩, ⟨147, 38, 147, 91⟩, ⟨147, 38, 147, 73⟩, ⟨147, 38, 147, 48⟩, ⟨147, 51, 147, 73⟩, ⟨147, 51, 147, 62⟩, ⟨147, 63, 147, 72⟩, ⟨147, 77, 147, 91⟩, ⟨148, 12, 148, 40⟩, ⟨148, 12, 148, 40⟩, ⟨148, 12, 148, 29⟩, ⟨148, 12, 148, 22⟩, ⟨148, 30, 148, 39⟩, ⟨149, 4, 149, 21⟩, ⟨149, 11, 149, 21⟩],
  [],
  []⟩
theorem em__law_best : (emSs nN__law_best ir__law_best nE__law_best).1 = defBody st__law_best := by rfl
theorem ok__law_best : okSs nN__law_best (defScope st__law_best) ir__law_best nE__law_best = true := by decide +kernel
theorem sc__law_best : FnScope nN__law_best ["_law_bid", "_law_prices"] (defScope st__law_best) := ⟨rfl, rfl, rfl, by decide +kernel, rfl, by decide +kernel, by decide +kernel⟩

abbrev st__law_bests : Stmt := top 52
def nN__law_bests : List Str := ["_law_market", "_law_prices", "_law_bid"]
def nE__law_bests : Em := ⟨[⟨189, 4, 189, 112⟩, ⟨189, 11, 189, 112⟩, ⟨189, 12, 189, 80⟩, ⟨189, 13, 189, 45⟩, ⟨189, 13, 189, 22⟩, ⟨189, 23, 189, 31⟩, ⟨189, 33, 189, 44⟩, ⟨189, 47, 189, 79⟩, ⟨189, 47, 189, 56⟩, ⟨189, 57, 189, 65⟩, ⟨189, 67, 189, 78⟩, ⟨189, 85, 189, 93⟩, ⟨189, 97, 189, 111⟩, ⟨189, 97, 189, 108⟩, ⟨189, 109, 189, 110⟩],
  [{ kind := .function, names := [(".0", .local), ("_law_bid", .local), ("_law_gain", .globalImplicit), ("_law_best", .globalImplicit), ("_law_prices", .free)], isGenerator := false, isCoroutine := false, more := [] }],
  []⟩
theorem em__law_bests : (emSs nN__law_bests ir__law_bests nE__law_bests).1 = defBody st__law_bests := by rfl
theorem ok__law_bests : okSs nN__law_bests (defScope st__law_bests) ir__law_bests nE__law_bests = true := by decide +kernel
theorem sc__law_bests : FnScope nN__law_bests ["_law_market", "_law_prices"] (defScope st__law_bests) := ⟨rfl, rfl, rfl, by decide +kernel, rfl, by decide +kernel, by decide +kernel⟩

abbrev st__law_inmost : Stmt := top 48
def nN__law_inmost : List Str := ["_law_rows", "_law_top", "_law_found", "_law_within", "_law_number", "_law_kinds", "_law_kind"]
def nE__law_inmost : Em := ⟨[⟨168, 4, 168, 80⟩, ⟨168, 4, 168, 12⟩, ⟨168, 15, 168, 80⟩, ⟨168, 15, 168, 18⟩, ⟨168, 19, 168, 79⟩, ⟨168, 19, 168, 22⟩, ⟨168, 20, 168, 21⟩, ⟨168, 25, 168, 79⟩, ⟨168, 26, 168, 37⟩, ⟨168, 42, 168, 65⟩, ⟨168, 42, 168, 53⟩, ⟨168, 55, 168, 65⟩, ⟨168, 69, 168, 78⟩, ⟨169, 4, 170, 19⟩, ⟨169, 7, 169, 20⟩, ⟨169, 7, 169, 15⟩, ⟨169, 19, 169, 20⟩, ⟨170, 8, 170, 19⟩, ⟨170, 15, 170, 19⟩, ⟨171, 4, 171, 97⟩, ⟨171, 4, 171, 14⟩, ⟨171, 17, 171, 97⟩, ⟨171, 18, 171, 28⟩, ⟨171, 33, 171, 56⟩, ⟨171, 33, 171, 44⟩, ⟨171, 46, 171, 56⟩, ⟨171, 60, 171, 69⟩, ⟨171, 73, 171, 96⟩, ⟨171, 73, 171, 84⟩, ⟨171, 88, 171, 96⟩, ⟨172, 4, 172, 142⟩, ⟨172, 4, 172, 15⟩, ⟨172, 18, 172, 142⟩, ⟨172, 19, 172, 28⟩, ⟨172, 33, 172, 42⟩, ⟨172, 46, 172, 59⟩, ⟨172, 46, 172, 56⟩, ⟨172, 57, 172, 58⟩, ⟨172, 63, 172, 141⟩, ⟨172, 63, 172, 135⟩, ⟨172, 64, 172, 74⟩, ⟨172, 79, 172, 89⟩, ⟨172, 93, 172, 103⟩, ⟨172, 107, 172, 134⟩, ⟨172, 107, 172, 116⟩, ⟨172, 124, 172, 134⟩, ⟨172, 139, 172, 141⟩, ⟨173, 4, 173, 29⟩, ⟨173, 11, 173, 29⟩, ⟨173, 11, 173, 16⟩, ⟨173, 17, 173, 28⟩],
  [{ kind := .function, names := [(".0", .local), ("_law_number", .local), ("_law_kinds", .local)], isGenerator := false, isCoroutine := false, more := [] },
   { kind := .function, names := [(".0", .local), ("_law_number", .local), ("_law_kinds", .local), ("_law_top", .free)], isGenerator := false, isCoroutine := false, more := [] },
   { kind := .function, names := [(".0", .local), ("_law_kind", .cell), ("_law_found", .free)], isGenerator := false, isCoroutine := false, more := [] },
   { kind := .function, names := [(".0", .local), ("_law_kinds", .local), ("_law_kind", .free)], isGenerator := false, isCoroutine := false, more := [] }],
  []⟩
theorem em__law_inmost : (emSs nN__law_inmost ir__law_inmost nE__law_inmost).1 = defBody st__law_inmost := by rfl
theorem ok__law_inmost : okSs nN__law_inmost (defScope st__law_inmost) ir__law_inmost nE__law_inmost = true := by decide +kernel
theorem sc__law_inmost : FnScope nN__law_inmost ["_law_rows"] (defScope st__law_inmost) := ⟨rfl, rfl, rfl, by decide +kernel, rfl, by decide +kernel, by decide +kernel⟩

abbrev st__law_excess : Stmt := top 46
def nN__law_excess : List Str := ["_law_market", "_law_bests_here", "_law_kinds", "_law_found", "_law_gain_here", "_law_best_here", "_law_kind"]
def nE__law_excess : Em := ⟨[⟨156, 4, 156, 81⟩, ⟨156, 4, 156, 14⟩, ⟨156, 17, 156, 81⟩, ⟨156, 17, 156, 18⟩, ⟨156, 21, 156, 81⟩, ⟨156, 21, 156, 24⟩, ⟨156, 25, 156, 80⟩, ⟨156, 26, 156, 51⟩, ⟨156, 26, 156, 40⟩, ⟨156, 26, 156, 37⟩, ⟨156, 38, 156, 39⟩, ⟨156, 41, 156, 50⟩, ⟨156, 56, 156, 65⟩, ⟨156, 69, 156, 79⟩, ⟨157, 4, 159, 39⟩, ⟨157, 8, 157, 38⟩, ⟨157, 8, 157, 22⟩, ⟨157, 24, 157, 38⟩, ⟨157, 42, 157, 57⟩, ⟨158, 8, 159, 39⟩, ⟨158, 11, 158, 114⟩, ⟨158, 11, 158, 29⟩, ⟨158, 11, 158, 25⟩, ⟨158, 28, 158, 29⟩, ⟨158, 34, 158, 114⟩, ⟨158, 34, 158, 108⟩, ⟨158, 35, 158, 44⟩, ⟨158, 49, 158, 58⟩, ⟨158, 62, 158, 76⟩, ⟨158, 80, 158, 107⟩, ⟨158, 80, 158, 89⟩, ⟨158, 97, 158, 107⟩, ⟨158, 112, 158, 114⟩, ⟨159, 12, 159, 39⟩, ⟨159, 12, 159, 22⟩, ⟨159, 25, 159, 39⟩, ⟨159, 25, 159, 35⟩, ⟨159, 38, 159, 39⟩, ⟨160, 4, 160, 21⟩, ⟨160, 11, 160, 21⟩],
  [{ kind := .function, names := [(".0", .local), ("_law_kind", .local), ("_law_market", .free)], isGenerator := false, isCoroutine := false, more := [] },
   { kind := .function, names := [(".0", .local), ("_law_kind", .local), ("_law_kinds", .free)], isGenerator := false, isCoroutine := false, more := [] }],
  []⟩
theorem em__law_excess : (emSs nN__law_excess ir__law_excess nE__law_excess).1 = defBody st__law_excess := by rfl
theorem ok__law_excess : okSs nN__law_excess (defScope st__law_excess) ir__law_excess nE__law_excess = true := by decide +kernel
theorem sc__law_excess : FnScope nN__law_excess ["_law_market", "_law_bests_here", "_law_kinds"] (defScope st__law_excess) := ⟨rfl, rfl, rfl, by decide +kernel, rfl, by decide +kernel, by decide +kernel⟩

abbrev st__law_sets : Stmt := top 45
def nN__law_sets : List Str := ["_law_many", "_law_found", "_law_kind", "_law_one_here"]
def nE__law_sets : Em := ⟨[⟨151, 4, 151, 21⟩, ⟨151, 4, 151, 14⟩, ⟨151, 17, 151, 21⟩, ⟨151, 18, 151, 20⟩, ⟨152, 4, 153, 96⟩, ⟨152, 8, 152, 17⟩, ⟨152, 21, 152, 37⟩, ⟨152, 21, 152, 26⟩, ⟨152, 27, 152, 36⟩, ⟨153, 8, 153, 96⟩, ⟨153, 8, 153, 18⟩, ⟨153, 21, 153, 96⟩, ⟨153, 21, 153, 31⟩, ⟨153, 34, 153, 96⟩, ⟨153, 35, 153, 63⟩, ⟨153, 35, 153, 48⟩, ⟨153, 51, 153, 63⟩, ⟨153, 52, 153, 61⟩, ⟨153, 68, 153, 81⟩, ⟨153, 85, 153, 95⟩, ⟨154, 4, 154, 33⟩, ⟨154, 11, 154, 33⟩, ⟨154, 11, 154, 17⟩, ⟨154, 18, 154, 32⟩, ⟨154, 29, 154, 31⟩, ⟨154, 18, 154, 28⟩, ⟨154, 29, 154, 30⟩],
  [{ kind := .function, names := [(".0", .local), ("_law_one_here", .local), ("_law_kind", .free)], isGenerator := false, isCoroutine := false, more := [] }],
  []⟩
theorem em__law_sets : (emSs nN__law_sets ir__law_sets_v1 nE__law_sets).1 = defBody st__law_sets := by rfl
theorem ok__law_sets : okSs nN__law_sets (defScope st__law_sets) ir__law_sets_v1 nE__law_sets = true := by decide +kernel
theorem sc__law_sets : FnScope nN__law_sets ["_law_many"] (defScope st__law_sets) := ⟨rfl, rfl, rfl, by decide +kernel, rfl, by decide +kernel, by decide +kernel⟩

abbrev st__law_pressed : Stmt := top 49
def nN__law_pressed : List Str := ["_law_market", "_law_prices", "_law_bests_here", "_law_kinds"]
def nE__law_pressed : Em := ⟨[⟨175, 4, 175, 58⟩, ⟨175, 4, 175, 19⟩, ⟨175, 22, 175, 58⟩, ⟨175, 22, 175, 32⟩, ⟨175, 33, 175, 44⟩, ⟨175, 46, 175, 57⟩, ⟨176, 4, 176, 139⟩, ⟨176, 11, 176, 139⟩, ⟨176, 11, 176, 22⟩, ⟨176, 23, 176, 138⟩, ⟨176, 24, 176, 91⟩, ⟨176, 25, 176, 78⟩, ⟨176, 25, 176, 36⟩, ⟨176, 37, 176, 48⟩, ⟨176, 50, 176, 65⟩, ⟨176, 67, 176, 77⟩, ⟨176, 80, 176, 90⟩, ⟨176, 96, 176, 106⟩, ⟨176, 110, 176, 137⟩, ⟨176, 110, 176, 119⟩, ⟨176, 120, 176, 136⟩, ⟨176, 120, 176, 123⟩, ⟨176, 124, 176, 135⟩],
  [{ kind := .function, names := [(".0", .local), ("_law_kinds", .local), ("_law_excess", .globalImplicit), ("_law_bests_here", .free), ("_law_market", .free)], isGenerator := false, isCoroutine := false, more := [] }],
  []⟩
theorem em__law_pressed : (emSs nN__law_pressed ir__law_pressed_v1 nE__law_pressed).1 = defBody st__law_pressed := by rfl
theorem ok__law_pressed : okSs nN__law_pressed (defScope st__law_pressed) ir__law_pressed_v1 nE__law_pressed = true := by decide +kernel
theorem sc__law_pressed : FnScope nN__law_pressed ["_law_market", "_law_prices"] (defScope st__law_pressed) := ⟨rfl, rfl, rfl, by decide +kernel, rfl, by decide +kernel, by decide +kernel⟩

abbrev st_idleness_by : Stmt := top 27
def nN_idleness_by : List Str := ["market", "wishes", "kinds", "rows", "is_gaining", "best", "kind"]
def nE_idleness_by : Em := ⟨[⟨66, 4, 66, 48⟩, ⟨66, 4, 66, 8⟩, ⟨66, 11, 66, 48⟩, ⟨66, 12, 66, 16⟩, ⟨66, 21, 66, 37⟩, ⟨66, 21, 66, 31⟩, ⟨66, 33, 66, 37⟩, ⟨66, 41, 66, 47⟩, ⟨67, 4, 67, 109⟩, ⟨67, 11, 67, 109⟩, ⟨67, 11, 67, 37⟩, ⟨67, 11, 67, 22⟩, ⟨67, 23, 67, 29⟩, ⟨67, 31, 67, 36⟩, ⟨67, 40, 67, 109⟩, ⟨67, 40, 67, 43⟩, ⟨67, 44, 67, 108⟩, ⟨67, 45, 67, 49⟩, ⟨67, 54, 67, 58⟩, ⟨67, 62, 67, 66⟩, ⟨67, 70, 67, 107⟩, ⟨67, 70, 67, 73⟩, ⟨67, 74, 67, 106⟩, ⟨67, 75, 67, 88⟩, ⟨67, 75, 67, 79⟩, ⟨67, 83, 67, 88⟩, ⟨67, 93, 67, 97⟩, ⟨67, 101, 67, 105⟩],
  [{ kind := .function, names := [(".0", .local), ("is_gaining", .local), ("best", .local)], isGenerator := false, isCoroutine := false, more := [] },
   { kind := .function, names := [(".0", .local), ("best", .local), ("any", .globalImplicit), ("kinds", .free)], isGenerator := false, isCoroutine := false, more := [] },
   { kind := .function, names := [(".0", .local), ("kind", .local), ("kinds", .free)], isGenerator := false, isCoroutine := false, more := [] }],
  []⟩
theorem em_idleness_by : (emSs nN_idleness_by ir_idleness_by nE_idleness_by).1 = defBody st_idleness_by := by rfl
theorem ok_idleness_by : okSs nN_idleness_by (defScope st_idleness_by) ir_idleness_by nE_idleness_by = true := by decide +kernel
theorem sc_idleness_by : FnScope nN_idleness_by ["market", "wishes", "kinds"] (defScope st_idleness_by) := ⟨rfl, rfl, rfl, by decide +kernel, rfl, by decide +kernel, by decide +kernel⟩

abbrev st_find_idle_sets : Stmt := top 28
def nN_find_idle_sets : List Str := ["prices", "kinds", "kind", "price", "own", "at"]
def nE_find_idle_sets : Em := ⟨[⟨69, 4, 69, 68⟩, ⟨69, 4, 69, 9⟩, ⟨69, 12, 69, 68⟩, ⟨69, 13, 69, 17⟩, ⟨69, 22, 69, 33⟩, ⟨69, 22, 69, 26⟩, ⟨69, 28, 69, 33⟩, ⟨69, 37, 69, 54⟩, ⟨69, 37, 69, 46⟩, ⟨69, 47, 69, 53⟩, ⟨69, 58, 69, 67⟩, ⟨69, 58, 69, 63⟩, ⟨69, 66, 69, 67⟩, ⟨70, 4, 70, 82⟩, ⟨70, 11, 70, 82⟩, ⟨70, 12, 70, 44⟩, ⟨70, 12, 70, 17⟩, ⟨70, 18, 70, 43⟩, ⟨70, 19, 70, 28⟩, ⟨70, 19, 70, 24⟩, ⟨70, 25, 70, 27⟩, ⟨70, 33, 70, 35⟩, ⟨70, 39, 70, 42⟩, ⟨70, 49, 70, 52⟩, ⟨70, 56, 70, 81⟩, ⟨70, 56, 70, 69⟩, ⟨70, 70, 70, 80⟩, ⟨70, 70, 70, 73⟩, ⟨70, 74, 70, 79⟩],
  [{ kind := .function, names := [(".0", .local), ("kind", .local), ("price", .local)], isGenerator := false, isCoroutine := false, more := [] },
   { kind := .function, names := [(".0", .local), ("own", .local), ("tuple", .globalImplicit), ("kinds", .free)], isGenerator := false, isCoroutine := false, more := [] },
   { kind := .function, names := [(".0", .local), ("at", .local), ("kinds", .free)], isGenerator := false, isCoroutine := false, more := [] }],
  []⟩
theorem em_find_idle_sets : (emSs nN_find_idle_sets ir_find_idle_sets_v1 nE_find_idle_sets).1 = defBody st_find_idle_sets := by rfl
theorem ok_find_idle_sets : okSs nN_find_idle_sets (defScope st_find_idle_sets) ir_find_idle_sets_v1 nE_find_idle_sets = true := by decide +kernel
theorem sc_find_idle_sets : FnScope nN_find_idle_sets ["prices"] (defScope st_find_idle_sets) := ⟨rfl, rfl, rfl, by decide +kernel, rfl, by decide +kernel, by decide +kernel⟩

abbrev st_find_slack : Stmt := top 31
def nN_find_slack : List Str := ["market", "prices", "wishes", "kinds"]
def nE_find_slack : Em := ⟨[⟨76, 4, 76, 40⟩, ⟨76, 4, 76, 10⟩, ⟨76, 13, 76, 40⟩, ⟨76, 13, 76, 24⟩, ⟨76, 25, 76, 31⟩, ⟨76, 33, 76, 39⟩, ⟨77, 4, 77, 105⟩, ⟨77, 11, 77, 105⟩, ⟨77, 11, 77, 22⟩, ⟨77, 23, 77, 104⟩, ⟨77, 24, 77, 67⟩, ⟨77, 25, 77, 59⟩, ⟨77, 25, 77, 36⟩, ⟨77, 37, 77, 43⟩, ⟨77, 45, 77, 51⟩, ⟨77, 53, 77, 58⟩, ⟨77, 61, 77, 66⟩, ⟨77, 72, 77, 77⟩, ⟨77, 81, 77, 103⟩, ⟨77, 81, 77, 95⟩, ⟨77, 96, 77, 102⟩],
  [{ kind := .function, names := [(".0", .local), ("kinds", .local), ("idleness_by", .globalImplicit), ("market", .free), ("wishes", .free)], isGenerator := false, isCoroutine := false, more := [] }],
  []⟩
theorem em_find_slack : (emSs nN_find_slack ir_find_slack_v1 nE_find_slack).1 = defBody st_find_slack := by rfl
theorem ok_find_slack : okSs nN_find_slack (defScope st_find_slack) ir_find_slack_v1 nE_find_slack = true := by decide +kernel
theorem sc_find_slack : FnScope nN_find_slack ["market", "prices"] (defScope st_find_slack) := ⟨rfl, rfl, rfl, by decide +kernel, rfl, by decide +kernel, by decide +kernel⟩

abbrev st_slack_kinds : Stmt := top 34
def nN_slack_kinds : List Str := ["market", "prices"]
def nE_slack_kinds : Em := ⟨[⟨88, 4, 88, 26⟩, ⟨88, 4, 88, 26⟩, ⟨88, 4, 88, 18⟩, ⟨88, 19, 88, 25⟩, ⟨89, 4, 89, 34⟩, ⟨89, 4, 89, 34⟩, ⟨89, 4, 89, 18⟩, ⟨89, 19, 89, 25⟩, ⟨89, 27, 89, 33⟩, ⟨90, 4, 90, 37⟩, ⟨90, 11, 90, 37⟩, ⟨90, 11, 90, 21⟩, ⟨90, 22, 90, 28⟩, ⟨90, 30, 90, 36⟩],
  [],
  []⟩
theorem em_slack_kinds : (emSs nN_slack_kinds ir_slack_kinds_v1 nE_slack_kinds).1 = defBody st_slack_kinds := by rfl
theorem ok_slack_kinds : okSs nN_slack_kinds (defScope st_slack_kinds) ir_slack_kinds_v1 nE_slack_kinds = true := by decide +kernel
theorem sc_slack_kinds : FnScope nN_slack_kinds ["market", "prices"] (defScope st_slack_kinds) := ⟨rfl, rfl, rfl, by decide +kernel, rfl, by decide +kernel, by decide +kernel⟩

abbrev st__law_idleness : Stmt := top 47
def nN__law_idleness : List Str := ["_law_market", "_law_bests_here", "_law_kinds", "_law_found", "_law_gain_here", "_law_best_here", "_law_kind"]
def nE__law_idleness : Em := ⟨[⟨162, 4, 162, 77⟩, ⟨162, 4, 162, 14⟩, ⟨162, 17, 162, 77⟩, ⟨162, 17, 162, 20⟩, ⟨162, 21, 162, 76⟩, ⟨162, 22, 162, 47⟩, ⟨162, 22, 162, 36⟩, ⟨162, 22, 162, 33⟩, ⟨162, 34, 162, 35⟩, ⟨162, 37, 162, 46⟩, ⟨162, 52, 162, 61⟩, ⟨162, 65, 162, 75⟩, ⟨163, 4, 165, 39⟩, ⟨163, 8, 163, 38⟩, ⟨163, 8, 163, 22⟩, ⟨163, 24, 163, 38⟩, ⟨163, 42, 163, 57⟩, ⟨164, 8, 165, 39⟩, ⟨164, 11, 164, 87⟩, ⟨164, 11, 164, 81⟩, ⟨164, 12, 164, 21⟩, ⟨164, 26, 164, 35⟩, ⟨164, 39, 164, 53⟩, ⟨164, 57, 164, 80⟩, ⟨164, 57, 164, 66⟩, ⟨164, 70, 164, 80⟩, ⟨164, 85, 164, 87⟩, ⟨165, 12, 165, 39⟩, ⟨165, 12, 165, 22⟩, ⟨165, 25, 165, 39⟩, ⟨165, 25, 165, 35⟩, ⟨165, 38, 165, 39⟩, ⟨166, 4, 166, 21⟩, ⟨166, 11, 166, 21⟩],
  [{ kind := .function, names := [(".0", .local), ("_law_kind", .local), ("_law_market", .free)], isGenerator := false, isCoroutine := false, more := [] },
   { kind := .function, names := [(".0", .local), ("_law_kind", .local), ("_law_kinds", .free)], isGenerator := false, isCoroutine := false, more := [] }],
  []⟩
theorem em__law_idleness : (emSs nN__law_idleness ir__law_idleness nE__law_idleness).1 = defBody st__law_idleness := by rfl
theorem ok__law_idleness : okSs nN__law_idleness (defScope st__law_idleness) ir__law_idleness nE__law_idleness = true := by decide +kernel
theorem sc__law_idleness : FnScope nN__law_idleness ["_law_market", "_law_bests_here", "_law_kinds"] (defScope st__law_idleness) := ⟨rfl, rfl, rfl, by decide +kernel, rfl, by decide +kernel, by decide +kernel⟩

abbrev st__law_slack : Stmt := top 50
def nN__law_slack : List Str := ["_law_market", "_law_prices", "_law_rows", "_law_bests_here", "_law_kinds", "_law_kind"]
def nE__law_slack : Em := ⟨[⟨178, 4, 178, 75⟩, ⟨178, 4, 178, 30⟩, ⟨178, 4, 178, 13⟩, ⟨178, 15, 178, 30⟩, ⟨178, 33, 178, 75⟩, ⟨178, 34, 178, 36⟩, ⟨178, 38, 178, 74⟩, ⟨178, 38, 178, 48⟩, ⟨178, 49, 178, 60⟩, ⟨178, 62, 178, 73⟩, ⟨179, 4, 181, 99⟩, ⟨179, 8, 179, 18⟩, ⟨179, 22, 179, 49⟩, ⟨179, 22, 179, 31⟩, ⟨179, 32, 179, 48⟩, ⟨179, 32, 179, 35⟩, ⟨179, 36, 179, 47⟩, ⟨180, 8, 181, 99⟩, ⟨180, 11, 180, 87⟩, ⟨180, 11, 180, 81⟩, ⟨180, 12, 180, 21⟩, ⟨180, 26, 180, 35⟩, ⟨180, 39, 180, 49⟩, ⟨180, 53, 180, 80⟩, ⟨180, 53, 180, 75⟩, ⟨180, 53, 180, 64⟩, ⟨180, 65, 180, 74⟩, ⟨180, 79, 180, 80⟩, ⟨180, 85, 180, 87⟩, ⟨181, 12, 181, 99⟩, ⟨181, 12, 181, 99⟩, ⟨181, 12, 181, 28⟩, ⟨181, 12, 181, 21⟩, ⟨181, 29, 181, 98⟩, ⟨181, 30, 181, 85⟩, ⟨181, 30, 181, 43⟩, ⟨181, 44, 181, 55⟩, ⟨181, 57, 181, 72⟩, ⟨181, 74, 181, 84⟩, ⟨181, 87, 181, 97⟩, ⟨182, 4, 182, 33⟩, ⟨182, 11, 182, 33⟩, ⟨182, 11, 182, 22⟩, ⟨182, 23, 182, 32⟩],
  [{ kind := .function, names := [(".0", .local), ("_law_kind", .local), ("_law_prices", .free)], isGenerator := false, isCoroutine := false, more := [] }],
  []⟩
theorem em__law_slack : (emSs nN__law_slack ir__law_slack_v1 nE__law_slack).1 = defBody st__law_slack := by rfl
theorem ok__law_slack : okSs nN__law_slack (defScope st__law_slack) ir__law_slack_v1 nE__law_slack = true := by decide +kernel
theorem sc__law_slack : FnScope nN__law_slack ["_law_market", "_law_prices"] (defScope st__law_slack) := ⟨rfl, rfl, rfl, by decide +kernel, rfl, by decide +kernel, by decide +kernel⟩

abbrev st_law : Stmt := top 53
def nN_law : List Str := ["_law_script", "_law_pen", "_law_turn", "_law_market", "_law_some", "_law_prices", "_law_kept", "_law_step"]
def nE_law : Em := ⟨[⟨191, 4, 191, 37⟩, ⟨191, 4, 191, 12⟩, ⟨191, 15, 191, 37⟩, ⟨191, 15, 191, 24⟩, ⟨191, 25, 191, 36⟩, ⟨192, 4, 202, 28⟩, ⟨192, 8, 192, 17⟩, ⟨192, 21, 192, 29⟩, ⟨192, 21, 192, 26⟩, ⟨192, 27, 192, 28⟩, ⟨193, 8, 193, 64⟩, ⟨193, 8, 193, 19⟩, ⟨193, 22, 193, 64⟩, ⟨193, 22, 193, 39⟩, ⟨193, 40, 193, 59⟩, ⟨193, 40, 193, 49⟩, ⟨193, 50, 193, 58⟩, ⟨193, 61, 193, 63⟩, ⟨194, 8, 194, 78⟩, ⟨194, 8, 194, 17⟩, ⟨194, 20, 194, 78⟩, ⟨194, 21, 194, 47⟩, ⟨194, 21, 194, 25⟩, ⟨194, 22, 194, 23⟩, ⟨194, 28, 194, 47⟩, ⟨194, 28, 194, 31⟩, ⟨194, 32, 194, 46⟩, ⟨194, 32, 194, 43⟩, ⟨194, 44, 194, 45⟩, ⟨194, 49, 194, 77⟩, ⟨194, 49, 194, 55⟩, ⟨194, 50, 194, 53⟩, ⟨194, 58, 194, 77⟩, ⟨194, 58, 194, 61⟩, ⟨194, 62, 194, 76⟩, ⟨194, 62, 194, 73⟩, ⟨194, 74, 194, 75⟩, ⟨195, 8, 202, 28⟩, ⟨195, 12, 195, 23⟩, ⟨195, 27, 195, 118⟩, ⟨195, 27, 195, 36⟩, ⟨195, 39, 195, 118⟩, ⟨195, 40, 195, 91⟩, ⟨195, 40, 195, 57⟩, ⟨195, 58, 195, 77⟩, ⟨195, 58, 195, 67⟩, ⟨195, 68, 195, 76⟩, ⟨195, 79, 195, 90⟩, ⟨195, 96, 195, 105⟩, ⟨195, 109, 195, 117⟩, ⟨195, 109, 195, 114⟩, ⟨195, 115, 195, 116⟩, ⟨196, 12, 196, 56⟩, ⟨196, 12, 196, 21⟩, ⟨196, 24, 196, 56⟩, ⟨196, 24, 196, 28⟩, ⟨196, 29, 196, 55⟩, ⟨196, 30, 196, 41⟩, ⟨196, 43, 196, 54⟩, ⟨197, 12, 198, 28⟩, ⟨197, 15, 197, 108⟩, ⟨197, 15, 197, 60⟩, ⟨197, 15, 197, 19⟩, ⟨197, 20, 197, 59⟩, ⟨197, 20, 197, 33⟩, ⟨197, 34, 197, 45⟩, ⟨197, 47, 197, 58⟩, ⟨197, 64, 197, 108⟩, ⟨197, 64, 197, 68⟩, ⟨197, 69, 197, 107⟩, ⟨197, 69, 197, 81⟩, ⟨197, 82, 197, 93⟩, ⟨197, 95, 197, 106⟩, ⟨198, 16, 198, 28⟩, ⟨198, 23, 198, 28⟩, ⟨199, 12, 200, 28⟩, ⟨199, 15, 199, 104⟩, ⟨199, 15, 199, 58⟩, ⟨199, 15, 199, 19⟩, ⟨199, 20, 199, 57⟩, ⟨199, 20, 199, 31⟩, ⟨199, 32, 199, 43⟩, ⟨199, 45, 199, 56⟩, ⟨199, 62, 199, 104⟩, ⟨199, 62, 199, 66⟩, ⟨199, 67, 199, 103⟩, ⟨199, 67, 199, 77⟩, ⟨199, 78, 199, 89⟩, ⟨199, 91, 199, 102⟩, ⟨200, 16, 200, 28⟩, ⟨200, 23, 200, 28⟩, ⟨201, 12, 202, 28⟩, ⟨201, 15, 201, 60⟩, ⟨201, 15, 201, 47⟩, ⟨201, 15, 201, 19⟩, ⟨201, 20, 201, 46⟩, ⟨201, 21, 201, 32⟩, ⟨201, 34, 201, 45⟩, ⟨201, 51, 201, 60⟩, ⟨202, 16, 202, 28⟩, ⟨202, 23, 202, 28⟩, ⟨203, 4, 203, 15⟩, ⟨203, 11, 203, 15⟩],
  [{ kind := .function, names := [(".0", .local), ("_law_step", .local), ("_law_drawn_prices", .globalImplicit), ("_law_anew", .globalImplicit), ("_law_market", .free), ("_law_pen", .free)], isGenerator := false, isCoroutine := false, more := [] }],
  []⟩
theorem em_law : (emSs nN_law (.cons (.set 1 (.call "_law_open" FNo (.cons (.var 0) .nil))) irr_law) nE_law).1 = defBody st_law := by rfl
theorem ok_law : okSs nN_law (defScope st_law) (.cons (.set 1 (.call "_law_open" FNo (.cons (.var 0) .nil))) irr_law) nE_law = true := by decide +kernel
theorem sc_law : FnScope nN_law ["_law_script"] (defScope st_law) := ⟨rfl, rfl, rfl, by decide +kernel, rfl, by decide +kernel, by decide +kernel⟩

structure Top (K : PySem.W.Frag) (mg : Str → Option Value) : Prop where
  d__law_open : DefAt K mg "_law_open" st__law_open
  d__law_spread : DefAt K mg "_law_spread" st__law_spread
  d__law_take : DefAt K mg "_law_take" st__law_take
  d__law_one : DefAt K mg "_law_one" st__law_one
  d__law_drawn_bid : DefAt K mg "_law_drawn_bid" st__law_drawn_bid
  d__law_anew : DefAt K mg "_law_anew" st__law_anew
  d__law_drawn_market : DefAt K mg "_law_drawn_market" st__law_drawn_market
  d__law_drawn_prices : DefAt K mg "_law_drawn_prices" st__law_drawn_prices
  d_is_integer : DefAt K mg "is_integer" st_is_integer
  d_is_between : DefAt K mg "is_between" st_is_between
  d_are_market_seats : DefAt K mg "are_market_seats" st_are_market_seats
  d_is_bid : DefAt K mg "is_bid" st_is_bid
  d_is_market : DefAt K mg "is_market" st_is_market
  d_require_market : DefAt K mg "require_market" st_require_market
  d_is_prices_of : DefAt K mg "is_prices_of" st_is_prices_of
  d_require_prices : DefAt K mg "require_prices" st_require_prices
  d_find_gain : DefAt K mg "find_gain" st_find_gain
  d_find_best : DefAt K mg "find_best" st_find_best
  d_find_wishes : DefAt K mg "find_wishes" st_find_wishes
  d_find_inmost : DefAt K mg "find_inmost" st_find_inmost
  d_count_seats : DefAt K mg "count_seats" st_count_seats
  d_excess_by : DefAt K mg "excess_by" st_excess_by
  d_all_kind_sets : DefAt K mg "all_kind_sets" st_all_kind_sets
  d_find_pressed : DefAt K mg "find_pressed" st_find_pressed
  d_pressed_kinds : DefAt K mg "pressed_kinds" st_pressed_kinds
  d__law_gain : DefAt K mg "_law_gain" st__law_gain
  d__law_best : DefAt K mg "_law_best" st__law_best
  d__law_bests : DefAt K mg "_law_bests" st__law_bests
  d__law_inmost : DefAt K mg "_law_inmost" st__law_inmost
  d__law_excess : DefAt K mg "_law_excess" st__law_excess
  d__law_sets : DefAt K mg "_law_sets" st__law_sets
  d__law_pressed : DefAt K mg "_law_pressed" st__law_pressed
  d_idleness_by : DefAt K mg "idleness_by" st_idleness_by
  d_find_idle_sets : DefAt K mg "find_idle_sets" st_find_idle_sets
  d_find_slack : DefAt K mg "find_slack" st_find_slack
  d_slack_kinds : DefAt K mg "slack_kinds" st_slack_kinds
  d__law_idleness : DefAt K mg "_law_idleness" st__law_idleness
  d__law_slack : DefAt K mg "_law_slack" st__law_slack
  d_law : DefAt K mg "law" st_law
  g_MOST_BIDS : ∃ v u, mg "MOST_BIDS" = some u ∧ RelV v u ∧ Rp none (fun _ => none) v (.int 12)
  g_MOST_BID_WORTH : ∃ v u, mg "MOST_BID_WORTH" = some u ∧ RelV v u ∧ Rp none (fun _ => none) v (.int 100)
  g_MOST_KIND_SEATS : ∃ v u, mg "MOST_KIND_SEATS" = some u ∧ RelV v u ∧ Rp none (fun _ => none) v (.int 20)
  g_MOST_MARKET_KINDS : ∃ v u, mg "MOST_MARKET_KINDS" = some u ∧ RelV v u ∧ Rp none (fun _ => none) v (.int 6)
  g_MOST_PRICE : ∃ v u, mg "MOST_PRICE" = some u ∧ RelV v u ∧ Rp none (fun _ => none) v (.int 200)
  bl : ∀ x, x ∈ bnames → mg x = none
section
variable {W : Wd}
theorem C__law_open (T : Top W.K W.mg) : Call1 W 1 "_law_open" 1 (spOpen W.K) := by
  exact open_at T.d__law_open nE__law_open sc__law_open T.bl em__law_open ok__law_open (fun _ _ _ _ _ _ us hl => match us, hl with | [_], _ => rfl)
theorem C__law_spread (T : Top W.K W.mg) : Call1 W 1 "_law_spread" 2 (spF (runF 8 ir_spread) 2) := by
  have ask : askSs (askOf W 0) ir_spread := by
    unfold ir_spread; simp only [askSs, askS, askE, askEs, askO, askSr]
    repeat' apply And.intro
    all_goals first | exact trivial
  exact def_at T.d__law_spread ir_spread nE__law_spread sc__law_spread T.bl em__law_spread ok__law_spread ask (fun _ _ _ _ _ _ us hl => match us, hl with | [_, _], _ => rfl)
theorem C__law_take (T : Top W.K W.mg) : Call1 W 2 "_law_take" 2 (spF FTake 2) := by
  have c__law_spread := (C__law_spread T).mono (show 1 ≤ 1 by decide)
  have ask : askSs (askOf W 1) ir_take := by
    unfold ir_take; simp only [askSs, askS, askE, askEs, askO, askSr]
    repeat' apply And.intro
    all_goals first | exact trivial | exact c__law_spread
  exact def_imp FTake_run (def_at T.d__law_take ir_take nE__law_take sc__law_take T.bl em__law_take ok__law_take ask (fun _ _ _ _ _ _ us hl => match us, hl with | [_, _], _ => rfl))
theorem C__law_one (T : Top W.K W.mg) : Call1 W 3 "_law_one" 2 spOne := by
  have c__law_take := (C__law_take T).mono (show 2 ≤ 2 by decide)
  exact one_at T.d__law_one nE__law_one sc__law_one T.bl em__law_one ok__law_one c__law_take (fun _ _ _ _ _ _ us hl => match us, hl with | [_, _], _ => rfl)
theorem C__law_drawn_bid (T : Top W.K W.mg) : Call1 W 4 "_law_drawn_bid" 3 (spF F__law_drawn_bid 3) := by
  have c__law_take := (C__law_take T).mono (show 2 ≤ 3 by decide)
  have c__law_one := (C__law_one T).mono (show 3 ≤ 3 by decide)
  have ask : askSs (askOf W 3) ir__law_drawn_bid := by
    unfold ir__law_drawn_bid; simp only [askSs, askS, askE, askEs, askO, askSr]
    repeat' apply And.intro
    all_goals first | exact trivial | exact c__law_take | exact c__law_one
  exact def_at T.d__law_drawn_bid ir__law_drawn_bid nE__law_drawn_bid sc__law_drawn_bid T.bl em__law_drawn_bid ok__law_drawn_bid ask (fun _ _ _ _ _ _ us hl => match us, hl with | [_, _, _], _ => rfl)
theorem C__law_anew (T : Top W.K W.mg) : Call1 W 1 "_law_anew" 1 (spF FAnew 1) := by
  have ask : askSs (askOf W 0) ir_anew := by
    unfold ir_anew; simp only [askSs, askS, askE, askEs, askO, askSr]
    repeat' apply And.intro
    all_goals first | exact trivial
  exact def_imp FAnew_run (def_at T.d__law_anew ir_anew nE__law_anew sc__law_anew T.bl em__law_anew ok__law_anew ask (fun _ _ _ _ _ _ us hl => match us, hl with | [_], _ => rfl))
theorem C__law_drawn_market (T : Top W.K W.mg) : Call1 W 5 "_law_drawn_market" 2 (spF F__law_drawn_market 2) := by
  have c__law_one := (C__law_one T).mono (show 3 ≤ 4 by decide)
  have c__law_take := (C__law_take T).mono (show 2 ≤ 4 by decide)
  have c__law_drawn_bid := (C__law_drawn_bid T).mono (show 4 ≤ 4 by decide)
  have c__law_anew := (C__law_anew T).mono (show 1 ≤ 4 by decide)
  have ask : askSs (askOf W 4) ir__law_drawn_market := by
    unfold ir__law_drawn_market; simp only [askSs, askS, askE, askEs, askO, askSr]
    repeat' apply And.intro
    all_goals first | exact trivial | exact c__law_one | exact c__law_take | exact c__law_drawn_bid | exact c__law_anew
  exact def_at T.d__law_drawn_market ir__law_drawn_market nE__law_drawn_market sc__law_drawn_market T.bl em__law_drawn_market ok__law_drawn_market ask (fun _ _ _ _ _ _ us hl => match us, hl with | [_, _], _ => rfl)
theorem C__law_drawn_prices (T : Top W.K W.mg) : Call1 W 4 "_law_drawn_prices" 2 (spF F__law_drawn_prices 2) := by
  have c__law_take := (C__law_take T).mono (show 2 ≤ 3 by decide)
  have c__law_one := (C__law_one T).mono (show 3 ≤ 3 by decide)
  have ask : askSs (askOf W 3) ir__law_drawn_prices := by
    unfold ir__law_drawn_prices; simp only [askSs, askS, askE, askEs, askO, askSr]
    repeat' apply And.intro
    all_goals first | exact trivial | exact c__law_take | exact c__law_one
  exact def_at T.d__law_drawn_prices ir__law_drawn_prices nE__law_drawn_prices sc__law_drawn_prices T.bl em__law_drawn_prices ok__law_drawn_prices ask (fun _ _ _ _ _ _ us hl => match us, hl with | [_, _], _ => rfl)
theorem C_is_integer (T : Top W.K W.mg) : Call1 W 1 "is_integer" 1 (spF F_is_integer 1) := by
  have ask : askSs (askOf W 0) ir_is_integer := by
    unfold ir_is_integer; simp only [askSs, askS, askE, askEs, askO, askSr]
    repeat' apply And.intro
    all_goals first | exact trivial
  exact def_at T.d_is_integer ir_is_integer nE_is_integer sc_is_integer T.bl em_is_integer ok_is_integer ask (fun _ _ _ _ _ _ us hl => match us, hl with | [_], _ => rfl)
theorem C_is_between (T : Top W.K W.mg) : Call1 W 2 "is_between" 3 (spF F_is_between 3) := by
  have c_is_integer := (C_is_integer T).mono (show 1 ≤ 1 by decide)
  have ask : askSs (askOf W 1) ir_is_between := by
    unfold ir_is_between; simp only [askSs, askS, askE, askEs, askO, askSr]
    repeat' apply And.intro
    all_goals first | exact trivial | exact c_is_integer
  exact def_at T.d_is_between ir_is_between nE_is_between sc_is_between T.bl em_is_between ok_is_between ask (fun _ _ _ _ _ _ us hl => match us, hl with | [_, _, _], _ => rfl)
theorem C_are_market_seats (T : Top W.K W.mg) : Call1 W 3 "are_market_seats" 1 (spF F_are_market_seats 1) := by
  have c_is_between := (C_is_between T).mono (show 2 ≤ 2 by decide)
  have ask : askSs (askOf W 2) ir_are_market_seats := by
    unfold ir_are_market_seats; simp only [askSs, askS, askE, askEs, askO, askSr]
    repeat' apply And.intro
    all_goals first | exact trivial | exact c_is_between | exact T.g_MOST_KIND_SEATS | exact T.g_MOST_MARKET_KINDS
  exact def_at T.d_are_market_seats ir_are_market_seats nE_are_market_seats sc_are_market_seats T.bl em_are_market_seats ok_are_market_seats ask (fun _ _ _ _ _ _ us hl => match us, hl with | [_], _ => rfl)
theorem C_is_bid (T : Top W.K W.mg) : Call1 W 3 "is_bid" 2 (spF F_is_bid 2) := by
  have c_is_between := (C_is_between T).mono (show 2 ≤ 2 by decide)
  have ask : askSs (askOf W 2) ir_is_bid := by
    unfold ir_is_bid; simp only [askSs, askS, askE, askEs, askO, askSr]
    repeat' apply And.intro
    all_goals first | exact trivial | exact c_is_between | exact T.g_MOST_BID_WORTH
  exact def_at T.d_is_bid ir_is_bid nE_is_bid sc_is_bid T.bl em_is_bid ok_is_bid ask (fun _ _ _ _ _ _ us hl => match us, hl with | [_, _], _ => rfl)
theorem C_is_market (T : Top W.K W.mg) : Call1 W 4 "is_market" 1 (spF F_is_market 1) := by
  have c_are_market_seats := (C_are_market_seats T).mono (show 3 ≤ 3 by decide)
  have c_is_bid := (C_is_bid T).mono (show 3 ≤ 3 by decide)
  have ask : askSs (askOf W 3) ir_is_market := by
    unfold ir_is_market; simp only [askSs, askS, askE, askEs, askO, askSr]
    repeat' apply And.intro
    all_goals first | exact trivial | exact c_are_market_seats | exact c_is_bid | exact T.g_MOST_BIDS
  exact def_at T.d_is_market ir_is_market nE_is_market sc_is_market T.bl em_is_market ok_is_market ask (fun _ _ _ _ _ _ us hl => match us, hl with | [_], _ => rfl)
theorem C_require_market (T : Top W.K W.mg) : Call1 W 5 "require_market" 1 (spF F_require_market 1) := by
  have c_is_market := (C_is_market T).mono (show 4 ≤ 4 by decide)
  have ask : askSs (askOf W 4) ir_require_market := by
    unfold ir_require_market; simp only [askSs, askS, askE, askEs, askO, askSr]
    repeat' apply And.intro
    all_goals first | exact trivial | exact c_is_market
  exact def_at T.d_require_market ir_require_market nE_require_market sc_require_market T.bl em_require_market ok_require_market ask (fun _ _ _ _ _ _ us hl => match us, hl with | [_], _ => rfl)
theorem C_is_prices_of (T : Top W.K W.mg) : Call1 W 3 "is_prices_of" 2 (spF F_is_prices_of 2) := by
  have c_is_between := (C_is_between T).mono (show 2 ≤ 2 by decide)
  have ask : askSs (askOf W 2) ir_is_prices_of := by
    unfold ir_is_prices_of; simp only [askSs, askS, askE, askEs, askO, askSr]
    repeat' apply And.intro
    all_goals first | exact trivial | exact c_is_between | exact T.g_MOST_PRICE
  exact def_at T.d_is_prices_of ir_is_prices_of nE_is_prices_of sc_is_prices_of T.bl em_is_prices_of ok_is_prices_of ask (fun _ _ _ _ _ _ us hl => match us, hl with | [_, _], _ => rfl)
theorem C_require_prices (T : Top W.K W.mg) : Call1 W 4 "require_prices" 2 (spF F_require_prices 2) := by
  have c_is_prices_of := (C_is_prices_of T).mono (show 3 ≤ 3 by decide)
  have ask : askSs (askOf W 3) ir_require_prices := by
    unfold ir_require_prices; simp only [askSs, askS, askE, askEs, askO, askSr]
    repeat' apply And.intro
    all_goals first | exact trivial | exact c_is_prices_of
  exact def_at T.d_require_prices ir_require_prices nE_require_prices sc_require_prices T.bl em_require_prices ok_require_prices ask (fun _ _ _ _ _ _ us hl => match us, hl with | [_, _], _ => rfl)
theorem C_find_gain (T : Top W.K W.mg) : Call1 W 1 "find_gain" 2 (spF F_find_gain 2) := by
  have ask : askSs (askOf W 0) ir_find_gain := by
    unfold ir_find_gain; simp only [askSs, askS, askE, askEs, askO, askSr]
    repeat' apply And.intro
    all_goals first | exact trivial
  exact def_at T.d_find_gain ir_find_gain nE_find_gain sc_find_gain T.bl em_find_gain ok_find_gain ask (fun _ _ _ _ _ _ us hl => match us, hl with | [_, _], _ => rfl)
theorem C_find_best (T : Top W.K W.mg) : Call1 W 2 "find_best" 2 (spF F_find_best 2) := by
  have c_find_gain := (C_find_gain T).mono (show 1 ≤ 1 by decide)
  have ask : askSs (askOf W 1) ir_find_best := by
    unfold ir_find_best; simp only [askSs, askS, askE, askEs, askO, askSr]
    repeat' apply And.intro
    all_goals first | exact trivial | exact c_find_gain
  exact def_at T.d_find_best ir_find_best nE_find_best sc_find_best T.bl em_find_best ok_find_best ask (fun _ _ _ _ _ _ us hl => match us, hl with | [_, _], _ => rfl)
theorem C_find_wishes (T : Top W.K W.mg) : Call1 W 3 "find_wishes" 2 (spF F_find_wishes 2) := by
  have c_find_gain := (C_find_gain T).mono (show 1 ≤ 2 by decide)
  have c_find_best := (C_find_best T).mono (show 2 ≤ 2 by decide)
  have ask : askSs (askOf W 2) ir_find_wishes := by
    unfold ir_find_wishes; simp only [askSs, askS, askE, askEs, askO, askSr]
    repeat' apply And.intro
    all_goals first | exact trivial | exact c_find_gain | exact c_find_best
  exact def_at T.d_find_wishes ir_find_wishes nE_find_wishes sc_find_wishes T.bl em_find_wishes ok_find_wishes ask (fun _ _ _ _ _ _ us hl => match us, hl with | [_, _], _ => rfl)
theorem C_find_inmost (T : Top W.K W.mg) : Call1 W 1 "find_inmost" 1 (spF F_find_inmost 1) := by
  have ask : askSs (askOf W 0) ir_find_inmost := by
    unfold ir_find_inmost; simp only [askSs, askS, askE, askEs, askO, askSr]
    repeat' apply And.intro
    all_goals first | exact trivial
  exact def_at T.d_find_inmost ir_find_inmost nE_find_inmost sc_find_inmost T.bl em_find_inmost ok_find_inmost ask (fun _ _ _ _ _ _ us hl => match us, hl with | [_], _ => rfl)
theorem C_count_seats (T : Top W.K W.mg) : Call1 W 1 "count_seats" 2 (spF F_count_seats 2) := by
  have ask : askSs (askOf W 0) ir_count_seats := by
    unfold ir_count_seats; simp only [askSs, askS, askE, askEs, askO, askSr]
    repeat' apply And.intro
    all_goals first | exact trivial
  exact def_at T.d_count_seats ir_count_seats nE_count_seats sc_count_seats T.bl em_count_seats ok_count_seats ask (fun _ _ _ _ _ _ us hl => match us, hl with | [_, _], _ => rfl)
theorem C_excess_by (T : Top W.K W.mg) : Call1 W 2 "excess_by" 3 (spF F_excess_by 3) := by
  have c_count_seats := (C_count_seats T).mono (show 1 ≤ 1 by decide)
  have ask : askSs (askOf W 1) ir_excess_by := by
    unfold ir_excess_by; simp only [askSs, askS, askE, askEs, askO, askSr]
    repeat' apply And.intro
    all_goals first | exact trivial | exact c_count_seats
  exact def_at T.d_excess_by ir_excess_by nE_excess_by sc_excess_by T.bl em_excess_by ok_excess_by ask (fun _ _ _ _ _ _ us hl => match us, hl with | [_, _, _], _ => rfl)
theorem C_all_kind_sets (T : Top W.K W.mg) : Call1 W 1 "all_kind_sets" 1 (spF F_all_kind_sets 1) := by
  have ask : askSs (askOf W 0) ir_all_kind_sets := by
    unfold ir_all_kind_sets; simp only [askSs, askS, askE, askEs, askO, askSr]
    repeat' apply And.intro
    all_goals first | exact trivial
  exact def_at T.d_all_kind_sets ir_all_kind_sets nE_all_kind_sets sc_all_kind_sets T.bl em_all_kind_sets ok_all_kind_sets ask (fun _ _ _ _ _ _ us hl => match us, hl with | [_], _ => rfl)
theorem C_find_pressed (T : Top W.K W.mg) : Call1 W 4 "find_pressed" 2 (spF F_find_pressed_v1 2) := by
  have c_find_wishes := (C_find_wishes T).mono (show 3 ≤ 3 by decide)
  have c_find_inmost := (C_find_inmost T).mono (show 1 ≤ 3 by decide)
  have c_excess_by := (C_excess_by T).mono (show 2 ≤ 3 by decide)
  have c_all_kind_sets := (C_all_kind_sets T).mono (show 1 ≤ 3 by decide)
  have ask : askSs (askOf W 3) ir_find_pressed_v1 := by
    unfold ir_find_pressed_v1; simp only [askSs, askS, askE, askEs, askO, askSr]
    repeat' apply And.intro
    all_goals first | exact trivial | exact c_find_wishes | exact c_find_inmost | exact c_excess_by | exact c_all_kind_sets
  exact def_at T.d_find_pressed ir_find_pressed_v1 nE_find_pressed sc_find_pressed T.bl em_find_pressed ok_find_pressed ask (fun _ _ _ _ _ _ us hl => match us, hl with | [_, _], _ => rfl)
theorem C_pressed_kinds (T : Top W.K W.mg) : Call1 W 6 "pressed_kinds" 2 (spF F_pressed_kinds_v1 2) := by
  have c_require_market := (C_require_market T).mono (show 5 ≤ 5 by decide)
  have c_require_prices := (C_require_prices T).mono (show 4 ≤ 5 by decide)
  have c_find_pressed := (C_find_pressed T).mono (show 4 ≤ 5 by decide)
  have ask : askSs (askOf W 5) ir_pressed_kinds_v1 := by
    unfold ir_pressed_kinds_v1; simp only [askSs, askS, askE, askEs, askO, askSr]
    repeat' apply And.intro
    all_goals first | exact trivial | exact c_require_market | exact c_require_prices | exact c_find_pressed
  exact def_at T.d_pressed_kinds ir_pressed_kinds_v1 nE_pressed_kinds sc_pressed_kinds T.bl em_pressed_kinds ok_pressed_kinds ask (fun _ _ _ _ _ _ us hl => match us, hl with | [_, _], _ => rfl)
theorem C__law_gain (T : Top W.K W.mg) : Call1 W 1 "_law_gain" 2 (spF F__law_gain 2) := by
  have ask : askSs (askOf W 0) ir__law_gain := by
    unfold ir__law_gain; simp only [askSs, askS, askE, askEs, askO, askSr]
    repeat' apply And.intro
    all_goals first | exact trivial
  exact def_at T.d__law_gain ir__law_gain nE__law_gain sc__law_gain T.bl em__law_gain ok__law_gain ask (fun _ _ _ _ _ _ us hl => match us, hl with | [_, _], _ => rfl)
theorem C__law_best (T : Top W.K W.mg) : Call1 W 2 "_law_best" 2 (spF F__law_best 2) := by
  have c__law_gain := (C__law_gain T).mono (show 1 ≤ 1 by decide)
  have ask : askSs (askOf W 1) ir__law_best := by
    unfold ir__law_best; simp only [askSs, askS, askE, askEs, askO, askSr]
    repeat' apply And.intro
    all_goals first | exact trivial | exact c__law_gain
  exact def_at T.d__law_best ir__law_best nE__law_best sc__law_best T.bl em__law_best ok__law_best ask (fun _ _ _ _ _ _ us hl => match us, hl with | [_, _], _ => rfl)
theorem C__law_bests (T : Top W.K W.mg) : Call1 W 3 "_law_bests" 2 (spF F__law_bests 2) := by
  have c__law_gain := (C__law_gain T).mono (show 1 ≤ 2 by decide)
  have c__law_best := (C__law_best T).mono (show 2 ≤ 2 by decide)
  have ask : askSs (askOf W 2) ir__law_bests := by
    unfold ir__law_bests; simp only [askSs, askS, askE, askEs, askO, askSr]
    repeat' apply And.intro
    all_goals first | exact trivial | exact c__law_gain | exact c__law_best
  exact def_at T.d__law_bests ir__law_bests nE__law_bests sc__law_bests T.bl em__law_bests ok__law_bests ask (fun _ _ _ _ _ _ us hl => match us, hl with | [_, _], _ => rfl)
theorem C__law_inmost (T : Top W.K W.mg) : Call1 W 1 "_law_inmost" 1 (spF F__law_inmost 1) := by
  have ask : askSs (askOf W 0) ir__law_inmost := by
    unfold ir__law_inmost; simp only [askSs, askS, askE, askEs, askO, askSr]
    repeat' apply And.intro
    all_goals first | exact trivial
  exact def_at T.d__law_inmost ir__law_inmost nE__law_inmost sc__law_inmost T.bl em__law_inmost ok__law_inmost ask (fun _ _ _ _ _ _ us hl => match us, hl with | [_], _ => rfl)
theorem C__law_excess (T : Top W.K W.mg) : Call1 W 1 "_law_excess" 3 (spF F__law_excess 3) := by
  have ask : askSs (askOf W 0) ir__law_excess := by
    unfold ir__law_excess; simp only [askSs, askS, askE, askEs, askO, askSr]
    repeat' apply And.intro
    all_goals first | exact trivial
  exact def_at T.d__law_excess ir__law_excess nE__law_excess sc__law_excess T.bl em__law_excess ok__law_excess ask (fun _ _ _ _ _ _ us hl => match us, hl with | [_, _, _], _ => rfl)
theorem C__law_sets (T : Top W.K W.mg) : Call1 W 1 "_law_sets" 1 (spF F__law_sets_v1 1) := by
  have ask : askSs (askOf W 0) ir__law_sets_v1 := by
    unfold ir__law_sets_v1; simp only [askSs, askS, askE, askEs, askO, askSr]
    repeat' apply And.intro
    all_goals first | exact trivial
  exact def_at T.d__law_sets ir__law_sets_v1 nE__law_sets sc__law_sets T.bl em__law_sets ok__law_sets ask (fun _ _ _ _ _ _ us hl => match us, hl with | [_], _ => rfl)
theorem C__law_pressed (T : Top W.K W.mg) : Call1 W 4 "_law_pressed" 2 (spF F__law_pressed_v1 2) := by
  have c__law_bests := (C__law_bests T).mono (show 3 ≤ 3 by decide)
  have c__law_inmost := (C__law_inmost T).mono (show 1 ≤ 3 by decide)
  have c__law_excess := (C__law_excess T).mono (show 1 ≤ 3 by decide)
  have c__law_sets := (C__law_sets T).mono (show 1 ≤ 3 by decide)
  have ask : askSs (askOf W 3) ir__law_pressed_v1 := by
    unfold ir__law_pressed_v1; simp only [askSs, askS, askE, askEs, askO, askSr]
    repeat' apply And.intro
    all_goals first | exact trivial | exact c__law_bests | exact c__law_inmost | exact c__law_excess | exact c__law_sets
  exact def_at T.d__law_pressed ir__law_pressed_v1 nE__law_pressed sc__law_pressed T.bl em__law_pressed ok__law_pressed ask (fun _ _ _ _ _ _ us hl => match us, hl with | [_, _], _ => rfl)
theorem C_idleness_by (T : Top W.K W.mg) : Call1 W 2 "idleness_by" 3 (spF F_idleness_by 3) := by
  have c_count_seats := (C_count_seats T).mono (show 1 ≤ 1 by decide)
  have ask : askSs (askOf W 1) ir_idleness_by := by
    unfold ir_idleness_by; simp only [askSs, askS, askE, askEs, askO, askSr]
    repeat' apply And.intro
    all_goals first | exact trivial | exact c_count_seats
  exact def_at T.d_idleness_by ir_idleness_by nE_idleness_by sc_idleness_by T.bl em_idleness_by ok_idleness_by ask (fun _ _ _ _ _ _ us hl => match us, hl with | [_, _, _], _ => rfl)
theorem C_find_idle_sets (T : Top W.K W.mg) : Call1 W 2 "find_idle_sets" 1 (spF F_find_idle_sets_v1 1) := by
  have c_all_kind_sets := (C_all_kind_sets T).mono (show 1 ≤ 1 by decide)
  have ask : askSs (askOf W 1) ir_find_idle_sets_v1 := by
    unfold ir_find_idle_sets_v1; simp only [askSs, askS, askE, askEs, askO, askSr]
    repeat' apply And.intro
    all_goals first | exact trivial | exact c_all_kind_sets
  exact def_at T.d_find_idle_sets ir_find_idle_sets_v1 nE_find_idle_sets sc_find_idle_sets T.bl em_find_idle_sets ok_find_idle_sets ask (fun _ _ _ _ _ _ us hl => match us, hl with | [_], _ => rfl)
theorem C_find_slack (T : Top W.K W.mg) : Call1 W 4 "find_slack" 2 (spF F_find_slack_v1 2) := by
  have c_find_wishes := (C_find_wishes T).mono (show 3 ≤ 3 by decide)
  have c_find_inmost := (C_find_inmost T).mono (show 1 ≤ 3 by decide)
  have c_idleness_by := (C_idleness_by T).mono (show 2 ≤ 3 by decide)
  have c_find_idle_sets := (C_find_idle_sets T).mono (show 2 ≤ 3 by decide)
  have ask : askSs (askOf W 3) ir_find_slack_v1 := by
    unfold ir_find_slack_v1; simp only [askSs, askS, askE, askEs, askO, askSr]
    repeat' apply And.intro
    all_goals first | exact trivial | exact c_find_wishes | exact c_find_inmost | exact c_idleness_by | exact c_find_idle_sets
  exact def_at T.d_find_slack ir_find_slack_v1 nE_find_slack sc_find_slack T.bl em_find_slack ok_find_slack ask (fun _ _ _ _ _ _ us hl => match us, hl with | [_, _], _ => rfl)
theorem C_slack_kinds (T : Top W.K W.mg) : Call1 W 6 "slack_kinds" 2 (spF F_slack_kinds_v1 2) := by
  have c_require_market := (C_require_market T).mono (show 5 ≤ 5 by decide)
  have c_require_prices := (C_require_prices T).mono (show 4 ≤ 5 by decide)
  have c_find_slack := (C_find_slack T).mono (show 4 ≤ 5 by decide)
  have ask : askSs (askOf W 5) ir_slack_kinds_v1 := by
    unfold ir_slack_kinds_v1; simp only [askSs, askS, askE, askEs, askO, askSr]
    repeat' apply And.intro
    all_goals first | exact trivial | exact c_require_market | exact c_require_prices | exact c_find_slack
  exact def_at T.d_slack_kinds ir_slack_kinds_v1 nE_slack_kinds sc_slack_kinds T.bl em_slack_kinds ok_slack_kinds ask (fun _ _ _ _ _ _ us hl => match us, hl with | [_, _], _ => rfl)
theorem C__law_idleness (T : Top W.K W.mg) : Call1 W 1 "_law_idleness" 3 (spF F__law_idleness 3) := by
  have ask : askSs (askOf W 0) ir__law_idleness := by
    unfold ir__law_idleness; simp only [askSs, askS, askE, askEs, askO, askSr]
    repeat' apply And.intro
    all_goals first | exact trivial
  exact def_at T.d__law_idleness ir__law_idleness nE__law_idleness sc__law_idleness T.bl em__law_idleness ok__law_idleness ask (fun _ _ _ _ _ _ us hl => match us, hl with | [_, _, _], _ => rfl)
theorem C__law_slack (T : Top W.K W.mg) : Call1 W 4 "_law_slack" 2 (spF F__law_slack_v1 2) := by
  have c__law_bests := (C__law_bests T).mono (show 3 ≤ 3 by decide)
  have c__law_sets := (C__law_sets T).mono (show 1 ≤ 3 by decide)
  have c__law_idleness := (C__law_idleness T).mono (show 1 ≤ 3 by decide)
  have c__law_inmost := (C__law_inmost T).mono (show 1 ≤ 3 by decide)
  have ask : askSs (askOf W 3) ir__law_slack_v1 := by
    unfold ir__law_slack_v1; simp only [askSs, askS, askE, askEs, askO, askSr]
    repeat' apply And.intro
    all_goals first | exact trivial | exact c__law_bests | exact c__law_sets | exact c__law_idleness | exact c__law_inmost
  exact def_at T.d__law_slack ir__law_slack_v1 nE__law_slack sc__law_slack T.bl em__law_slack ok__law_slack ask (fun _ _ _ _ _ _ us hl => match us, hl with | [_, _], _ => rfl)
theorem C_law (T : Top W.K W.mg) : Call1 W 6 "_law_open" 1 (spOpen W.K) ∧ askSs (askOf W 6) irr_law := by
  have c__law_open := (C__law_open T).mono (show 1 ≤ 6 by decide)
  have c__law_drawn_market := (C__law_drawn_market T).mono (show 5 ≤ 6 by decide)
  have c__law_anew := (C__law_anew T).mono (show 1 ≤ 6 by decide)
  have c__law_drawn_prices := (C__law_drawn_prices T).mono (show 4 ≤ 6 by decide)
  have c_pressed_kinds := (C_pressed_kinds T).mono (show 6 ≤ 6 by decide)
  have c__law_pressed := (C__law_pressed T).mono (show 4 ≤ 6 by decide)
  have c_slack_kinds := (C_slack_kinds T).mono (show 6 ≤ 6 by decide)
  have c__law_slack := (C__law_slack T).mono (show 4 ≤ 6 by decide)
  refine ⟨c__law_open, ?_⟩
  unfold irr_law; simp only [askSs, askS, askE, askEs, askO, askSr]; repeat' apply And.intro
  all_goals first | exact trivial | exact c__law_open | exact c__law_drawn_market | exact c__law_anew | exact c__law_drawn_prices | exact c_pressed_kinds | exact c__law_pressed | exact c_slack_kinds | exact c__law_slack
end
end K1

set_option Elab.async false
set_option linter.all false
set_option maxRecDepth 1000000
set_option maxHeartbeats 8000000
set_option pp.maxSteps 400
namespace K1
open PySem L2 Fs
local macro_rules
  | `(tactic| fail) => `(tactic| first
    | (refine' gateE ?_; first | refine' w_var rfl ?_ | refine' w_own rfl ?_ | refine' w_int ?_ | refine' w_bool ?_ | refine' w_non ?_ | refine' w_str ?_ | refine' w_glob ?_ | refine' w_call ?_ | refine' w_ix ?_ | refine' w_cmp ?_ | refine' w_bin ?_ | refine' w_one ?_ | refine' w_blt ?_ | refine' w_isi ?_ | refine' w_not ?_ | refine' w_isN ?_ | refine' w_notN ?_ | refine' w_tup ?_ | refine' w_lst ?_ | refine' w_and ?_ | refine' w_or ?_ | refine' w_sl ?_ | refine' w_lc ?_ | refine' w_neg ?_ | refine' w_cmp2P ?_ ?_)
    | refine' wl_nil ?_
    | refine' wl_cons ?_
    | (refine' gate1 ?_; first | refine' w1_set ?_ | refine' w1_ret ?_ | refine' w1_setT ?_ | refine' w1_set2 ?_ | refine' w1_app rfl ?_ | refine' w1_ins rfl ?_ | refine' w1_expr ?_ | refine' w1_rev rfl ?_ | refine' w1_ext rfl ?_ | refine' w1_setLc ?_ | refine' w1_for ?_ | refine' w1_retN ?_ | refine' w1_cont ?_ | refine' w1_brk ?_ | refine' w1_pass ?_)
    | refine' ws_nil ?_
    | refine' ws_cons ?_
    | (refine' gateB ?_; first | refine' wb_and1 ?_ | refine' wb_or1 ?_ | refine' wb_andP ?_ (fun _ => ?_) ?_ | refine' wb_orP ?_ (fun _ => ?_) ?_ | refine' wb_of ?_)
    | refine' wv ?_
    | (refine' gateK ?_; first | refine' k_lt ?_ | refine' k_le ?_ | refine' k_gt ?_ | refine' k_ge ?_ | refine' k_eqI ?_ | refine' k_neI ?_ | refine' k_inT ?_ | refine' k_inL ?_ | refine' k_ninT ?_ | refine' k_ninL ?_)
    | (refine' gateF ?_; first | refine' f_lenL ?_ | refine' f_lenT ?_ | refine' f_int ?_ | refine' f_tupL ?_ | refine' f_tupT ?_ | refine' f_listL ?_ | refine' f_listT ?_ | refine' f_max2 ?_ | refine' f_rev1T ?_ | refine' f_rev1L ?_ | refine' f_min2 ?_)
    | (refine' gateI ?_; first | refine' wi rfl ?_ | refine' wi_atT rfl rfl ?_ | refine' wi_atL rfl rfl ?_)
    | (refine' gateT ?_; first | refine' wt_v rfl ?_ | refine' wt_t2 rfl ?_ | refine' wt_t3 rfl ?_ | refine' wt_t4 rfl ?_ | refine' wt_t5 rfl ?_ | refine' wt rfl ?_)
    | (refine' gateR ?_; first | refine' wr_seq ?_ | refine' wr_enum ?_ | refine' wr_zip ?_ | refine' wr_rng ?_ | refine' wr_rng2 ?_)
    | (refine' gateSl ?_; first | refine' slF_T rfl ?_ | refine' slT_T rfl ?_ | refine' slF_L rfl ?_ | refine' slT_L rfl ?_)
    | refine' wo_none ?_
    | refine' wo_some ?_
    | refine' wal_nil ?_
    | refine' wal_one ?_
    | refine' d_add ?_
    | refine' d_sub ?_
    | refine' z_TT ?_
    | refine' z_LL ?_
    | refine' wret ?_
    | exact rfl
    | refine' ⟨_, rfl, ?_⟩
    | refine' ⟨rfl, fun _ => ?_⟩
    | refine' ⟨rfl, ?_⟩
    | fail_if_success skip)
theorem maxI_swap (l : List Int) : maxI ([0] ++ l) = maxI (l ++ [0]) := by
  have h : ∀ {a b : List Int}, a ≠ [] → (∀ x ∈ a, x ∈ b) → maxI a ≤ maxI b := fun ha h => maxI_ge (h _ (maxI_mem ha))
  refine Int.le_antisymm (h (by simp) fun x hx => ?_) (h (by simp) fun x hx => ?_)
  · rw [List.mem_append] at hx ⊢; exact hx.symm
  · rw [List.mem_append] at hx ⊢; exact hx.symm
section
variable {pn : Option Pn} {Q : D → Bool → Option Pn → Prop} {m : Mkt} {b : List (Option Int)} {ps : List Int} {K : List Int}
theorem c_lgain0 (hl : b.length ≤ 6) (h : Q (.int (gainN b ps)) false pn) : WC F__law_gain [bidD b, intsD ps] pn Q := by
  refine w_run ?_
  unfold ir__law_gain
  (repeat' first | fail | refine' w1_ite ?_)
  refine wlc_map (xs := b.zip ps) (g := fun q => .tuple [optD q.1, .int q.2]) (p := fun q => q.1.isSome) (f := fun q => .int (q.1.getD 0 - q.2)) it_zip2 rfl (lenOk (by rw [List.length_zip]; omega)) (fun q hq => ?_) rfl ?_
  · obtain ⟨w, x⟩ := q
    cases w with
    | none =>
      (repeat' first | fail | refine' w1_ite ?_)
      exact ⟨fun z => (by cases z), fun _ => rfl⟩
    | some u =>
      (repeat' first | fail | refine' w1_ite ?_)
      refine ⟨fun _ => ?_, fun z => by cases z⟩
      (repeat' first | fail | refine' w1_ite ?_)
  · (repeat' first | fail | refine' w1_ite ?_)
    have e : ((b.zip ps).filter fun q => q.1.isSome).map (fun q => PyData.int (q.1.getD 0 - q.2)) = (difs b ps).map .int := by
      unfold difs
      generalize b.zip ps = l
      induction l with
      | nil => rfl
      | cons q l ih =>
        obtain ⟨w, x⟩ := q
        cases w with
        | none => rw [List.filter_cons_of_neg (by simp), List.filterMap_cons_none rfl, ih]
        | some u =>
          rw [List.filter_cons_of_pos (by rfl), List.map_cons, ih]
          simp only [List.filterMap_cons, Option.map_some, List.map_cons]
          rfl
    rw [e]
    have hd : (difs b ps).length ≤ 6 := by
      have := List.length_filterMap_le (fun q : Option Int × Int => q.1.map fun w => w - q.2) (b.zip ps)
      rw [List.length_zip] at this
      unfold difs
      omega
    refine d_addL (by rw [sizeL, List.length_map, List.length_singleton]; omega) ?_
    rw [show [PyData.int 0] ++ (difs b ps).map PyData.int = ([0] ++ difs b ps).map .int by rw [List.map_append]; rfl]
    (repeat' first | refine' f_maxL (ns := [0] ++ difs b ps) (by simp) ?_ | fail | refine' w1_ite ?_)
    rw [maxI_swap]
    exact h
theorem c_lbest0 (hl : b.length ≤ 6) (hp : ps.length = b.length) (h : Q (.list ((bestN b ps).map .int)) true pn) : WC F__law_best [bidD b, intsD ps] pn Q :=
  best_loop hl hp (fun q => c_lgain0 hl q) h
def bestD (ps : List Int) (b : List (Option Int)) : D := .tuple [.int (gainN b ps), .list ((bestN b ps).map .int)]
def bestsD (m : Mkt) (ps : List Int) : D := .list (m.bids.map (bestD ps))
theorem c_lbests (hm : MktOk m) (hp : ps.length = m.seats.length) (h : Q (bestsD m ps) true pn) : WC F__law_bests [mktD m, intsD ps] pn Q := by
  have hmany := hm.many
  refine w_run ?_
  unfold ir__law_bests
  (repeat' first | fail)
  refine wlc_all (xs := m.bids) (g := bidD) (f := bestD ps) rfl rfl (lenOk (by omega)) (fun b hb => ?_) rfl ?_
  · obtain ⟨h1, h2⟩ := bid_len hm hb
    (repeat' first |  ((with_reducible show WC F__law_gain _ _ _); refine' c_lgain0 h1 ?_) | ((with_reducible show WC F__law_best _ _ _); refine' c_lbest0 h1 (by omega) ?_)  | fail)
  (repeat' first | fail)
  exact h
theorem sum_capM (K : List Int) : (K.map fun k => stAt m k).sum = capM m K := rfl
theorem cnt_step {α : Type} {q : α → Bool} {xs : List α} {i : Nat} {x : α} (h : xs[i]? = some x) : (xs.take (i + 1)).countP q = (xs.take i).countP q + (q x).toNat := by
  rw [List.take_add_one, h, List.countP_append]
  cases h2 : q x <;> simp [h2]
theorem k_eqN {L : List Int} {Q : Bool → Prop} (h : Q (decide (L = []))) : WK .Eq (.list (L.map .int)) (.list []) Q := by
  refine k_eq (okEq_of good_list (by simp [good, goods])) ?_
  have : PyData.eqv (.list (L.map .int)) (.list []) = decide (L = []) := by
    cases L with
    | nil => simp [PyData.eqv, PyData.eqvAll]
    | cons a l => simp [PyData.eqv, PyData.eqvAll]
  rw [this]; exact h
theorem k_neN0 {L : List Int} {Q : Bool → Prop} (h : Q (!decide (L = []))) : WK .NotEq (.list (L.map .int)) (.list []) Q := by
  refine k_ne (okEq_of good_list (by simp [good, goods])) ?_
  have : PyData.eqv (.list (L.map .int)) (.list []) = decide (L = []) := by
    cases L with
    | nil => simp [PyData.eqv, PyData.eqvAll]
    | cons a l => simp [PyData.eqv, PyData.eqvAll]
  rw [this]; exact h
theorem none_out {l K : List Int} : decide ((l.filter fun k => !decide (k ∈ K)) = []) = l.all fun k => decide (k ∈ K) := by
  cases z : l.all fun k => decide (k ∈ K) with
  | true =>
    rw [List.all_eq_true] at z
    exact decide_eq_true (List.filter_eq_nil_iff.mpr fun k hk => by simp [of_decide_eq_true (z k hk)])
  | false =>
    rw [List.all_eq_false] at z
    obtain ⟨k, hk, hn⟩ := z
    exact decide_eq_false fun e => by
      have := List.filter_eq_nil_iff.mp e k hk
      simp at this hn
      exact hn this
theorem some_in {l K : List Int} : (!decide ((l.filter fun k => decide (k ∈ K)) = [])) = l.any fun k => decide (k ∈ K) := by
  cases z : l.any fun k => decide (k ∈ K) with
  | true =>
    rw [List.any_eq_true] at z
    obtain ⟨k, hk, hn⟩ := z
    rw [decide_eq_false fun e => List.filter_eq_nil_iff.mp e k hk hn]; rfl
  | false =>
    rw [List.any_eq_false] at z
    rw [decide_eq_true (List.filter_eq_nil_iff.mpr fun k hk => z k hk)]; rfl
theorem c_lexcess (hm : MktOk m) (hK : ∀ k ∈ K, 0 ≤ k ∧ k < m.seats.length) (hl : K.length ≤ 1000) (h : Q (.int (exN m ps K)) false pn) : WC F__law_excess [mktD m, bestsD m ps, intsD K] pn Q := by
  have hmany := hm.many
  refine w_run ?_
  unfold ir__law_excess
  (repeat' first | refine' wlc_all (xs := K) (g := .int) (f := fun k => .int (stAt m k)) rfl ?_ (lenOk (by omega)) (fun k hk => ?_) ?_ ?_ | refine' wi_seat hm (hK _ ‹_›) ?_ | refine' f_sumM (xs := K) (p := stAt m) ?_ | fail)
  rw [sum_capM]
  refine wfor_M (xs := m.bids) (g := bestD ps) (fun i s => ∃ (v : Int) (x4 x5 : Option (D × Bool)), v = 0 - capM m K + ((m.bids.take i).countP (exB ps fun k => decide (k ∈ K)) : Nat) ∧ s = ⟨[some (mktD m, false), some (bestsD m ps, false), some (intsD K, false), some (.int v, false), x4, x5, none], pn⟩) rfl ⟨0 - capM m K, none, none, by simp, rfl⟩ ?_ ?_
  · rintro i b s hi ⟨v, x4, x5, hv, rfl⟩
    have hbl := bestN_lenM (ps := ps) hm (List.mem_of_getElem? hi)
    have hst := cnt_step (q := exB ps fun k => decide (k ∈ K)) hi
    (repeat' first | fail)
    refine w1_ite (wb_and ?_)
    (repeat' first | fail)
    refine ⟨fun z => ?_, fun z => ?_⟩
    · refine wb_and1 ?_
      (repeat' first | fail)
      refine wlc_map (xs := bestN b ps) (g := .int) (p := fun k => !decide (k ∈ K)) (f := .int) rfl rfl (lenOk (by omega)) (fun k hk => ?_) rfl ?_
      · (repeat' first | fail)
        refine ⟨fun _ => ?_, fun _ => rfl⟩
        (repeat' first | fail)
      (repeat' first | fail)
      refine k_eqN ?_
      rw [none_out]
      have e : exB ps (fun k => decide (k ∈ K)) b = (bestN b ps).all fun k => decide (k ∈ K) := by
        unfold exB
        rw [z, Bool.true_and]
      rw [← e]
      (repeat' first | fail)
      refine ⟨fun z2 => ?_, fun z2 => ?_⟩
      · (repeat' first | fail)
        exact ⟨v + 1, _, _, by rw [hst, z2]; simp only [Bool.toNat_true]; omega, rfl⟩
      · (repeat' first | fail)
        exact ⟨v, _, _, by rw [hst, z2]; simp only [Bool.toNat_false]; omega, rfl⟩
    · refine ⟨fun z2 => (by cases z2), fun _ => ?_⟩
      (repeat' first | fail)
      have e : exB ps (fun k => decide (k ∈ K)) b = false := by
        unfold exB
        rw [z, Bool.false_and]
      exact ⟨v, _, _, by rw [hst, e]; simp only [Bool.toNat_false]; omega, rfl⟩
  · rintro s ⟨v, x4, x5, hv, rfl⟩
    rw [List.take_length] at hv
    (repeat' first | fail)
    rw [show v = exN m ps K by unfold exN; omega]
    exact h
theorem c_lidleness (hm : MktOk m) (hK : ∀ k ∈ K, 0 ≤ k ∧ k < m.seats.length) (hl : K.length ≤ 1000) (h : Q (.int (idN m ps K)) false pn) : WC F__law_idleness [mktD m, bestsD m ps, intsD K] pn Q := by
  have hmany := hm.many
  refine w_run ?_
  unfold ir__law_idleness
  (repeat' first | refine' wlc_all (xs := K) (g := .int) (f := fun k => .int (stAt m k)) rfl ?_ (lenOk (by omega)) (fun k hk => ?_) ?_ ?_ | refine' wi_seat hm (hK _ ‹_›) ?_ | refine' f_sumM (xs := K) (p := stAt m) ?_ | fail)
  rw [sum_capM]
  refine wfor_M (xs := m.bids) (g := bestD ps) (fun i s => ∃ (v : Int) (x4 x5 : Option (D × Bool)), v = capM m K - ((m.bids.take i).countP (idB ps fun k => decide (k ∈ K)) : Nat) ∧ s = ⟨[some (mktD m, false), some (bestsD m ps, false), some (intsD K, false), some (.int v, false), x4, x5, none], pn⟩) rfl ⟨capM m K, none, none, by simp, rfl⟩ ?_ ?_
  · rintro i b s hi ⟨v, x4, x5, hv, rfl⟩
    have hbl := bestN_lenM (ps := ps) hm (List.mem_of_getElem? hi)
    have hst := cnt_step (q := idB ps fun k => decide (k ∈ K)) hi
    (repeat' first | fail)
    refine w1_ite ?_
    (repeat' first | fail)
    refine wlc_map (xs := bestN b ps) (g := .int) (p := fun k => decide (k ∈ K)) (f := .int) rfl rfl (lenOk (by omega)) (fun k hk => ?_) rfl ?_
    · (repeat' first | fail)
      refine ⟨fun _ => ?_, fun _ => rfl⟩
      (repeat' first | fail)
    (repeat' first | fail)
    refine k_neN0 ?_
    rw [some_in]
    show WV (.bool (idB ps (fun k => decide (k ∈ K)) b)) _
    (repeat' first | fail)
    refine ⟨fun z2 => ?_, fun z2 => ?_⟩
    · (repeat' first | fail)
      exact ⟨v - 1, _, _, by rw [hst, z2]; simp only [Bool.toNat_true]; omega, rfl⟩
    · (repeat' first | fail)
      exact ⟨v, _, _, by rw [hst, z2]; simp only [Bool.toNat_false]; omega, rfl⟩
  · rintro s ⟨v, x4, x5, hv, rfl⟩
    rw [List.take_length] at hv
    (repeat' first | fail)
    rw [show v = idN m ps K from hv]
    exact h
def headR (K : List Int) : Int × List Int := (K.headD 0, K.tail)
def srtK (Ks : List (List Int)) : List (List Int) := (srtR (Ks.map headR)).map fun r => r.1 :: r.2
theorem rowsOf_K : ∀ {Ks : List (List Int)}, (∀ K ∈ Ks, K ≠ []) → rowsOf (Ks.map intsD) = some (Ks.map headR)
  | [], _ => rfl
  | K :: Ks, h => by
    have h1 := h K (by simp)
    have ih := rowsOf_K fun J hJ => h J (List.mem_cons_of_mem _ hJ)
    cases K with
    | nil => exact absurd rfl h1
    | cons a l =>
      show (rowOf (.tuple (.int a :: l.map .int))).bind _ = _
      have : rowOf (.tuple (.int a :: l.map .int)) = some (a, l) := by
        show (intsOf (l.map .int)).map _ = _
        rw [intsOf_map]; rfl
      rw [this]
      show (rowsOf (Ks.map intsD)).map _ = _
      rw [ih]; rfl
theorem srtK_mem {Ks : List (List Int)} (h : ∀ K ∈ Ks, K ≠ []) {K : List Int} : K ∈ srtK Ks ↔ K ∈ Ks := by
  unfold srtK srtR
  rw [List.mem_map]
  constructor
  · rintro ⟨r, hr, rfl⟩
    have hr := (List.mergeSort_perm _ _).mem_iff.mp hr
    obtain ⟨J, hJ, rfl⟩ := List.mem_map.mp hr
    have := h J hJ
    cases J with
    | nil => exact absurd rfl this
    | cons a l => exact hJ
  · intro hK
    refine ⟨headR K, (List.mergeSort_perm _ _).mem_iff.mpr (List.mem_map.mpr ⟨K, hK, rfl⟩), ?_⟩
    have := h K hK
    cases K with
    | nil => exact absurd rfl this
    | cons a l => rfl
theorem srtK_len (Ks : List (List Int)) : (srtK Ks).length = Ks.length := by
  unfold srtK srtR
  rw [List.length_map, List.length_mergeSort, List.length_map]
theorem good_Ks (Ks : List (List Int)) : good 60 (.list (Ks.map intsD)) = true := by
  rw [good]
  refine goods_of fun x hx => ?_
  obtain ⟨K, _, rfl⟩ := List.mem_map.mp hx
  unfold intsD; rw [good, goods_ints]
theorem f_srtK {Ks : List (List Int)} {Q : D → Tg → Prop} (hn : ∀ K ∈ Ks, K ≠ []) (h1 : ∃ L, Ks = [0] :: L) (h : Q (.list ((srtK Ks).map intsD)) .fresh) : WF .srt [.list (Ks.map intsD)] Q := by
  refine ⟨(.list ((srtK Ks).map intsD), true), ?_, h⟩
  show (srtD (Ks.map intsD)).map _ = _
  have e1 : intsOf (Ks.map intsD) = none := by
    obtain ⟨L, rfl⟩ := h1
    rfl
  have e2 : pairsOf (Ks.map intsD) = none := by
    obtain ⟨L, rfl⟩ := h1
    rfl
  unfold srtD
  rw [e1, e2]
  dsimp only
  rw [rowsOf_K hn]
  show (if good 60 (.list (Ks.map intsD)) = true then _ else _ : Option (List D)).map _ = _
  rw [good_Ks, if_pos rfl]
  have : (srtR (Ks.map headR)).map rowE = (srtK Ks).map intsD := by
    unfold srtK
    rw [List.map_map]; rfl
  rw [this]; rfl
theorem sets_first : ∀ {n : Nat}, 1 ≤ n → ∃ L, setsN n = [0] :: L
  | 1, _ => ⟨[], rfl⟩
  | n + 2, _ => by
    obtain ⟨L, e⟩ := sets_first (n := n + 1) (by omega)
    obtain ⟨h1, _⟩ := choices_cons (n + 1)
    have : setsN (n + 2) = setsN (n + 1) ++ (choices (n + 1)).map (· ++ [((n + 1 : Nat) : Int)]) := by
      show (choices (n + 2)).drop 1 = _
      rw [choices]
      conv => lhs; arg 2; lhs; rw [h1]
      rfl
    rw [this, e]
    exact ⟨_, rfl⟩
theorem c_lsets {n : Nat} (hn : 1 ≤ n ∧ n ≤ 6) (h : Q (.list ((srtK (setsN n)).map intsD)) true pn) : WC F__law_sets_v1 [.int (n : Nat)] pn Q := by
  refine w_run ?_
  unfold ir__law_sets_v1
  (repeat' first | fail)
  refine ⟨by omega, ?_⟩
  refine wfor_rng (fun i s => ∃ x2, s = ⟨[some (.int (n : Nat), false), some (.list ((choices i).map intsD), true), x2, none], pn⟩) ⟨none, rfl⟩ ?_ ?_
  · rintro i s hi ⟨x2, rfl⟩
    have hi6 : i ≤ 6 := by omega
    have h1 := choices_le (m := i) (by omega)
    (repeat' first | fail)
    refine wlc_all (xs := choices i) (g := intsD) (f := fun K => intsD (K ++ [(i : Int)])) rfl rfl (lenOk (by omega)) (fun K hK => ?_) rfl ?_
    · have := lenK hi6 hK
      (repeat' first | refine' d_addT (by rw [sizeL, List.length_map]; simp; omega) ?_ | fail)
      rw [show K.map PyData.int ++ [PyData.int (i : Nat)] = (K ++ [(i : Int)]).map .int by rw [List.map_append]; rfl]
      exact ⟨rfl, rfl⟩
    (repeat' first | refine' d_addL (by rw [sizeL, List.length_map, List.length_map]; omega) ?_ | fail)
    refine ⟨some (.int (i : Nat), false), ?_⟩
    rw [choices, List.map_append, List.map_map]
    rfl
  · rintro s ⟨x2, rfl⟩
    rw [Int.toNat_natCast]
    (repeat' first | refine' slF_L (by decide) ?_ | fail)
    rw [← List.map_drop]
    refine f_srtK (Ks := setsN n) (fun K hK => (sets_iff.mp hK).2) (sets_first hn.1) ?_
    (repeat' first | fail)
    exact h
theorem headD_mem {α : Type} {L : List α} (d : α) (h : L ≠ []) : L[0]? = some (L.headD d) := by
  cases L with
  | nil => exact absurd rfl h
  | cons a l => rfl
theorem k_eqLL {L : List (List Int)} {Q : Bool → Prop} (h : Q (decide (L = []))) : WK .Eq (.list (L.map intsD)) (.list []) Q := by
  refine k_eq (okEq_of (good_Ks L) (by simp [good, goods])) ?_
  have : PyData.eqv (.list (L.map intsD)) (.list []) = decide (L = []) := by
    cases L with
    | nil => simp [PyData.eqv, PyData.eqvAll]
    | cons a l => simp [PyData.eqv, PyData.eqvAll]
  rw [this]; exact h
theorem none_without {L : List (List Int)} {k : Int} : decide ((L.filter fun K => !decide (k ∈ K)) = []) = L.all fun K => decide (k ∈ K) := by
  cases z : L.all fun K => decide (k ∈ K) with
  | true =>
    rw [List.all_eq_true] at z
    exact decide_eq_true (List.filter_eq_nil_iff.mpr fun K hK => by simp [of_decide_eq_true (z K hK)])
  | false =>
    rw [List.all_eq_false] at z
    obtain ⟨K, hK, hn⟩ := z
    exact decide_eq_false fun e => by
      have := List.filter_eq_nil_iff.mp e K hK
      simp at this hn
      exact hn this
theorem c_linmost {f : List Int → Int} {Ks : List (List Int)} (hl : Ks.length ≤ 100) (hk : ∀ K ∈ Ks, K.length ≤ 6) (h : Q (inmD (inmN f Ks)) false pn) : WC F__law_inmost [.list (Ks.map (rowK f))] pn Q := by
  refine w_run ?_
  unfold ir__law_inmost
  (repeat' first | fail)
  refine wlc_all (xs := Ks) (g := rowK f) (f := fun K => .int (f K)) rfl rfl (lenOk (by omega)) (fun K hK => ?_) rfl ?_
  · (repeat' first | fail)
  rw [show (Ks.map fun K => PyData.int (f K)) = (Ks.map f).map .int from (List.map_map ..).symm]
  (repeat' first | refine' d_addL (by rw [sizeL, List.length_map, List.length_map]; simp; omega) ?_ | fail)
  rw [show [PyData.int 0] ++ (Ks.map f).map PyData.int = ([0] ++ Ks.map f).map .int by rw [List.map_append]; rfl]
  (repeat' first | refine' f_maxL (by simp) ?_ | fail)
  rw [maxI_swap]
  show W1 _ ⟨[some (.list (Ks.map (rowK f)), false), some (.int (topN f Ks), false), none, none, none, none, none], pn⟩ _ _
  by_cases z : topN f Ks = 0
  · have e : inmN f Ks = none := if_pos z
    rw [e] at h
    rw [z]
    refine w1_iteT ?_
    (repeat' first | fail)
    exact h
  · have e : inmN f Ks = some (((Ks.filter fun K => decide (f K = topN f Ks)).headD []).filter fun k => (Ks.filter fun K => decide (f K = topN f Ks)).all fun K => decide (k ∈ K)) := if_neg z
    rw [e] at h
    obtain ⟨K1, hK1, e1⟩ := top_mem z
    have hne : Ks.filter (fun K => decide (f K = topN f Ks)) ≠ [] := fun e => by
      have : K1 ∈ Ks.filter fun K => decide (f K = topN f Ks) := List.mem_filter.mpr ⟨hK1, decide_eq_true e1⟩
      rw [e] at this; cases this
    have hLl := List.length_filter_le (fun K => decide (f K = topN f Ks)) Ks
    have hL6 : ∀ K ∈ Ks.filter (fun K => decide (f K = topN f Ks)), K.length ≤ 6 := fun K hK => hk K (List.mem_filter.mp hK).1
    refine w1_iteF ?_
    (repeat' first | fail)
    refine ⟨decide_eq_false z, ?_⟩
    (repeat' first | fail)
    refine wlc_map (xs := Ks) (g := rowK f) (p := fun K => decide (f K = topN f Ks)) (f := intsD) rfl rfl (lenOk (by omega)) (fun K hK => ?_) rfl ?_
    · (repeat' first | fail)
      refine ⟨fun _ => ?_, fun _ => rfl⟩
      (repeat' first | fail)
    generalize Ks.filter (fun K => decide (f K = topN f Ks)) = L at hne hLl hL6 h
    have h0 := headD_mem [] hne
    have hm0 : L.headD [] ∈ L := List.mem_of_getElem? h0
    have h06 := hL6 _ hm0
    (repeat' first | fail)
    refine wi_atL (d := intsD (L.headD [])) (by decide) (by rw [List.getElem?_map]; show (L[0]?).map _ = _; rw [h0]; rfl) ?_
    refine ⟨_, rfl, ?_⟩
    refine wlc_map (xs := L.headD []) (g := .int) (p := fun k => L.all fun K => decide (k ∈ K)) (f := .int) rfl rfl (lenOk (by omega)) (fun k hk => ?_) rfl ?_
    · (repeat' first | fail)
      refine wlc_map (xs := L) (g := intsD) (p := fun K => !decide (k ∈ K)) (f := intsD) rfl rfl (lenOk (by omega)) (fun K hK => ?_) rfl ?_
      · (repeat' first | fail)
        refine ⟨fun _ => ?_, fun _ => rfl⟩
        (repeat' first | fail)
      (repeat' first | fail)
      refine k_eqLL ?_
      rw [none_without]
      (repeat' first | fail)
      refine ⟨fun _ => ?_, fun _ => rfl⟩
      (repeat' first | fail)
    (repeat' first | fail)
    exact h
theorem c_lpressed (hm : MktOk m) (hp : ps.length = m.seats.length) (h : Q (inmD (pressN m ps)) false pn) : WC F__law_pressed_v1 [mktD m, intsD ps] pn Q := by
  have hlen := hm.len
  have hsl := sets_len ps.length (by omega)
  have hne : ∀ K ∈ setsN ps.length, K ≠ [] := fun K hK => (sets_iff.mp hK).2
  have hsame : ∀ K, K ∈ setsN ps.length ↔ K ∈ srtK (setsN ps.length) := fun K => (srtK_mem hne).symm
  have hkl : ∀ K ∈ srtK (setsN ps.length), (∀ k ∈ K, 0 ≤ k ∧ k < m.seats.length) ∧ K.length ≤ 6 := fun K hK => by
    obtain ⟨⟨k1, k2⟩, _⟩ := sets_iff.mp ((hsame K).mpr hK)
    have hKl := Ku.nodup_len (N := ps.length) (k1.imp fun h => by omega) k2
    exact ⟨by rw [← hp]; exact k2, by omega⟩
  refine w_run ?_
  unfold ir__law_pressed_v1
  (repeat' first |  ((with_reducible show WC F__law_bests _ _ _); refine' c_lbests hm hp ?_)  | fail)
  rw [List.length_map]
  refine c_lsets (by omega) ?_
  (repeat' first | fail)
  refine wlc_all (xs := srtK (setsN ps.length)) (g := intsD) (f := rowK (exN m ps)) rfl rfl (lenOk (by rw [srtK_len]; omega)) (fun K hK => ?_) rfl ?_
  · (repeat' first |  ((with_reducible show WC F__law_excess _ _ _); refine' c_lexcess hm (hkl K hK).1 (by have := (hkl K hK).2; omega) ?_)  | fail)
  (repeat' first | fail)
  refine c_linmost (by rw [srtK_len]; omega) (fun K hK => (hkl K hK).2) ?_
  (repeat' first | fail)
  have e : inmN (exN m ps) (srtK (setsN ps.length)) = pressN m ps := ((ex_fam hm hp fun K => Iff.rfl).same hsame).symm
  rw [e]
  generalize pressN m ps = o at h ⊢
  cases o <;> exact h
theorem filter_step {α : Type} {q : α → Bool} {xs : List α} {i : Nat} {x : α} (h : xs[i]? = some x) : (xs.take (i + 1)).filter q = (xs.take i).filter q ++ if q x = true then [x] else [] := by
  rw [List.take_add_one, h, List.filter_append]
  cases h2 : q x <;> simp [h2]
def noZero (ps : List Int) (K : List Int) : Bool := decide ((K.filter fun k => decide (ps.getD k.toNat 0 = 0)) = [])
theorem c_lslack (hm : MktOk m) (hp : PricesOk m ps) (h : Q (inmD (slackN m ps)) false pn) : WC F__law_slack_v1 [mktD m, intsD ps] pn Q := by
  have hlen := hm.len
  have hpl := hp.len
  have hsl := sets_len ps.length (by omega)
  have hne : ∀ K ∈ setsN ps.length, K ≠ [] := fun K hK => (sets_iff.mp hK).2
  have hkl : ∀ K ∈ srtK (setsN ps.length), (K.Pairwise (· < ·) ∧ ∀ k ∈ K, 0 ≤ k ∧ k < ps.length) ∧ K.length ≤ 6 := fun K hK => by
    obtain ⟨⟨k1, k2⟩, _⟩ := sets_iff.mp ((srtK_mem hne).mp hK)
    have hKl := Ku.nodup_len (N := ps.length) (k1.imp fun h => by omega) k2
    exact ⟨⟨k1, k2⟩, by omega⟩
  have hsame : ∀ K, K ∈ idleN ps ↔ K ∈ (srtK (setsN ps.length)).filter (noZero ps) := fun K => by
    rw [idle_iff, List.mem_filter, srtK_mem hne, sets_iff]
    unfold noZero
    rw [decide_eq_true_iff, List.filter_eq_nil_iff]
    constructor
    · rintro ⟨⟨h1, h2⟩, h3⟩
      exact ⟨⟨⟨h1, fun k hk => (h2 k hk).1⟩, h3⟩, fun k hk e => by
        have := of_decide_eq_true (h2 k hk).2
        rw [decide_eq_true_iff] at e
        omega⟩
    · rintro ⟨⟨⟨h1, h2⟩, h3⟩, h4⟩
      refine ⟨⟨h1, fun k hk => ⟨h2 k hk, decide_eq_true ?_⟩⟩, h3⟩
      have h5 := h4 k hk
      rw [decide_eq_true_iff] at h5
      have h6 := h2 k hk
      have : ps.getD k.toNat 0 ∈ ps := by
        rw [List.getD_eq_getElem?_getD, List.getElem?_eq_getElem (by omega)]
        exact List.getElem_mem _
      have := (hp.rg _ this).1
      omega
  refine w_run ?_
  unfold ir__law_slack_v1
  (repeat' first |  ((with_reducible show WC F__law_bests _ _ _); refine' c_lbests hm hp.len ?_)  | fail)
  rw [List.length_map]
  refine c_lsets (by omega) ?_
  (repeat' first | fail)
  refine wfor_M (xs := srtK (setsN ps.length)) (g := intsD) (fun i s => ∃ x4, s = ⟨[some (mktD m, false), some (intsD ps, false), some (.list ((((srtK (setsN ps.length)).take i).filter (noZero ps)).map (rowK (idN m ps))), true), some (bestsD m ps, true), x4, none], pn⟩) rfl ⟨none, rfl⟩ ?_ ?_
  · rintro i K s hi ⟨x4, rfl⟩
    obtain ⟨⟨k1, k2⟩, kl⟩ := hkl K (List.mem_of_getElem? hi)
    have hst := filter_step (q := noZero ps) hi
    have hfl := List.length_filter_le (noZero ps) ((srtK (setsN ps.length)).take i)
    rw [List.length_take, srtK_len] at hfl
    (repeat' first | fail)
    refine w1_ite ?_
    (repeat' first | fail)
    refine wlc_map (xs := K) (g := .int) (p := fun k => decide (ps.getD k.toNat 0 = 0)) (f := .int) rfl rfl (lenOk (by omega)) (fun k hk => ?_) rfl ?_
    · have := k2 k hk
      (repeat' first | fail)
      refine wi_atT (d := .int (ps.getD k.toNat 0)) (decide_eq_true this.1) ?_ ?_
      · rw [List.getElem?_map, List.getElem?_eq_getElem (by omega), List.getD_eq_getElem?_getD, List.getElem?_eq_getElem (by omega)]; rfl
      (repeat' first | fail)
      refine ⟨fun _ => ?_, fun _ => rfl⟩
      (repeat' first | fail)
    (repeat' first | fail)
    refine k_eqN ?_
    show WV (.bool (noZero ps K)) _
    (repeat' first | fail)
    refine ⟨fun z => ?_, fun z => ?_⟩
    · rw [if_pos z] at hst
      (repeat' first | fail)
      refine c_lidleness hm (by rw [← hp.len]; exact k2) (by omega) ?_
      (repeat' first | fail)
      refine ⟨by rw [sizeL, List.length_map]; omega, ?_⟩
      (repeat' first | fail)
      refine ⟨some (intsD K, false), ?_⟩
      rw [hst, List.map_append]
      rfl
    · rw [if_neg (by rw [z]; decide), List.append_nil] at hst
      (repeat' first | fail)
      exact ⟨some (intsD K, false), by rw [hst]; rfl⟩
  · rintro s ⟨x4, rfl⟩
    have hfl := List.length_filter_le (noZero ps) (srtK (setsN ps.length))
    rw [srtK_len] at hfl
    rw [List.take_length]
    (repeat' first | fail)
    refine c_linmost (Ks := (srtK (setsN ps.length)).filter (noZero ps)) (by omega) (fun K hK => (hkl K (List.mem_filter.mp hK).1).2) ?_
    (repeat' first | fail)
    have e : inmN (idN m ps) ((srtK (setsN ps.length)).filter (noZero ps)) = slackN m ps := ((id_fam hm hp.len fun K => Iff.rfl).same hsame).symm
    rw [e]
    generalize slackN m ps = o at h ⊢
    cases o <;> exact h
theorem pr_const {m : Mkt} (hm : MktOk m) {c : Int} (hc : 0 ≤ c ∧ c ≤ 200) : PricesOk m (List.replicate m.seats.length c) := ⟨by simp, fun n hn => by rw [(List.mem_replicate.mp hn).2]; exact hc⟩
theorem rep_const (n : Nat) (c : Int) : PyData.tuple (List.replicate n [PyData.int c]).flatten = intsD (List.replicate n c) := by
  unfold intsD
  congr 1
  induction n with
  | zero => rfl
  | succ n ih => rw [List.replicate_succ, List.flatten_cons, ih, List.replicate_succ, List.map_cons]; rfl
theorem hlaw (cells : List Int) : ∃ s1, evalSs irr_law (lawS 8 ⟨cells, 0, 0⟩) = some (.ret (.bool true) false, s1) := by
  refine law_of ?_
  unfold irr_law
  (repeat' first | fail | refine' w1_ite ?_)
  refine ⟨by omega, ?_⟩
  refine wfor_rng (fun i s => ∃ x2 x3 x4 x5 x6 p, s = ⟨[none, pen, x2, x3, x4, x5, x6, none], some p⟩ ∧ 0 ≤ p.a ∧ p.a ≤ 1000 * i) ⟨_, _, _, _, _, ⟨cells, 0, 0⟩, rfl, by show (0 : Int) ≤ 0; omega, by show (0 : Int) ≤ _; omega⟩ ?_ ?_
  · rintro i s hi ⟨x2, x3, x4, x5, x6, p, rfl, a0, a1⟩
    (repeat' first |  ((with_reducible show WC FAnew _ _ _); refine' c_anew (fun p1 h1 => ?_))  | fail)
    refine c_ldmarket (by decide) (by omega) fun m p2 hm hmb h2 h3 => ?_
    have hml := hm.len
    (repeat' first | refine' f_lenN ?_ | refine' d_mulT (by simp; omega) ?_ | fail)
    rw [Int.toNat_natCast, rep_const, rep_const]
    refine ⟨by omega, ?_⟩
    refine wlc_inv (fun j acc s => ∃ (pss : List (List Int)) (p' : Pn), acc = pss.map intsD ∧ pss.length = j ∧ (∀ ps ∈ pss, PricesOk m ps) ∧ s = ⟨[none, pen, some (.int (i : Nat), false), some (mktD m, false), some (.list [intsD (List.replicate m.seats.length 0), intsD (List.replicate m.seats.length 200)], true), x5, x6, none], some p'⟩ ∧ p2.a ≤ p'.a ∧ p'.a ≤ p2.a + 40 * j) rfl (lenOk (by rw [List.length_map, List.length_range]; omega)) ⟨[], p2, rfl, rfl, by simp, rfl, by omega, by omega⟩ ?_ ?_
    · rintro j x acc s hx ⟨pss, p3, rfl, hl, hps, rfl, b0, b1⟩
      rw [List.getElem?_map] at hx
      obtain ⟨y, hy, rfl⟩ := Option.map_eq_some_iff.mp hx
      have hj := (List.getElem?_eq_some_iff.mp hy).1
      rw [List.length_range] at hj
      (repeat' first | fail)
      refine ⟨fun _ => ?_, fun z => by cases z⟩
      (repeat' first |  ((with_reducible show WC FAnew _ _ _); refine' c_anew (fun p4 h4 => ?_))  | fail)
      refine c_ldprices hm (by omega) fun ps p5 hp h5 h6 => ?_
      (repeat' first | fail)
      exact ⟨pss ++ [ps], p5, by rw [List.map_append]; rfl, by rw [List.length_append, hl]; rfl, on_all hps hp, rfl, by omega, by omega⟩
    · rintro ds s ⟨pss, p3, rfl, hl, hps, rfl, b0, b1⟩
      rw [List.length_map, List.length_range] at hl b1
      (repeat' first | refine' d_addL (by rw [sizeL, List.length_map]; simp; omega) ?_ | fail)
      refine wfor_M (xs := [List.replicate m.seats.length 0, List.replicate m.seats.length 200] ++ pss) (g := intsD) (fun j s => ∃ x5 x6, s = ⟨[none, pen, some (.int (i : Nat), false), some (mktD m, false), some (.list [intsD (List.replicate m.seats.length 0), intsD (List.replicate m.seats.length 200)], true), x5, x6, none], some p3⟩) (by rw [List.map_append]; rfl) ⟨_, _, rfl⟩ ?_ ?_
      · rintro j ps s hj ⟨x5, x6, rfl⟩
        have hp : PricesOk m ps := by
          have := List.mem_of_getElem? hj
          rcases List.mem_append.mp this with h | h
          · simp only [List.mem_cons, List.not_mem_nil, or_false] at h
            rcases h with rfl | rfl
            · exact pr_const hm (by omega)
            · exact pr_const hm (by omega)
          · exact hps ps h
        have hS := smn_2 (smn_mkt hm) ((smn_prices hm hp).mono (n := 2) (m := 4) (by decide) (by decide))
        have hR1 : Smn 2 1000 (inmD (pressN m ps)) := smn_inm fun K e => by
          obtain ⟨⟨_, h1⟩, h2⟩ := press_rg hm hp.len e
          refine ⟨h2, fun k hk => ?_⟩
          have := h1 k hk
          have := hp.len
          omega
        have hR2 : Smn 2 1000 (inmD (slackN m ps)) := smn_inm fun K e => by
          obtain ⟨⟨_, h1⟩, h2⟩ := slack_rg hm hp.len e
          refine ⟨h2, fun k hk => ?_⟩
          have := (h1 k hk).1
          have := hp.len
          omega
        (repeat' first | refine' f_repr (repr_ok hS (by decide) (by decide)) ?_ | fail)
        refine w1_iteF ?_
        (repeat' first | fail)
        refine c_pressed_kinds hm hp ?_
        (repeat' first | refine' f_repr (repr_ok hR1 (by decide) (by decide)) ?_ | fail)
        rw [cst_fzs (ts := [.fz, .fz]) rfl]
        (repeat' first | fail)
        refine c_lpressed hm hp.len ?_
        rw [cst_fzs (ts := [.fz, .fz]) rfl]
        (repeat' first | refine' f_repr (repr_ok hR1 (by decide) (by decide)) ?_ | refine' k_ne rfl ?_ | fail)
        refine ⟨by rw [eqv_strS]; rfl, ?_⟩
        (repeat' first | fail)
        refine w1_iteF ?_
        (repeat' first | fail)
        refine c_slack_kinds hm hp ?_
        (repeat' first | refine' f_repr (repr_ok hR2 (by decide) (by decide)) ?_ | fail)
        rw [cst_fzs (ts := [.fz, .fz]) rfl]
        (repeat' first | fail)
        refine c_lslack hm hp ?_
        rw [cst_fzs (ts := [.fz, .fz]) rfl]
        (repeat' first | refine' f_repr (repr_ok hR2 (by decide) (by decide)) ?_ | refine' k_ne rfl ?_ | fail)
        refine ⟨by rw [eqv_strS]; rfl, ?_⟩
        (repeat' first | fail)
        refine w1_iteF ?_
        (repeat' first | refine' f_repr (repr_ok hS (by decide) (by decide)) ?_ | refine' k_ne rfl ?_ | fail)
        refine ⟨by rw [eqv_strS]; rfl, ?_⟩
        (repeat' first | fail)
        exact ⟨_, _, rfl⟩
      · rintro s ⟨x5, x6, rfl⟩
        (repeat' first | fail)
        exact ⟨_, _, _, _, _, p3, rfl, by omega, by omega⟩
  · rintro s ⟨x2, x3, x4, x5, x6, p, rfl, a0, a1⟩
    (repeat' first | fail | refine' w1_ite ?_)
end
end K1

open PySem PySem.W PyProof.Rows
set_option maxRecDepth 1000000 in
set_option maxHeartbeats 0 in
theorem PySem.Challenge.cw_floatseats_k92_pressed_and_slack_kinds_holds : PySem.Challenge.rw_floatseats_k92_pressed_and_slack_kinds.Holds := by
  w_on; o_law; k_head; (case hw => w_witness2)
  k_fill
  refine Fs.walk_law (l := PySem.Challenge.rw_floatseats_k92_pressed_and_slack_kinds) (k := 7) (x0 := "_law_script") rfl rfl ⟨rfl, by decide, by decide⟩ (fun w h Y => PySem.W.kIn_of Y) ?F
  case F =>
    intro w mg fa h KX G hmg
    have d__law_open : Fs.DefAt (L2.KOf KX) mg "_law_open" K1.st__law_open := by
      refine' Fs.defAt_mk KX G ?a ?l ?c ?k
      (case a => k_is); (case l => k_is); (case c => k_is); (case k => k_is)
    have d__law_spread : Fs.DefAt (L2.KOf KX) mg "_law_spread" K1.st__law_spread := by
      refine' Fs.defAt_mk KX G ?a ?l ?c ?k
      (case a => k_is); (case l => k_is); (case c => k_is); (case k => k_is)
    have d__law_take : Fs.DefAt (L2.KOf KX) mg "_law_take" K1.st__law_take := by
      refine' Fs.defAt_mk KX G ?a ?l ?c ?k
      (case a => k_is); (case l => k_is); (case c => k_is); (case k => k_is)
    have d__law_one : Fs.DefAt (L2.KOf KX) mg "_law_one" K1.st__law_one := by
      refine' Fs.defAt_mk KX G ?a ?l ?c ?k
      (case a => k_is); (case l => k_is); (case c => k_is); (case k => k_is)
    have d__law_drawn_bid : Fs.DefAt (L2.KOf KX) mg "_law_drawn_bid" K1.st__law_drawn_bid := by
      refine' Fs.defAt_mk KX G ?a ?l ?c ?k
      (case a => k_is); (case l => k_is); (case c => k_is); (case k => k_is)
    have d__law_anew : Fs.DefAt (L2.KOf KX) mg "_law_anew" K1.st__law_anew := by
      refine' Fs.defAt_mk KX G ?a ?l ?c ?k
      (case a => k_is); (case l => k_is); (case c => k_is); (case k => k_is)
    have d__law_drawn_market : Fs.DefAt (L2.KOf KX) mg "_law_drawn_market" K1.st__law_drawn_market := by
      refine' Fs.defAt_mk KX G ?a ?l ?c ?k
      (case a => k_is); (case l => k_is); (case c => k_is); (case k => k_is)
    have d__law_drawn_prices : Fs.DefAt (L2.KOf KX) mg "_law_drawn_prices" K1.st__law_drawn_prices := by
      refine' Fs.defAt_mk KX G ?a ?l ?c ?k
      (case a => k_is); (case l => k_is); (case c => k_is); (case k => k_is)
    have d_is_integer : Fs.DefAt (L2.KOf KX) mg "is_integer" K1.st_is_integer := by
      refine' Fs.defAt_mk KX G ?a ?l ?c ?k
      (case a => k_is); (case l => k_is); (case c => k_is); (case k => k_is)
    have d_is_between : Fs.DefAt (L2.KOf KX) mg "is_between" K1.st_is_between := by
      refine' Fs.defAt_mk KX G ?a ?l ?c ?k
      (case a => k_is); (case l => k_is); (case c => k_is); (case k => k_is)
    have d_are_market_seats : Fs.DefAt (L2.KOf KX) mg "are_market_seats" K1.st_are_market_seats := by
      refine' Fs.defAt_mk KX G ?a ?l ?c ?k
      (case a => k_is); (case l => k_is); (case c => k_is); (case k => k_is)
    have d_is_bid : Fs.DefAt (L2.KOf KX) mg "is_bid" K1.st_is_bid := by
      refine' Fs.defAt_mk KX G ?a ?l ?c ?k
      (case a => k_is); (case l => k_is); (case c => k_is); (case k => k_is)
    have d_is_market : Fs.DefAt (L2.KOf KX) mg "is_market" K1.st_is_market := by
      refine' Fs.defAt_mk KX G ?a ?l ?c ?k
      (case a => k_is); (case l => k_is); (case c => k_is); (case k => k_is)
    have d_require_market : Fs.DefAt (L2.KOf KX) mg "require_market" K1.st_require_market := by
      refine' Fs.defAt_mk KX G ?a ?l ?c ?k
      (case a => k_is); (case l => k_is); (case c => k_is); (case k => k_is)
    have d_is_prices_of : Fs.DefAt (L2.KOf KX) mg "is_prices_of" K1.st_is_prices_of := by
      refine' Fs.defAt_mk KX G ?a ?l ?c ?k
      (case a => k_is); (case l => k_is); (case c => k_is); (case k => k_is)
    have d_require_prices : Fs.DefAt (L2.KOf KX) mg "require_prices" K1.st_require_prices := by
      refine' Fs.defAt_mk KX G ?a ?l ?c ?k
      (case a => k_is); (case l => k_is); (case c => k_is); (case k => k_is)
    have d_find_gain : Fs.DefAt (L2.KOf KX) mg "find_gain" K1.st_find_gain := by
      refine' Fs.defAt_mk KX G ?a ?l ?c ?k
      (case a => k_is); (case l => k_is); (case c => k_is); (case k => k_is)
    have d_find_best : Fs.DefAt (L2.KOf KX) mg "find_best" K1.st_find_best := by
      refine' Fs.defAt_mk KX G ?a ?l ?c ?k
      (case a => k_is); (case l => k_is); (case c => k_is); (case k => k_is)
    have d_find_wishes : Fs.DefAt (L2.KOf KX) mg "find_wishes" K1.st_find_wishes := by
      refine' Fs.defAt_mk KX G ?a ?l ?c ?k
      (case a => k_is); (case l => k_is); (case c => k_is); (case k => k_is)
    have d_find_inmost : Fs.DefAt (L2.KOf KX) mg "find_inmost" K1.st_find_inmost := by
      refine' Fs.defAt_mk KX G ?a ?l ?c ?k
      (case a => k_is); (case l => k_is); (case c => k_is); (case k => k_is)
    have d_count_seats : Fs.DefAt (L2.KOf KX) mg "count_seats" K1.st_count_seats := by
      refine' Fs.defAt_mk KX G ?a ?l ?c ?k
      (case a => k_is); (case l => k_is); (case c => k_is); (case k => k_is)
    have d_excess_by : Fs.DefAt (L2.KOf KX) mg "excess_by" K1.st_excess_by := by
      refine' Fs.defAt_mk KX G ?a ?l ?c ?k
      (case a => k_is); (case l => k_is); (case c => k_is); (case k => k_is)
    have d_all_kind_sets : Fs.DefAt (L2.KOf KX) mg "all_kind_sets" K1.st_all_kind_sets := by
      refine' Fs.defAt_mk KX G ?a ?l ?c ?k
      (case a => k_is); (case l => k_is); (case c => k_is); (case k => k_is)
    have d_find_pressed : Fs.DefAt (L2.KOf KX) mg "find_pressed" K1.st_find_pressed := by
      refine' Fs.defAt_mk KX G ?a ?l ?c ?k
      (case a => k_is); (case l => k_is); (case c => k_is); (case k => k_is)
    have d_pressed_kinds : Fs.DefAt (L2.KOf KX) mg "pressed_kinds" K1.st_pressed_kinds := by
      refine' Fs.defAt_mk KX G ?a ?l ?c ?k
      (case a => k_is); (case l => k_is); (case c => k_is); (case k => k_is)
    have d__law_gain : Fs.DefAt (L2.KOf KX) mg "_law_gain" K1.st__law_gain := by
      refine' Fs.defAt_mk KX G ?a ?l ?c ?k
      (case a => k_is); (case l => k_is); (case c => k_is); (case k => k_is)
    have d__law_best : Fs.DefAt (L2.KOf KX) mg "_law_best" K1.st__law_best := by
      refine' Fs.defAt_mk KX G ?a ?l ?c ?k
      (case a => k_is); (case l => k_is); (case c => k_is); (case k => k_is)
    have d__law_bests : Fs.DefAt (L2.KOf KX) mg "_law_bests" K1.st__law_bests := by
      refine' Fs.defAt_mk KX G ?a ?l ?c ?k
      (case a => k_is); (case l => k_is); (case c => k_is); (case k => k_is)
    have d__law_inmost : Fs.DefAt (L2.KOf KX) mg "_law_inmost" K1.st__law_inmost := by
      refine' Fs.defAt_mk KX G ?a ?l ?c ?k
      (case a => k_is); (case l => k_is); (case c => k_is); (case k => k_is)
    have d__law_excess : Fs.DefAt (L2.KOf KX) mg "_law_excess" K1.st__law_excess := by
      refine' Fs.defAt_mk KX G ?a ?l ?c ?k
      (case a => k_is); (case l => k_is); (case c => k_is); (case k => k_is)
    have d__law_sets : Fs.DefAt (L2.KOf KX) mg "_law_sets" K1.st__law_sets := by
      refine' Fs.defAt_mk KX G ?a ?l ?c ?k
      (case a => k_is); (case l => k_is); (case c => k_is); (case k => k_is)
    have d__law_pressed : Fs.DefAt (L2.KOf KX) mg "_law_pressed" K1.st__law_pressed := by
      refine' Fs.defAt_mk KX G ?a ?l ?c ?k
      (case a => k_is); (case l => k_is); (case c => k_is); (case k => k_is)
    have d_idleness_by : Fs.DefAt (L2.KOf KX) mg "idleness_by" K1.st_idleness_by := by
      refine' Fs.defAt_mk KX G ?a ?l ?c ?k
      (case a => k_is); (case l => k_is); (case c => k_is); (case k => k_is)
    have d_find_idle_sets : Fs.DefAt (L2.KOf KX) mg "find_idle_sets" K1.st_find_idle_sets := by
      refine' Fs.defAt_mk KX G ?a ?l ?c ?k
      (case a => k_is); (case l => k_is); (case c => k_is); (case k => k_is)
    have d_find_slack : Fs.DefAt (L2.KOf KX) mg "find_slack" K1.st_find_slack := by
      refine' Fs.defAt_mk KX G ?a ?l ?c ?k
      (case a => k_is); (case l => k_is); (case c => k_is); (case k => k_is)
    have d_slack_kinds : Fs.DefAt (L2.KOf KX) mg "slack_kinds" K1.st_slack_kinds := by
      refine' Fs.defAt_mk KX G ?a ?l ?c ?k
      (case a => k_is); (case l => k_is); (case c => k_is); (case k => k_is)
    have d__law_idleness : Fs.DefAt (L2.KOf KX) mg "_law_idleness" K1.st__law_idleness := by
      refine' Fs.defAt_mk KX G ?a ?l ?c ?k
      (case a => k_is); (case l => k_is); (case c => k_is); (case k => k_is)
    have d__law_slack : Fs.DefAt (L2.KOf KX) mg "_law_slack" K1.st__law_slack := by
      refine' Fs.defAt_mk KX G ?a ?l ?c ?k
      (case a => k_is); (case l => k_is); (case c => k_is); (case k => k_is)
    have d_law : Fs.DefAt (L2.KOf KX) mg "law" K1.st_law := by
      refine' Fs.defAt_mk KX G ?a ?l ?c ?k
      (case a => k_is); (case l => k_is); (case c => k_is); (case k => k_is)
    have g_MOST_BIDS := Fs.glob_int (PySem.W.mg_of (n := "MOST_BIDS") KX G (by k_is))
    have g_MOST_BID_WORTH := Fs.glob_int (PySem.W.mg_of (n := "MOST_BID_WORTH") KX G (by k_is))
    have g_MOST_KIND_SEATS := Fs.glob_int (PySem.W.mg_of (n := "MOST_KIND_SEATS") KX G (by k_is))
    have g_MOST_MARKET_KINDS := Fs.glob_int (PySem.W.mg_of (n := "MOST_MARKET_KINDS") KX G (by k_is))
    have g_MOST_PRICE := Fs.glob_int (PySem.W.mg_of (n := "MOST_PRICE") KX G (by k_is))
    have z_len := PySem.W.mg_none_of (n := "len") KX G (by k_is)
    have z_all := PySem.W.mg_none_of (n := "all") KX G (by k_is)
    have z_any := PySem.W.mg_none_of (n := "any") KX G (by k_is)
    have z_sum := PySem.W.mg_none_of (n := "sum") KX G (by k_is)
    have z_max := PySem.W.mg_none_of (n := "max") KX G (by k_is)
    have z_min := PySem.W.mg_none_of (n := "min") KX G (by k_is)
    have z_tuple := PySem.W.mg_none_of (n := "tuple") KX G (by k_is)
    have z_list := PySem.W.mg_none_of (n := "list") KX G (by k_is)
    have z_repr := PySem.W.mg_none_of (n := "repr") KX G (by k_is)
    have z_int := PySem.W.mg_none_of (n := "int") KX G (by k_is)
    have z_sorted := PySem.W.mg_none_of (n := "sorted") KX G (by k_is)
    have z_set := PySem.W.mg_none_of (n := "set") KX G (by k_is)
    have z_range := PySem.W.mg_none_of (n := "range") KX G (by k_is)
    have z_enumerate := PySem.W.mg_none_of (n := "enumerate") KX G (by k_is)
    have z_zip := PySem.W.mg_none_of (n := "zip") KX G (by k_is)
    have z_isinstance := PySem.W.mg_none_of (n := "isinstance") KX G (by k_is)
    have z_bool := PySem.W.mg_none_of (n := "bool") KX G (by k_is)
    have z_str := PySem.W.mg_none_of (n := "str") KX G (by k_is)
    have T : K1.Top (L2.KOf KX) mg := ⟨d__law_open, d__law_spread, d__law_take, d__law_one, d__law_drawn_bid, d__law_anew, d__law_drawn_market, d__law_drawn_prices, d_is_integer, d_is_between, d_are_market_seats, d_is_bid, d_is_market, d_require_market, d_is_prices_of, d_require_prices, d_find_gain, d_find_best, d_find_wishes, d_find_inmost, d_count_seats, d_excess_by, d_all_kind_sets, d_find_pressed, d_pressed_kinds, d__law_gain, d__law_best, d__law_bests, d__law_inmost, d__law_excess, d__law_sets, d__law_pressed, d_idleness_by, d_find_idle_sets, d_find_slack, d_slack_kinds, d__law_idleness, d__law_slack, d_law, g_MOST_BIDS, g_MOST_BID_WORTH, g_MOST_KIND_SEATS, g_MOST_MARKET_KINDS, g_MOST_PRICE, Fs.bl_mk z_len z_all z_any z_sum z_max z_min z_tuple z_list z_repr z_int z_sorted z_set z_range z_enumerate z_zip z_isinstance z_bool z_str⟩
    exact Fs.law_at K1.irr_law K1.nE_law T.d_law hmg K1.sc_law T.bl (by decide) K1.em_law K1.ok_law (fun  base _ _ => K1.C_law (W := ⟨_, _, _, _, _⟩) T) K1.hlaw (fun _ _ _ _ _ _ _ => rfl)

