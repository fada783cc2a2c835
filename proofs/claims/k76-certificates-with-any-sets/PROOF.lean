import PyProof.Rows.All
import Wide.All
import OpenK.AllK
import Wide.FinOn
import HandS.ForMost
import HandS.Deep
import HandS.TupAny
import HandS.TupMul
import HandS.IsInst
import HandS.SortInts
import KE.DataMinMax
import HandS.Star
import HandS.Exc
import HandS.Conv
import HandS.SetFor
import HandS.SortRule
import HandS.Iter
import HandS.Zip
import HandS.Walk
import KE.GoesMore
import HandS.ExcIs
import HandS.Style
import KE.DataFind
import KE.DatumIndex
import HandS.More
import HandS.Words
import PySem.Challenge.RW_floatseats_k76_certificates_with_any_set
set_option Elab.async false
set_option linter.all false
set_option maxRecDepth 100000
set_option maxHeartbeats 4000000
namespace Fs
open PySem L2

abbrev D := PyData

/-- the drawing object: its cells, how many were drawn, what is left of the last one -/
structure Pn where
  cells : List Int
  a : Int
  r : Int

/-- a state: the slots (with: is the list in it ours alone), the pen -/
structure S where
  sl : List (Option (D × Bool))
  pn : Option Pn

/-- where a value stands: never changed again; new and ours; the list of a slot -/
inductive Tg where
  | fz | fresh | slot (i : Nat)

abbrev Fn := List D → Option Pn → Option ((D × Bool) × Option Pn)

inductive Ty5 where
  | int | bool | tuple | list | str

inductive Bf where
  | len | all | any | sum | max | min | tuple | list | repr | int | sset | lrange | rev1 | cnt | trange | dnew | srt | stp | stl | sth | st3 | idx | mth (m : Str)

/-- a table of the module (text keys, numbers): get with a number, in, [] -/
inductive TabM where
  | get (n : Int) | mem | ix
/-- a target: one slot, or a tuple of slots -/
inductive Tr where
  | v (i : Nat) | t (is : List Nat)
def Tr.isT : Tr → Bool
  | .t _ => true
  | _ => false
def Tr.slots : Tr → List Nat
  | .v i => [i]
  | .t is => is

mutual
inductive IE where
  | var (i : Nat)
  | int (n : Int) | bool (b : Bool) | non | str (x : Str)
  | glob (x : Str) (d : D)
  | bin (op : Operator) (a b : IE)
  | neg (a : IE)
  | not (a : IE)
  | cmp (op : CmpOp) (a b : IE)
  | isN (a : IE) | notN (a : IE)
  | cmp2 (o p : CmpOp) (a b c : IE)
  | and (es : IEs) | or (es : IEs)
  | ite (c a b : IE)
  | tup (es : IEs) | lst (es : IEs)
  | ix (a b : IE)
  | sl (a : IE) (lo hi : IO)
  | isi (a : IE) (t : Ty5)
  | blt (f : Bf) (es : IEs)
  | call (x : Str) (F : Fn) (es : IEs)
  | one (x : Str) (a b : IE)
  | pix (i j : Nat)
  | lc (elt : IE) (tg : Tr) (src : Sr) (ifs : IEs)
  | isX (x : Str) (adr : Str → Nat) (names : List Str) (sub : Str → Bool) (a : IE)
  | attr (a : IE) (m : Str)
  | cmp3 (o p q : CmpOp) (a b c d : IE)
  | tab (m : TabM) (x : Str) (tb : List (Str × Int)) (a : IE)
  | calS (x : Str) (F : Fn) (n : Nat) (e : IE)
inductive IEs where
  | nil | cons (e : IE) (es : IEs)
inductive IO where
  | none | some (e : IE)
inductive Sr where
  | seq (e : IE) | enum (e : IE) | zip (a b : IE) | rng (a : IE) | rng2 (a b : IE) | rng3 (a b c : IE)
end

mutual
inductive IS where
  | set (i : Nat) (e : IE)
  | setLc (i : Nat) (elt : IE) (tg : Tr) (src : Sr) (ifs : IEs)
  | setT (is : List Nat) (e : IE)
  | set2 (is : List Nat) (es : IEs)
  | setIx (i : Nat) (k e : IE)
  | pset (i j : Nat) (e : IE)
  | aug (op : Operator) (i : Nat) (e : IE)
  | app (i : Nat) (e : IE)
  | ins (i : Nat) (k e : IE)
  | ext (i : Nat) (e : IE)
  | rev (i : Nat)
  | expr (e : IE)
  | ite (c : IE) (a b : ISs)
  | for (tg : Tr) (src : Sr) (body : ISs)
  | while (fuel : Nat) (c : IE) (body : ISs)
  | ret (e : IE) | retN | pass | brk | cont | never
inductive ISs where
  | nil | cons (s : IS) (ss : ISs)
end

def Sr.pairs : Sr → Bool
  | .enum _ => true
  | .zip _ _ => true
  | _ => false

def scal : D → Bool
  | .none => true
  | .bool _ => true
  | .int _ => true
  | .str _ => true
  | _ => false

mutual
/-- no dict within, not too deep -/
def good : Nat → D → Bool
  | _, .none => true
  | _, .bool _ => true
  | _, .int _ => true
  | _, .str x => PyData.strOk x
  | n + 1, .list xs => goods n xs
  | n + 1, .tuple xs => goods n xs
  | _, _ => false
def goods : Nat → List D → Bool
  | _, [] => true
  | n, x :: xs => good n x && goods n xs
end

def intsOf : List D → Option (List Int)
  | [] => some []
  | .int i :: r => (intsOf r).map (i :: ·)
  | _ => none
def boolsOf : List D → Option (List Bool)
  | [] => some []
  | .bool b :: r => (boolsOf r).map (b :: ·)
  | _ => none

def addD : D → D → Option (D × Bool)
  | .int a, .int b => some (.int (a + b), false)
  | .tuple a, .tuple b => if a.length + b.length ≤ sizeLine then some (.tuple (a ++ b), false) else none
  | .list a, .list b => if a.length + b.length ≤ sizeLine then some (.list (a ++ b), true) else none
  | .str a, .str b => if a.length + b.length ≤ sizeLine then some (.str (a ++ b), false) else none
  | _, _ => none
def mulD : D → D → Option (D × Bool)
  | .int a, .int b => if (-(2 ^ 64) < a ∧ a < 2 ^ 64) ∨ (-(2 ^ 64) < b ∧ b < 2 ^ 64) then some (.int (a * b), false) else none
  | .list a, .int k => if -(2 ^ 63) ≤ k ∧ k < 2 ^ 63 ∧ a.length * k.toNat ≤ sizeLine then some (.list (List.replicate k.toNat a).flatten, true) else none
  | .tuple a, .int k => if -(2 ^ 63) ≤ k ∧ k ≤ 1000 ∧ a.length ≤ 1000 then some (.tuple (List.replicate k.toNat a).flatten, false) else none
  | _, _ => none
def binD (op : Operator) (x y : D) : Option (D × Bool) :=
  match op with
  | .Add => addD x y
  | .Mult => mulD x y
  | .Sub => match x, y with
    | .int a, .int b => some (.int (a - b), false)
    | _, _ => none
  | .FloorDiv => match x, y with
    | .int a, .int b => if 0 < b ∧ b < 1073741824 then some (.int (a / b), false) else none
    | _, _ => none
  | .Mod => match x, y with
    | .int a, .int b => if 0 < b then some (.int (a % b), false) else none
    | _, _ => none
  | .Pow => match x, y with
    | .int a, .int b => if 0 ≤ b ∧ b ≤ 1000000 ∧ a.natAbs < 2 ^ 64 then some (.int (a ^ b.toNat), false) else none
    | _, _ => none
  | _ => none

def itemsD : D → Option (List D)
  | .list xs => some xs
  | .tuple xs => some xs
  | _ => none

def kin : D → D → Bool
  | .list _, .list _ => true
  | .tuple _, .tuple _ => true
  | _, _ => false

def okEq (x y : D) : Bool := match x, y with
  | .str _, .str _ => true
  | _, _ => good 60 x && good 60 y

def cmpD (op : CmpOp) (x y : D) : Option Bool :=
  match op with
  | .Eq => if okEq x y then some (PyData.eqv x y) else none
  | .NotEq => if okEq x y then some (!PyData.eqv x y) else none
  | .Lt => match x, y with
    | .int a, .int b => some (decide (a < b))
    | _, _ => none
  | .LtE => match x, y with
    | .int a, .int b => some (decide (a ≤ b))
    | _, _ => none
  | .Gt => match x, y with
    | .int a, .int b => some (decide (b < a))
    | _, _ => none
  | .GtE => match x, y with
    | .int a, .int b => some (decide (b ≤ a))
    | _, _ => none
  | .In => (itemsD y).bind fun ys => if okEq x y then some (ys.any fun z => PyData.eqv z x) else none
  | .NotIn => (itemsD y).bind fun ys => if okEq x y then some (!ys.any fun z => PyData.eqv z x) else none
  | _ => none

def ixD : D → D → Option D
  | .list xs, .int i => atI xs i
  | .tuple xs, .int i => atI xs i
  | _, _ => none

def optI : Option D → Option (Option Int)
  | none => some none
  | some (.int i) => some (some i)
  | _ => none
def cutD (xs : List D) (lo hi : Option Int) : List D := (xs.drop (HT.sIx xs.length 0 lo)).take (HT.sIx xs.length xs.length hi - HT.sIx xs.length 0 lo)
def slD (x : D) (lo hi : Option D) : Option (D × Bool) :=
  (optI lo).bind fun l => (optI hi).bind fun h => match x with
    | .list xs => some (.list (cutD xs l h), true)
    | .tuple xs => some (.tuple (cutD xs l h), false)
    | _ => none

def isiD : Ty5 → D → Option Bool
  | .int, .int _ => some true
  | .int, .bool _ => some true
  | .bool, .bool _ => some true
  | .tuple, .tuple _ => some true
  | .list, .list _ => some true
  | .str, .str _ => some true
  | _, .dict _ => none
  | _, _ => some false

/-- sorted(set(ns)) -/
def ins (n : Int) : List Int → List Int
  | [] => [n]
  | m :: r => if n < m then n :: m :: r else if n = m then m :: r else m :: ins n r
def ssetI (ns : List Int) : List Int := ns.foldr ins []
/-- sorted(ns) -/
def insI (n : Int) : List Int → List Int
  | [] => [n]
  | m :: r => if n ≤ m then n :: m :: r else m :: insI n r
def srtI (ns : List Int) : List Int := ns.foldr insI []
/-- pairs, by the first and then by the second -/
def leP (p q : Int × Int) : Bool := decide (p.1 < q.1) || (decide (p.1 = q.1) && decide (p.2 ≤ q.2))
def insP (p : Int × Int) : List (Int × Int) → List (Int × Int)
  | [] => [p]
  | q :: r => if leP p q = true then p :: q :: r else q :: insP p r
def srtP (ps : List (Int × Int)) : List (Int × Int) := ps.foldr insP []
def pairD (p : Int × Int) : D := .tuple [.int p.1, .int p.2]
def pairsOf : List D → Option (List (Int × Int))
  | [] => some []
  | .tuple [.int a, .int b] :: r => (pairsOf r).map ((a, b) :: ·)
  | _ => none
def maxI : List Int → Int
  | [] => 0
  | [n] => n
  | n :: r => max n (maxI r)
def minI : List Int → Int
  | [] => 0
  | [n] => n
  | n :: r => min n (minI r)

def srtD (xs : List D) : Option (List D) :=
  match intsOf xs with
  | some ns => some ((srtI ns).map .int)
  | none => (pairsOf xs).map fun ps => (srtP ps).map pairD
/-- the items of a tuple, of a list -/
def seqD : D → Option (List D)
  | .tuple xs => some xs
  | .list xs => some xs
  | _ => none
/-- not to be changed -/
def hardD : D → Bool
  | .list _ => false
  | .dict _ => false
  | _ => true
/-- alike: to be compared by < -/
def alikeB (xs : List D) : Bool := (xs.all fun a => xs.all fun b => PySem.W.alike a b) && xs.all fun a => match a with | .none => false | _ => true
def minLD (xs : List D) : Option (D × Bool) :=
  match intsOf xs with
  | some ns => if 0 < ns.length then some (.int (minI ns), false) else none
  | none => match xs with
    | [] => none
    | x :: r => if good 60 (.list (x :: r)) && alikeB (x :: r) then some (PySem.W.minD x r, false) else none
def bltD : Bf → List D → Option (D × Bool)
  | .len, [.str x] => if x.length ≤ sizeLine then some (.int x.length, false) else none
  | .len, [.list xs] => some (.int xs.length, false)
  | .len, [.tuple xs] => some (.int xs.length, false)
  | .all, [.list xs] => (boolsOf xs).map fun bs => (.bool (bs.all id), false)
  | .any, [.list xs] => (boolsOf xs).map fun bs => (.bool (bs.any id), false)
  | .sum, [.list xs] => (intsOf xs).map fun ns => (.int ns.sum, false)
  | .max, [.list xs] => (intsOf xs).bind fun ns => if 0 < ns.length then some (.int (maxI ns), false) else none
  | .min, [.list xs] => minLD xs
  | .max, [.int a, .int b] => some (.int (if b > a then b else a), false)
  | .min, [.int a, .int b] => some (.int (if b < a then b else a), false)
  | .tuple, [.list xs] => some (.tuple xs, false)
  | .tuple, [.tuple xs] => some (.tuple xs, false)
  | .list, [.list xs] => some (.list xs, true)
  | .list, [.tuple xs] => some (.list xs, true)
  | .repr, [d] => if good 60 d && d.showable && decide (d.shown.length ≤ sizeLine) then some (.str d.shown, false) else none
  | .int, [.int i] => some (.int i, false)
  | .int, [.bool b] => some (.int (if b then 1 else 0), false)
  | .sset, [.list xs] => (intsOf xs).bind fun ns => if ns.length ≤ 4000 ∧ (ssetI ns).length < 64 then some (.list ((ssetI ns).map .int), true) else none
  | .sset, [.tuple xs] => (intsOf xs).bind fun ns => if ns.length ≤ 4000 ∧ (ssetI ns).length < 64 then some (.list ((ssetI ns).map .int), true) else none
  | .lrange, [.int n] => if 0 ≤ n ∧ n ≤ 16777216 then some (.list ((List.range n.toNat).map fun i => .int (i : Nat)), true) else none
  | .trange, [.int n] => if 0 ≤ n ∧ n ≤ 16777216 then some (.tuple ((List.range n.toNat).map fun i => .int (i : Nat)), false) else none
  | .srt, [.list xs] => (srtD xs).map fun ys => (.list ys, true)
  | .srt, [.tuple xs] => (intsOf xs).map fun ns => (.list ((srtI ns).map .int), true)
  | .rev1, [.list xs] => some (.list xs.reverse, true)
  | .rev1, [.tuple xs] => some (.tuple xs.reverse, false)
  | .cnt, [.list xs, y] => if good 60 (.list xs) && good 60 y then some (.int ((xs.countP fun z => PyData.eqv z y : Nat) : Int), false) else none
  | .cnt, [.tuple xs, y] => if good 60 (.list xs) && good 60 y then some (.int ((xs.countP fun z => PyData.eqv z y : Nat) : Int), false) else none
  | .idx, [.list xs, .bool y] => (boolsOf xs).bind fun bs => if y ∈ bs then some (.int (bs.idxOf y : Nat), false) else none
  | .stp, [x, y] => (seqD x).bind fun xs => if hardD y && decide (xs.length ≤ 1000) then some (.tuple (xs ++ [y]), false) else none
  | .stl, [x, y] => (seqD x).bind fun xs => if hardD y && decide (xs.length ≤ 1000) then some (.list (xs ++ [y]), true) else none
  | .sth, [y, x] => (seqD x).bind fun xs => if hardD y && decide (xs.length ≤ 1000) then some (.list (y :: xs), true) else none
  | .st3, [x, y, z] => (seqD x).bind fun xs => (seqD z).bind fun zs => if hardD y && (decide (xs.length ≤ 1000) && decide (zs.length ≤ 1000)) then some (.tuple (xs ++ (y :: zs)), false) else none
  | _, _ => none

def rd (s : S) (i : Nat) : Option (D × Bool) := (s.sl[i]?).bind id
def S.put (s : S) (i : Nat) (x : D × Bool) : S := { s with sl := s.sl.set i (some x) }
def S.freeze (s : S) (i : Nat) : S := { s with sl := s.sl.modify i fun o => o.map fun p => (p.1, false) }
def S.keep (s : S) : Tg → S
  | .slot i => s.freeze i
  | _ => s
def S.keeps (s : S) : List Tg → S
  | [] => s
  | t :: ts => (s.keep t).keeps ts
def Tg.own : Tg → Bool
  | .fresh => true
  | _ => false
def S.wipe (s : S) : List Nat → S
  | [] => s
  | i :: is => { (s.wipe is) with sl := (s.wipe is).sl.set i none }
def S.unowned (s : S) (is : List Nat) : Bool := is.all fun i => match rd s i with
  | some (_, true) => false
  | _ => true
def S.restore (s : S) (o : S) : List Nat → S
  | [] => s
  | i :: is => { (s.restore o is) with sl := (s.restore o is).sl.set i ((o.sl[i]?).bind id) }
def S.bindT (s : S) : Tr → D → Option S
  | .v i, d => if i < s.sl.length then some (s.put i (d, false)) else none
  | .t is, .tuple ds => if is.length = ds.length ∧ (is.all fun i => decide (i < s.sl.length)) then some ((is.zip ds).foldl (fun s p => s.put p.1 (p.2, false)) s) else none
  | _, _ => none

/-- the 13 primes of the spreading -/
def prim (i : Int) : Int := ([2147483629, 2147483587, 2147483579, 2147483563, 2147483549, 2147483543, 2147483497, 2147483489, 2147483477, 2147483423, 2147483399, 2147483353, 2147483323] : List Int).getD i.toNat 1
def spreadF (c a : Int) : Int :=
  if 10 ^ 18 ≤ c then c else
  let u := (c % 1000000007 * (2 * a + 69069) + a * 40503 + 977) ^ 3 % prim (a % 13)
  let v := (u * (a + 3) + (c % 65537 + 5)) ^ 5 % prim ((a + 5) % 13)
  let w := (v + u % 1009 + a) ^ 3 % prim ((a + 7) % 13)
  (u * 2147483647 + v) * 2147483647 + w
def cellF (p : Pn) : Int :=
  if p.a < p.cells.length then p.cells.getD p.a.toNat 0
  else if 0 < p.cells.length then p.cells.getD ((p.a * 5 + 3) % p.cells.length).toNat 0 % (10 ^ 17 + p.a) else 0
def takeF (many : Int) (p : Pn) : Option (Int × Pn) :=
  if 0 < many ∧ many < 1073741824 ∧ 0 ≤ p.a ∧ p.a < 1073741824 then
    let q : Pn := if p.r < many then ⟨p.cells, p.a + 1, spreadF (cellF p) p.a⟩ else p
    some (q.r % many, ⟨q.cells, q.a, q.r / many⟩)
  else none
def FTake : Fn
  | [.dict [], .int n], some p => (takeF n p).map fun r => ((.int r.1, false), some r.2)
  | _, _ => none
/-- an item by a drawn number -/
def oneF (x y : D) (pn : Option Pn) : Option (D × Option Pn) :=
  match x, pn with
  | .dict [], some p => (itemsD y).bind fun ys => (takeF ys.length p).bind fun r => (ys[r.1.toNat]?).map fun d => (d, some r.2)
  | _, _ => none

inductive Fl where
  | nx | ret (d : D) (fr : Bool) | brk | cont

def lcGo (fi : S → Option (Bool × S)) (fe : S → Option ((D × Tg) × S)) (tg : Tr) : List D → S → Option (List D × S)
  | [], s => some ([], s)
  | x :: xs, s => do
    let s1 ← s.bindT tg x
    let (b, s2) ← fi s1
    if b then do
      let ((d, t), s3) ← fe s2
      let (ds, s4) ← lcGo fi fe tg xs ((s3.keep t).wipe tg.slots)
      some (d :: ds, s4)
    else lcGo fi fe tg xs (s2.wipe tg.slots)
def lcRun (fi : S → Option (Bool × S)) (fe : S → Option ((D × Tg) × S)) (tg : Tr) (xs : List D) (s : S) : Option (List D × S) :=
  if s.unowned tg.slots = true ∧ xs.length ≤ sizeLine then do
    let (ds, s1) ← lcGo fi fe tg xs (s.wipe tg.slots)
    some (ds, s1.restore s tg.slots)
  else none
def boolD (x : Option ((D × Tg) × S)) : Option (Bool × S) := x.bind fun r => match r.1.1 with
  | .bool b => some (b, r.2)
  | _ => none

def pixD (j : Nat) (q : Pn) : Option D :=
  if j = 0 then some (.list (q.cells.map .int)) else if j = 1 then some (.int q.a) else if j = 2 then some (.int q.r) else none
def penSet (j : Nat) (n : Int) (q : Pn) : Option Pn :=
  if j = 1 then some { q with a := n } else if j = 2 then some { q with r := n } else none
def isPen : Option (D × Bool) → Bool
  | some (.dict [], false) => true
  | _ => false

def tbl : List (Str × Int) → Str → Option Int
  | [], _ => none
  | (k, v) :: r, z => if k = z then some v else tbl r z
def tabD (m : TabM) (tb : List (Str × Int)) (d : D) : Option D :=
  match d with
  | .str z => match m with
    | .get n => some (.int ((tbl tb z).getD n))
    | .mem => some (.bool (tbl tb z).isSome)
    | .ix => (tbl tb z).map PyData.int
  | _ => none
def tupD : D → Option (List D)
  | .tuple xs => some xs
  | _ => none
def isXD (adr : Str → Nat) (names : List Str) (sub : Str → Bool) : D → Option Bool
  | .dict [(.int C, .str c)] => if c ∈ names ∧ C = (adr c : Nat) then some (sub c) else none
  | _ => none
mutual
def evalE : IE → S → Option ((D × Tg) × S)
  | .var i, s => (rd s i).map fun p => ((p.1, if p.2 then .slot i else .fz), s)
  | .int n, s => some ((.int n, .fz), s)
  | .bool b, s => some ((.bool b, .fz), s)
  | .non, s => some ((.none, .fz), s)
  | .str x, s => some ((.str x, .fz), s)
  | .glob _ d, s => some ((d, .fz), s)
  | .bin op a b, s => do
    let (x, s1) ← evalE a s
    let (y, s2) ← evalE b s1
    let (d, fr) ← binD op x.1 y.1
    some ((d, if fr then .fresh else .fz), s2)
  | .neg a, s => do
    let (x, s1) ← evalE a s
    match x.1 with
    | .int i => some ((.int (-i), .fz), s1)
    | _ => none
  | .not a, s => do
    let (b, s1) ← boolD (evalE a s)
    some ((.bool (!b), .fz), s1)
  | .cmp op a b, s => do
    let (x, s1) ← evalE a s
    let (y, s2) ← evalE b s1
    let c ← cmpD op x.1 y.1
    some ((.bool c, .fz), s2)
  | .isN a, s => do
    let (x, s1) ← evalE a s
    some ((.bool (match x.1 with | .none => true | _ => false), .fz), s1)
  | .notN a, s => do
    let (x, s1) ← evalE a s
    some ((.bool (match x.1 with | .none => false | _ => true), .fz), s1)
  | .cmp2 o p a b c, s => do
    let (x, s1) ← evalE a s
    let (y, s2) ← evalE b s1
    let k ← cmpD o x.1 y.1
    if k then do
      let (z, s3) ← evalE c s2
      let m ← cmpD p y.1 z.1
      some ((.bool m, .fz), s3)
    else some ((.bool false, .fz), s2)
  | .and es, s => evalAnd es s
  | .or es, s => evalOr es s
  | .ite c a b, s => do
    let (k, s1) ← boolD (evalE c s)
    if k then evalE a s1 else evalE b s1
  | .tup es, s => do
    let (xs, s1) ← evalEs es s
    some ((.tuple (xs.map (·.1)), .fz), s1.keeps (xs.map (·.2)))
  | .lst es, s => do
    let (xs, s1) ← evalEs es s
    some ((.list (xs.map (·.1)), .fresh), s1.keeps (xs.map (·.2)))
  | .ix a b, s => do
    let (x, s1) ← evalE a s
    let (y, s2) ← evalE b s1
    let d ← ixD x.1 y.1
    some ((d, .fz), s2)
  | .sl a lo hi, s => do
    let (x, s1) ← evalE a s
    let (l, s2) ← evalO lo s1
    let (h, s3) ← evalO hi s2
    let (d, fr) ← slD x.1 l h
    some ((d, if fr then .fresh else .fz), s3)
  | .isi a t, s => do
    let (x, s1) ← evalE a s
    let b ← isiD t x.1
    some ((.bool b, .fz), s1)
  | .blt f es, s => do
    let (xs, s1) ← evalEs es s
    let (d, fr) ← bltD f (xs.map (·.1))
    some ((d, if fr then .fresh else .fz), s1)
  | .call _ F es, s => do
    let (xs, s1) ← evalEs es s
    let ((d, fr), pn) ← F (xs.map (·.1)) s1.pn
    if scal d then some ((d, .fz), { s1 with pn := pn })
    else some ((d, if fr then .fresh else .fz), { (s1.keeps (xs.map (·.2))) with pn := pn })
  | .one _ a b, s => do
    let (x, s1) ← evalE a s
    let (y, s2) ← evalE b s1
    let (d, pn) ← oneF x.1 y.1 s2.pn
    some ((d, .fz), { s2 with pn := pn })
  | .pix i j, s => if isPen (rd s i) then (s.pn.bind (pixD j)).map fun d => ((d, .fz), s) else none
  | .lc elt tg src ifs, s => do
    let ((items, _), s1) ← evalSr src s
    let (ds, s2) ← lcRun (evalAll ifs) (evalE elt) tg items s1
    some ((.list ds, .fresh), s2)
  | .isX _ adr names sub a, s => do
    let (x, s1) ← evalE a s
    let b ← isXD adr names sub x.1
    some ((.bool b, .fz), s1)
  | .attr _ _, _ => none
  | .cmp3 o p q a b c d, s => do
    let (x, s1) ← evalE a s
    let (y, s2) ← evalE b s1
    let k ← cmpD o x.1 y.1
    if k then do
      let (z, s3) ← evalE c s2
      let m ← cmpD p y.1 z.1
      if m then do
        let (u, s4) ← evalE d s3
        let j ← cmpD q z.1 u.1
        some ((.bool j, .fz), s4)
      else some ((.bool false, .fz), s3)
    else some ((.bool false, .fz), s2)
  | .tab m _ tb a, s => do
    let (x, s1) ← evalE a s
    let d ← tabD m tb x.1
    some ((d, .fz), s1)
  | .calS _ F n e, s => do
    let (x, s1) ← evalE e s
    let ds ← tupD x.1
    if ds.length = n then do
      let ((d, fr), pn) ← F ds s1.pn
      if scal d then some ((d, .fz), { s1 with pn := pn })
      else some ((d, if fr then .fresh else .fz), { s1 with pn := pn })
    else none
def evalEs : IEs → S → Option (List (D × Tg) × S)
  | .nil, s => some ([], s)
  | .cons e es, s => do
    let (x, s1) ← evalE e s
    let (xs, s2) ← evalEs es s1
    some (x :: xs, s2)
def evalO : IO → S → Option (Option D × S)
  | .none, s => some (none, s)
  | .some e, s => do
    let (x, s1) ← evalE e s
    some (some x.1, s1)
def evalAnd : IEs → S → Option ((D × Tg) × S)
  | .nil, _ => none
  | .cons e es, s => do
    let (b, s1) ← boolD (evalE e s)
    match es with
    | .nil => some ((.bool b, .fz), s1)
    | .cons _ _ => if b then evalAnd es s1 else some ((.bool false, .fz), s1)
def evalOr : IEs → S → Option ((D × Tg) × S)
  | .nil, _ => none
  | .cons e es, s => do
    let (b, s1) ← boolD (evalE e s)
    match es with
    | .nil => some ((.bool b, .fz), s1)
    | .cons _ _ => if b then some ((.bool true, .fz), s1) else evalOr es s1
def evalAll : IEs → S → Option (Bool × S)
  | .nil, s => some (true, s)
  | .cons e es, s => boolD (evalE e s)
def evalSr : Sr → S → Option ((List D × Tg) × S)
  | .seq e, s => do
    let (x, s1) ← evalE e s
    let xs ← itemsD x.1
    some ((xs, x.2), s1)
  | .enum e, s => do
    let (x, s1) ← evalE e s
    let xs ← itemsD x.1
    some ((xs.zipIdx.map fun p => .tuple [.int (p.2 : Nat), p.1], x.2), s1)
  | .zip a b, s => do
    let (x, s1) ← evalE a s
    let (y, s2) ← evalE b s1
    let xs ← itemsD x.1
    let ys ← itemsD y.1
    if kin x.1 y.1 then some ((List.zipWith (fun u v => .tuple [u, v]) xs ys, .fz), (s2.keep x.2).keep y.2) else none
  | .rng a, s => do
    let (x, s1) ← evalE a s
    match x.1 with
    | .int n => if -(2 ^ 62) ≤ n ∧ n < 2 ^ 62 then some (((List.range n.toNat).map fun i => .int (i : Nat), .fz), s1) else none
    | _ => none
  | .rng2 a b, s => do
    let (x, s1) ← evalE a s
    let (y, s2) ← evalE b s1
    match x.1, y.1 with
    | .int m, .int n => if -(2 ^ 62) ≤ m ∧ m < 2 ^ 62 ∧ -(2 ^ 62) ≤ n ∧ n < 2 ^ 62 then some (((List.range (n - m).toNat).map fun i => .int (m + (i : Nat)), .fz), s2) else none
    | _, _ => none
  | .rng3 a b c, s => do
    let (x, s1) ← evalE a s
    let (y, s2) ← evalE b s1
    let (z, s3) ← evalE c s2
    match x.1, y.1, z.1 with
    | .int i, .int j, .int k => if k ≠ 0 ∧ k.natAbs < 1073741824 ∧ Builtin.Range.small i j k = true ∧ 0 ≤ Builtin.Range.rangeSize i j k then some (((List.range (Builtin.Range.rangeSize i j k).toNat).map fun n => .int (i + (n : Nat) * k), .fz), s3) else none
    | _, _, _ => none
end

def wGo (fc : S → Option (Bool × S)) (fb : S → Option (Fl × S)) : Nat → S → Option (Fl × S)
  | 0, _ => none
  | n + 1, s => do
    let (b, s1) ← fc s
    if b then do
      let (f, s2) ← fb s1
      match f with
      | .nx => wGo fc fb n s2
      | .cont => wGo fc fb n s2
      | .brk => some (.nx, s2)
      | .ret d fr => some (.ret d fr, s2)
    else some (.nx, s1)
def fGo (tg : Tr) (fb : S → Option (Fl × S)) : List D → S → Option (Fl × S)
  | [], s => some (.nx, s)
  | x :: xs, s => do
    let s1 ← s.bindT tg x
    let (f, s2) ← fb s1
    match f with
    | .nx => fGo tg fb xs s2
    | .cont => fGo tg fb xs s2
    | .brk => some (.nx, s2)
    | .ret d fr => some (.ret d fr, s2)
def S.puts (s : S) : List Nat → List (D × Tg) → S
  | i :: is, (d, t) :: xs => (s.put i (d, t.own)).puts is xs
  | _, _ => s

mutual
def evalS : IS → S → Option (Fl × S)
  | .set i e, s => do
    let ((d, t), s1) ← evalE e s
    if i < s1.sl.length then some (.nx, (s1.keep t).put i (d, t.own)) else none
  | .setLc i elt tg src ifs, s => do
    let ((items, _), s1) ← evalSr src s
    let (ds, s2) ← lcRun (evalAll ifs) (evalE elt) tg items s1
    if i < s2.sl.length then some (.nx, s2.put i (.list ds, true)) else none
  | .setT is e, s => do
    let ((d, _), s1) ← evalE e s
    let s2 ← s1.bindT (.t is) d
    some (.nx, s2)
  | .set2 is es, s => do
    let (xs, s1) ← evalEs es s
    if is.length = xs.length ∧ (is.all fun i => decide (i < s1.sl.length)) then some (.nx, (s1.keeps (xs.map (·.2))).puts is xs) else none
  | .setIx i k e, s => do
    let _ ← rd s i
    let ((d, t), s1) ← evalE e s
    let ((kd, _), s2) ← evalE k (s1.keep t)
    match rd s2 i, kd with
    | some (.list xs, true), .int n => (ixN xs.length n).map fun j => (.nx, s2.put i (.list (xs.set j d), true))
    | _, _ => none
  | .pset i j e, s => do
    let ((d, _), s1) ← evalE e s
    match isPen (rd s i), d with
    | true, .int n => (s1.pn.bind (penSet j n)).map fun q => (.nx, { s1 with pn := some q })
    | _, _ => none
  | .aug op i e, s => do
    let p ← rd s i
    let ((d, _), s1) ← evalE e s
    match op, p.1, d with
    | .Add, .int a, .int b => if i < s1.sl.length then some (.nx, s1.put i (.int (a + b), false)) else none
    | .Sub, .int a, .int b => if i < s1.sl.length then some (.nx, s1.put i (.int (a - b), false)) else none
    | _, _, _ => none
  | .app i e, s => do
    let p ← rd s i
    let ((d, t), s1) ← evalE e s
    match p.2, rd (s1.keep t) i with
    | true, some (.list xs, true) => if xs.length < sizeLine then some (.nx, (s1.keep t).put i (.list (xs ++ [d]), true)) else none
    | _, _ => none
  | .ins i k e, s => do
    let p ← rd s i
    let ((kd, _), s0) ← evalE k s
    let ((d, t), s1) ← evalE e s0
    match p.2, rd (s1.keep t) i, kd with
    | true, some (.list xs, true), .int n => if xs.length < sizeLine ∧ 0 ≤ n ∧ n < 2 ^ 63 then some (.nx, (s1.keep t).put i (.list (xs.take n.toNat ++ [d] ++ xs.drop n.toNat), true)) else none
    | _, _, _ => none
  | .ext i e, s => do
    let p ← rd s i
    let ((d, t), s1) ← evalE e s
    match p.2, rd (s1.keep t) i, d with
    | true, some (.list xs, true), .list ys => if xs.length + ys.length ≤ sizeLine then some (.nx, (s1.keep t).put i (.list (xs ++ ys), true)) else none
    | _, _, _ => none
  | .rev i, s => match rd s i with
    | some (.list xs, true) => some (.nx, s.put i (.list xs.reverse, true))
    | _ => none
  | .expr e, s => do
    let (_, s1) ← evalE e s
    some (.nx, s1)
  | .ite c a b, s => do
    let (k, s1) ← boolD (evalE c s)
    if k then evalSs a s1 else evalSs b s1
  | .for tg src body, s => do
    let ((items, t), s1) ← evalSr src s
    fGo tg (evalSs body) items (s1.keep t)
  | .while n c body, s => wGo (fun s => boolD (evalE c s)) (evalSs body) n s
  | .ret e, s => do
    let ((d, t), s1) ← evalE e s
    some (.ret d (match t with | .fz => false | .fresh => true | .slot i => match rd s1 i with | some (_, true) => true | _ => false), s1)
  | .retN, s => some (.ret .none false, s)
  | .pass, s => some (.nx, s)
  | .brk, s => some (.brk, s)
  | .cont, s => some (.cont, s)
  | .never, _ => none
def evalSs : ISs → S → Option (Fl × S)
  | .nil, s => some (.nx, s)
  | .cons a b, s => do
    let (f, s1) ← evalS a s
    match f with
    | .nx => evalSs b s1
    | f => some (f, s1)
end

def start (n : Nat) (ds : List D) (pn : Option Pn) : S := ⟨ds.map (fun d => some (d, false)) ++ List.replicate (n - ds.length) none, pn⟩
/-- what a def with n slots and this body does -/
def runF (n : Nat) (body : ISs) : Fn := fun ds pn => (evalSs body (start n ds pn)).bind fun r => match r.1 with
  | .ret d fr => some ((d, fr), r.2.pn)
  | .nx => some ((.none, false), r.2.pn)
  | _ => none
end Fs

set_option Elab.async false
set_option linter.all false
set_option maxRecDepth 100000
set_option maxHeartbeats 4000000
namespace Fs
theorem insI_perm (n : Int) : ∀ l, (insI n l).Perm (n :: l)
  | [] => List.Perm.refl _
  | m :: r => by
    rw [insI]
    split
    · exact List.Perm.refl _
    · exact ((insI_perm n r).cons m).trans (List.Perm.swap n m r)
theorem srt_perm : ∀ l, (srtI l).Perm l
  | [] => List.Perm.refl _
  | n :: l => (insI_perm n (srtI l)).trans ((srt_perm l).cons n)
theorem insI_up {n : Int} : ∀ {l : List Int}, l.Pairwise (· ≤ ·) → (insI n l).Pairwise (· ≤ ·)
  | [], _ => by simp [insI]
  | m :: r, h => by
    rw [insI]
    rw [List.pairwise_cons] at h
    split
    · rename_i z
      rw [List.pairwise_cons, List.pairwise_cons]
      refine ⟨fun x hx => ?_, h⟩
      rcases List.mem_cons.mp hx with rfl | hx
      · exact z
      · exact Int.le_trans z (h.1 x hx)
    · rename_i z
      rw [List.pairwise_cons]
      refine ⟨fun x hx => ?_, insI_up h.2⟩
      rcases List.mem_cons.mp ((insI_perm n r).mem_iff.mp hx) with rfl | hx
      · omega
      · exact h.1 x hx
theorem srt_up : ∀ l, (srtI l).Pairwise (· ≤ ·)
  | [] => List.Pairwise.nil
  | n :: l => insI_up (srt_up l)
theorem up_uniq : ∀ {a b : List Int}, a.Perm b → a.Pairwise (· ≤ ·) → b.Pairwise (· ≤ ·) → a = b
  | [], b, p, _, _ => (List.Perm.nil_eq p)
  | x :: a, [], p, _, _ => by have := p.length_eq; simp at this
  | x :: a, y :: b, p, ha, hb => by
    rw [List.pairwise_cons] at ha hb
    have h1 : x = y := by
      have m1 := p.mem_iff.mp (List.mem_cons_self (a := x) (l := a))
      have m2 := p.mem_iff.mpr (List.mem_cons_self (a := y) (l := b))
      rcases List.mem_cons.mp m1 with e | m1
      · exact e
      rcases List.mem_cons.mp m2 with e | m2
      · exact e.symm
      have := hb.1 x m1
      have := ha.1 y m2
      omega
    subst h1
    rw [up_uniq (List.Perm.cons_inv p) ha.2 hb.2]
theorem srt_of {a b : List Int} (p : b.Perm a) (h : b.Pairwise (· ≤ ·)) : b = srtI a := up_uniq (p.trans (srt_perm a).symm) h (srt_up a)
theorem srt_mem {n : Int} {l : List Int} : n ∈ srtI l ↔ n ∈ l := (srt_perm l).mem_iff
theorem srt_len {l : List Int} : (srtI l).length = l.length := (srt_perm l).length_eq
theorem srt_nodup {l : List Int} (h : l.Nodup) : (srtI l).Pairwise (· < ·) := by
  have h1 := srt_up l
  have h2 : (srtI l).Nodup := (srt_perm l).nodup_iff.mpr h
  have : ∀ {l : List Int}, l.Pairwise (· ≤ ·) → l.Nodup → l.Pairwise (· < ·) := by
    intro l
    induction l with
    | nil => intro _ _; exact List.Pairwise.nil
    | cons x r ih =>
      intro a b
      rw [List.pairwise_cons] at a
      rw [List.nodup_cons] at b
      rw [List.pairwise_cons]
      refine ⟨fun y hy => ?_, ih a.2 b.2⟩
      have := a.1 y hy
      have : x ≠ y := fun e => b.1 (e ▸ hy)
      omega
  exact this h1 h2

theorem leP_iff {p q : Int × Int} : leP p q = true ↔ p.1 < q.1 ∨ (p.1 = q.1 ∧ p.2 ≤ q.2) := by
  unfold leP
  rw [Bool.or_eq_true, Bool.and_eq_true, decide_eq_true_iff, decide_eq_true_iff, decide_eq_true_iff]
theorem insP_perm (p : Int × Int) : ∀ l, (insP p l).Perm (p :: l)
  | [] => List.Perm.refl _
  | q :: r => by
    rw [insP]
    split
    · exact List.Perm.refl _
    · exact ((insP_perm p r).cons q).trans (List.Perm.swap p q r)
theorem srtP_perm : ∀ l, (srtP l).Perm l
  | [] => List.Perm.refl _
  | n :: l => (insP_perm n (srtP l)).trans ((srtP_perm l).cons n)
theorem leP_trans {a b c : Int × Int} (h1 : leP a b = true) (h2 : leP b c = true) : leP a c = true := by
  rw [leP_iff] at *
  omega
theorem insP_up {p : Int × Int} : ∀ {l : List (Int × Int)}, l.Pairwise (fun a b => leP a b = true) → (insP p l).Pairwise (fun a b => leP a b = true)
  | [], _ => by simp [insP]
  | m :: r, h => by
    rw [insP]
    rw [List.pairwise_cons] at h
    split
    · rename_i z
      rw [List.pairwise_cons, List.pairwise_cons]
      refine ⟨fun x hx => ?_, h⟩
      rcases List.mem_cons.mp hx with rfl | hx
      · exact z
      · exact leP_trans z (h.1 x hx)
    · rename_i z
      rw [List.pairwise_cons]
      refine ⟨fun x hx => ?_, insP_up h.2⟩
      rcases List.mem_cons.mp ((insP_perm p r).mem_iff.mp hx) with rfl | hx
      · rw [leP_iff] at *
        omega
      · exact h.1 x hx
theorem srtP_up : ∀ l, (srtP l).Pairwise (fun a b => leP a b = true)
  | [] => List.Pairwise.nil
  | n :: l => insP_up (srtP_up l)
theorem upP_uniq : ∀ {a b : List (Int × Int)}, a.Perm b → a.Pairwise (fun a b => leP a b = true) → b.Pairwise (fun a b => leP a b = true) → a = b
  | [], b, p, _, _ => (List.Perm.nil_eq p)
  | x :: a, [], p, _, _ => by have := p.length_eq; simp at this
  | x :: a, y :: b, p, ha, hb => by
    rw [List.pairwise_cons] at ha hb
    have h1 : x = y := by
      have m1 := p.mem_iff.mp (List.mem_cons_self (a := x) (l := a))
      have m2 := p.mem_iff.mpr (List.mem_cons_self (a := y) (l := b))
      rcases List.mem_cons.mp m1 with e | m1
      · exact e
      rcases List.mem_cons.mp m2 with e | m2
      · exact e.symm
      have h1 := leP_iff.mp (hb.1 x m1)
      have h2 := leP_iff.mp (ha.1 y m2)
      exact Prod.ext (by omega) (by omega)
    subst h1
    rw [upP_uniq (List.Perm.cons_inv p) ha.2 hb.2]
theorem srtP_of {a b : List (Int × Int)} (p : b.Perm a) (h : b.Pairwise (fun a b => leP a b = true)) : b = srtP a := upP_uniq (p.trans (srtP_perm a).symm) h (srtP_up a)
theorem pairsOf_some : ∀ {xs : List D} {ps : List (Int × Int)}, pairsOf xs = some ps → xs = ps.map pairD
  | [], ps, h => by cases h; rfl
  | x :: xs, ps, h => by
    unfold pairsOf at h
    split at h
    · rename_i e; cases e
    · rename_i a b r e
      cases e
      obtain ⟨qs, h1, rfl⟩ := Option.map_eq_some_iff.mp h
      rw [pairsOf_some h1]; rfl
    · cases h
end Fs

set_option Elab.async false
set_option linter.all false
set_option maxRecDepth 100000
set_option maxHeartbeats 4000000
namespace Ku
open Fs (srt_perm srt_up srt_of srt_mem srt_len srt_nodup)
abbrev Sd := List (Int × Int)
def has (sd : Sd) (n : Int) : Bool := sd.any fun p => decide (p.1 = n)
def put (sd : Sd) (n k : Int) : Sd := if has sd n = true then sd.map (fun p => if p.1 = n then (p.1, k) else p) else sd ++ [(n, k)]
def on (sd : Sd) (k : Int) : List Int := (sd.filter fun p => decide (p.2 = k)).map (·.1)
structure Cfg where
  ks : Int → List Int
  cap : Int → Int
abbrev Rs := Option (Bool × Sd × List Int)
def goOn (rec : Int → Sd → List Int → Rs) : List Int → Sd → List Int → Rs
  | [], sd, tr => some (false, sd, tr)
  | o :: os, sd, tr => (rec o sd tr).bind fun r => if r.1 = true then some r else goOn rec os r.2.1 r.2.2
def goKs (cap : Int → Int) (rec : Int → Sd → List Int → Rs) (n : Int) : List Int → Sd → List Int → Rs
  | [], sd, tr => some (false, sd, tr)
  | k :: ks, sd, tr => if k ∈ tr then goKs cap rec n ks sd tr else
      if ((on sd k).length : Int) < cap k then some (true, put sd n k, tr ++ [k])
      else (goOn rec (on sd k) sd (tr ++ [k])).bind fun r => if r.1 = true then some (true, put r.2.1 n k, r.2.2) else goKs cap rec n ks r.2.1 r.2.2
def place (C : Cfg) : Nat → Int → Sd → List Int → Rs
  | 0, _, _, _ => none
  | j + 1, n, sd, tr => goKs C.cap (place C j) n (C.ks n) sd tr
abbrev srt (ns : List Int) : List Int := Fs.srtI ns
def beside (sd : Sd) (tr : List Int) : List Int := (sd.filter fun p => decide (p.2 ∈ tr)).map (·.1)
def seat (C : Cfg) : List Int → Sd → Option (Sd × Option (List Int))
  | [], sd => some (sd, none)
  | n :: ns, sd => (place C 12 n sd []).bind fun r => if r.1 = true then seat C ns r.2.1 else some (r.2.1, some (srt (beside r.2.1 r.2.2 ++ [n])))

def keys (sd : Sd) : List Int := sd.map (·.1)
def at_ (sd : Sd) (n : Int) : Option Int := (sd.find? fun p => decide (p.1 = n)).map (·.2)
theorem at_nil {n : Int} : at_ [] n = none := rfl
theorem at_cons {p : Int × Int} {r : Sd} {n : Int} : at_ (p :: r) n = if p.1 = n then some p.2 else at_ r n := by
  unfold at_
  rw [List.find?_cons]
  by_cases h : p.1 = n
  · rw [if_pos h, decide_eq_true h]; rfl
  · rw [if_neg h, decide_eq_false h]
theorem at_mem {n k : Int} : ∀ {sd : Sd}, (keys sd).Nodup → (at_ sd n = some k ↔ (n, k) ∈ sd)
  | [], _ => by simp [at_nil]
  | p :: r, h => by
    have h' : (p.1 :: keys r).Nodup := h
    rw [List.nodup_cons] at h'
    rw [at_cons, List.mem_cons]
    have ih := at_mem (n := n) (k := k) h'.2
    by_cases e : p.1 = n
    · rw [if_pos e]
      constructor
      · intro z; cases z; exact .inl (by rw [← e])
      · rintro (z | z)
        · rw [← z]
        · exact absurd (List.mem_map.mpr ⟨_, z, rfl⟩) (by rw [← e] at *; exact h'.1)
    · rw [if_neg e, ih]
      constructor
      · exact .inr
      · rintro (z | z)
        · exact absurd (by rw [← z]) e
        · exact z
theorem has_iff {sd : Sd} {n : Int} : has sd n = true ↔ n ∈ keys sd := by
  unfold has keys
  rw [List.any_eq_true, List.mem_map]
  constructor
  · rintro ⟨p, h1, h2⟩; exact ⟨p, h1, of_decide_eq_true h2⟩
  · rintro ⟨p, h1, h2⟩; exact ⟨p, h1, decide_eq_true h2⟩
theorem put_keys {sd : Sd} {n k m : Int} : m ∈ keys (put sd n k) ↔ m = n ∨ m ∈ keys sd := by
  unfold put
  by_cases z : has sd n = true
  · rw [if_pos z]
    have e : keys (sd.map (fun p => if p.1 = n then (p.1, k) else p)) = keys sd := by
      unfold keys
      rw [List.map_map]
      refine List.map_congr_left fun p _ => ?_
      show (if p.1 = n then (p.1, k) else p).1 = p.1
      split <;> rfl
    rw [e]
    constructor
    · exact .inr
    · rintro (rfl | h)
      · exact has_iff.mp z
      · exact h
  · rw [if_neg z]
    unfold keys
    rw [List.map_append, List.mem_append]
    simp only [List.map_cons, List.map_nil, List.mem_singleton]
    exact Or.comm
theorem put_nodup {sd : Sd} {n k : Int} (h : (keys sd).Nodup) : (keys (put sd n k)).Nodup := by
  unfold put
  by_cases z : has sd n = true
  · rw [if_pos z]
    have e : keys (sd.map (fun p => if p.1 = n then (p.1, k) else p)) = keys sd := by
      unfold keys
      rw [List.map_map]
      refine List.map_congr_left fun p _ => ?_
      show (if p.1 = n then (p.1, k) else p).1 = p.1
      split <;> rfl
    rw [e]; exact h
  · rw [if_neg z]
    unfold keys
    rw [List.map_append]
    refine List.nodup_append.mpr ⟨h, by simp, ?_⟩
    intro a ha b hb e
    simp only [List.map_cons, List.map_nil, List.mem_singleton] at hb
    subst e hb
    exact z (has_iff.mpr ha)
def cnt (sd : Sd) (k : Int) : Nat := (on sd k).length
def ind (p : Prop) [Decidable p] : Nat := if p then 1 else 0
end Ku

set_option Elab.async false
set_option linter.all false
set_option maxRecDepth 100000
set_option maxHeartbeats 4000000
namespace Ku
open Fs (srt_perm srt_up srt_of srt_mem srt_len srt_nodup)
/-- each seated claim sits on one of its kinds -/
structure Sits (C : Cfg) (sd : Sd) : Prop where
  nd : (keys sd).Nodup
  kd : ∀ m k, at_ sd m = some k → k ∈ C.ks m
structure Won (C : Cfg) (n : Int) (sd : Sd) (tr : List Int) (sd' : Sd) : Prop where
  si : Sits C sd'
  ky : ∀ m, m ∈ keys sd' ↔ m = n ∨ m ∈ keys sd
  stay : ∀ m k, m ≠ n → k ∈ tr → at_ sd m = some k → at_ sd' m = some k
  away : ∃ k, at_ sd' n = some k ∧ k ∉ tr
  ct : ∃ kf, ((cnt sd kf : Nat) : Int) < C.cap kf ∧ ∀ k, cnt sd' k + ind (at_ sd n = some k) = cnt sd k + ind (kf = k)
structure Lost (C : Cfg) (ks : List Int) (sd : Sd) (tr tr' : List Int) : Prop where
  sub : ∀ k, k ∈ tr → k ∈ tr'
  own : ∀ k, k ∈ ks → k ∈ tr'
  full : ∀ k, k ∈ tr' → k ∉ tr → C.cap k ≤ ((cnt sd k : Nat) : Int) ∧ ∀ o, at_ sd o = some k → ∀ x, x ∈ C.ks o → x ∈ tr'
  nd : tr.Nodup → tr'.Nodup
  fr : ∀ k, k ∈ tr' → k ∈ tr ∨ ∃ n, k ∈ C.ks n
theorem Won.mono {C : Cfg} {n : Int} {sd sd' : Sd} {tr tr' : List Int} (h : Won C n sd tr' sd') (s : ∀ k, k ∈ tr → k ∈ tr') : Won C n sd tr sd' :=
  ⟨h.si, h.ky, fun m k a b c => h.stay m k a (s k b) c, by obtain ⟨k, a, b⟩ := h.away; exact ⟨k, a, fun z => b (s k z)⟩, h.ct⟩
theorem Lost.refl {C : Cfg} {sd : Sd} {tr : List Int} : Lost C [] sd tr tr := ⟨fun _ h => h, fun _ h => by simp at h, fun _ h n => absurd h n, fun h => h, fun _ h => .inl h⟩
/-- what a call for a claim answers -/
structure Good (C : Cfg) (n : Int) (sd : Sd) (tr : List Int) (r : Bool × Sd × List Int) : Prop where
  won : r.1 = true → Won C n sd tr r.2.1
  lost : r.1 = false → r.2.1 = sd ∧ Lost C (C.ks n) sd tr r.2.2
section
variable {C : Cfg} {rec : Int → Sd → List Int → Rs}
end
def left (U tr : List Int) : Nat := (U.filter fun k => decide (k ∉ tr)).length
section
variable {C : Cfg} {rec : Int → Sd → List Int → Rs} {U : List Int} {m : Nat}
end
def sumC (cap : Int → Int) (T : List Int) : Int := (T.map cap).sum
structure Seated (C : Cfg) (ns : List Int) (sd : Sd) : Prop where
  si : Sits C sd
  ky : ∀ m, m ∈ keys sd ↔ m ∈ ns
  ct : ∀ k, ((cnt sd k : Nat) : Int) ≤ C.cap k
structure Short (C : Cfg) (ns S : List Int) : Prop where
  up : S.Pairwise (· < ·)
  sub : ∀ m ∈ S, m ∈ ns
  ex : ∃ T : List Int, T.Nodup ∧ (∀ m ∈ S, ∀ k ∈ C.ks m, k ∈ T) ∧ ((S.length : Nat) : Int) = sumC C.cap T + 1 ∧ (∀ k ∈ T, ∃ n, k ∈ C.ks n)
end Ku

set_option Elab.async false
set_option linter.all false
set_option maxRecDepth 100000
set_option maxHeartbeats 4000000
namespace Ku
open Fs (srt_perm srt_up srt_of srt_mem srt_len srt_nodup)
structure SdI (ok : Int → Prop) (sd : Sd) : Prop where
  nd : (keys sd).Nodup
  ok : ∀ m ∈ keys sd, ok m
structure TrI (T : Int → Prop) (tr : List Int) : Prop where
  nd : tr.Nodup
  ok : ∀ k ∈ tr, T k
def Keeps (ok T : Int → Prop) (r : Bool × Sd × List Int) : Prop := SdI ok r.2.1 ∧ TrI T r.2.2
theorem on_keys {sd : Sd} {k n : Int} (h : n ∈ on sd k) : n ∈ keys sd := by
  obtain ⟨p, h1, h2⟩ := List.mem_map.mp h
  exact List.mem_map.mpr ⟨p, (List.mem_filter.mp h1).1, h2⟩
theorem SdI.put {ok : Int → Prop} {sd : Sd} {n k : Int} (h : SdI ok sd) (hn : ok n) : SdI ok (put sd n k) :=
  ⟨put_nodup h.nd, fun m hm => by
    rcases put_keys.mp hm with e | e
    · rw [e]; exact hn
    · exact h.ok m e⟩
theorem TrI.add {T : Int → Prop} {tr : List Int} {k : Int} (h : TrI T tr) (hk : T k) (n : k ∉ tr) : TrI T (tr ++ [k]) := by
  refine ⟨List.nodup_append.mpr ⟨h.nd, by simp, fun a ha b hb e => ?_⟩, fun x hx => ?_⟩
  · simp only [List.mem_singleton] at hb
    subst e hb
    exact n ha
  · rcases List.mem_append.mp hx with hx | hx
    · exact h.ok x hx
    · rw [List.mem_singleton.mp hx]; exact hk
section
variable {ok T : Int → Prop} {rec : Int → Sd → List Int → Rs}
theorem goOn_keeps (hr : ∀ o sd tr r, ok o → SdI ok sd → TrI T tr → rec o sd tr = some r → Keeps ok T r) : ∀ (os : List Int) (sd : Sd) (tr : List Int) (r : Bool × Sd × List Int), (∀ o ∈ os, ok o) → SdI ok sd → TrI T tr → goOn rec os sd tr = some r → Keeps ok T r
  | [], sd, tr, r, _, hs, ht, h => by
    rw [goOn] at h
    cases h
    exact ⟨hs, ht⟩
  | o :: os, sd, tr, r, ho, hs, ht, h => by
    rw [goOn] at h
    obtain ⟨q, h1, h2⟩ := Option.bind_eq_some_iff.mp h
    have g := hr o sd tr q (ho o (by simp)) hs ht h1
    split at h2
    · cases h2; exact g
    · exact goOn_keeps hr os q.2.1 q.2.2 r (fun x hx => ho x (List.mem_cons_of_mem _ hx)) g.1 g.2 h2
theorem goKs_keeps {cap : Int → Int} {n : Int} (hn : ok n) (hr : ∀ o sd tr r, ok o → SdI ok sd → TrI T tr → rec o sd tr = some r → Keeps ok T r) : ∀ (ks : List Int) (sd : Sd) (tr : List Int) (r : Bool × Sd × List Int), (∀ k ∈ ks, T k) → SdI ok sd → TrI T tr → goKs cap rec n ks sd tr = some r → Keeps ok T r
  | [], sd, tr, r, _, hs, ht, h => by
    rw [goKs] at h
    cases h
    exact ⟨hs, ht⟩
  | k :: ks, sd, tr, r, hk, hs, ht, h => by
    rw [goKs] at h
    have hk' : ∀ k ∈ ks, T k := fun x hx => hk x (List.mem_cons_of_mem _ hx)
    split at h
    · exact goKs_keeps hn hr ks sd tr r hk' hs ht h
    · rename_i z
      have ht' := ht.add (hk k (by simp)) z
      split at h
      · cases h; exact ⟨hs.put hn, ht'⟩
      · obtain ⟨q, h1, h2⟩ := Option.bind_eq_some_iff.mp h
        have g := goOn_keeps hr (on sd k) sd (tr ++ [k]) q (fun o ho => hs.ok o (on_keys ho)) hs ht' h1
        split at h2
        · cases h2; exact ⟨g.1.put hn, g.2⟩
        · exact goKs_keeps hn hr ks q.2.1 q.2.2 r hk' g.1 g.2 h2
end
theorem place_keeps {C : Cfg} {ok T : Int → Prop} (hT : ∀ n, ok n → ∀ k ∈ C.ks n, T k) : ∀ (j : Nat) (n : Int) (sd : Sd) (tr : List Int) (r : Bool × Sd × List Int), ok n → SdI ok sd → TrI T tr → place C j n sd tr = some r → Keeps ok T r
  | 0, _, _, _, _, _, _, _, h => by rw [place] at h; cases h
  | j + 1, n, sd, tr, r, hn, hs, ht, h => by
    rw [place] at h
    exact goKs_keeps hn (fun o sd tr r => place_keeps hT j o sd tr r) (C.ks n) sd tr r (hT n hn) hs ht h
/-- different numbers within bounds -/
theorem nodup_sub : ∀ {a b : List Int}, a.Nodup → (∀ x ∈ a, x ∈ b) → a.length ≤ b.length
  | [], _, _, _ => Nat.zero_le _
  | x :: a, b, h, s => by
    rw [List.nodup_cons] at h
    have h1 := nodup_sub (a := a) (b := b.erase x) h.2 fun y hy => by
      have : y ≠ x := fun e => h.1 (e ▸ hy)
      exact (List.mem_erase_of_ne this).mpr (s y (List.mem_cons_of_mem _ hy))
    have h2 := s x (by simp)
    have h3 := List.length_erase_of_mem h2
    have h4 := List.length_pos_of_mem h2
    simp only [List.length_cons]
    omega
theorem nodup_len {a : List Int} {N : Nat} (h : a.Nodup) (s : ∀ x ∈ a, 0 ≤ x ∧ x < N) : a.length ≤ N := by
  have := nodup_sub (b := (List.range N).map fun i : Nat => (i : Int)) h fun x hx => by
    obtain ⟨h1, h2⟩ := s x hx
    rw [List.mem_map]
    exact ⟨x.toNat, List.mem_range.mpr (by omega), by omega⟩
  simpa using this
/-- the claims whose kinds are all within K -/
def within (C : Cfg) (ns K : List Int) : List Int := ns.filter fun m => (C.ks m).all fun k => decide (k ∈ K)
end Ku

set_option Elab.async false
set_option linter.all false
set_option maxRecDepth 100000
set_option maxHeartbeats 4000000
namespace Fs
open PySem PySem.Spec PyProof.Rows L2 SrtO
def rSortedTI (K : PySem.W.Frag) : List V → Hp → VK → Prop := fun vs H Q => ∃ (a : Addr) (ns : List Int), vs = [V.ref a] ∧ SqT K H a (ns.map V.int) ∧
  ∀ (ns' : List Int) (p : Addr), ns'.Perm ns → ns'.Pairwise (· ≤ ·) → H p = none → Q (.ref p) (upd H p (.lst (ns'.map V.int)))
section
variable {X : Cx}
theorem cr_sortedTI : CallR X (.builtin "sorted") (rSortedTI X.K) := by
  intro pins s σ H vs us Q I r h
  obtain ⟨a, ns, rfl, hs, q⟩ := h
  obtain ⟨its, rv, ⟨o, ho, hc, n, hd⟩, hz⟩ := I.tuple hs
  rw [Vals.ref1 r]
  have hi := rv.ints
  have hl := rv.length
  have hz2 : its.length ≤ sizeLine := by rw [← hl]; exact hz
  refine Calls.call_function_entry kind_sorted plain_sorted entry_sorted (args_sorted1 _) ?_
  unfold Builtin.«sorted»
  refine wpAny_bind (m := checkCount "sorted" 1 1 _) (wpAny_pure ?_)
  refine wpAny_bind (wpAny_collect_seq a (.inr rfl) ho hc hd (fun h' hk => ?_) (by rw [List.size_toArray]; exact hz2))
  have et : its.toArray.toList = its := by simp
  rw [et]
  refine wpAny_bind (wpAny_newList ?_ hz2)
  have hoL : (h'.push (seqObj "list" its.toArray 0)).get? h'.objs.size = some (seqObj "list" its.toArray 0) := Heap.get?_push_size _ rfl
  refine wpAny_bind (wpAny_holding (wpAny_call_entry slot_list_sort ⟨_, hoL, rfl⟩ entry_list_sort (list_sort_ord SrtO.swo_int hoL hz2 (fun h2 => SrtO.ints_sortable hi h2) fun out h1 h2 => ⟨_, rfl, ?_⟩) (args_list_sort _)))
  refine wpAny_pure ⟨_, rfl, ?_⟩
  obtain ⟨k1, k2, k3⟩ := SrtO.ints_out hi h1 h2
  obtain ⟨ep, he'⟩ := PyProof.Rows.sortedHeap_at (vs := its) (out := out.toArray) hoL
  have hlen : ((out.map SrtO.iv).map V.int).length ≤ sizeLine := by
    rw [List.length_map, k2.length_eq]
    rw [List.length_map] at hz
    exact hz
  have I1 := I.kept (t' := s.toks) hk
  refine ⟨.ref _, upd H h'.objs.size (.lst ((out.map SrtO.iv).map V.int)), I1.laid (t' := s.toks) (fun b u hb => ?_) (Nat.le_refl _) ⟨hlen, out, ep, vals_of_ints k1, he'⟩, rfl, q _ _ k2 k3 (I1.hok.fresh (Nat.le_refl _))⟩
  have hb : h'.get? b = some u := hb
  rw [PyProof.Rows.sortedHeap_old (Nat.ne_of_lt (Heap.lt_size hb)) (Heap.lt_size (Heap.get?_push_of_some _ hb))]
  exact Heap.get?_push_of_some _ hb
end
end Fs

set_option Elab.async false
set_option linter.all false
set_option maxRecDepth 100000
set_option maxHeartbeats 4000000
namespace Fs
open PySem L2

/-- the pen's place and its cells' place -/
abbrev PA := Option (Addr × Addr)
/-- a tuple of ours: its object is known, and bears no dict -/
def TupAt (G : Hp) (a : Addr) (xs : List V) : Prop := ∃ o : Obj, G a = some (.frz o (.tup xs)) ∧ o.dict = none
theorem TupAt.sq {G : Hp} {K : PySem.W.Frag} {a : Addr} {xs : List V} (h : TupAt G a xs) : SqT K G a xs := .inl (.inr (h.imp fun _ z => z.1))
theorem TupAt.up {G H : Hp} {a : Addr} {xs : List V} (h : TupAt G a xs) (k : ∀ a o, G a = some o → H a = some o) : TupAt H a xs := h.imp fun _ z => ⟨k _ _ z.1, z.2⟩
theorem TupAt.at1 {G H : Hp} {a : Addr} {xs : List V} (h : TupAt G a xs) (k : ∀ o, G a = some o → H a = some o) : TupAt H a xs := h.imp fun _ z => ⟨k _ z.1, z.2⟩
theorem TupAt.here {H : Hp} {a : Addr} {xs : List V} {o : Obj} (h : o.dict = none) : TupAt (upd H a (.frz o (.tup xs))) a xs := ⟨o, upd_same, h⟩
theorem TupAt.there {G : Hp} {a : Addr} {xs : List V} (h : TupAt G a xs) (z : G a = none) : False := by
  obtain ⟨o, e, _⟩ := h
  rw [z] at e; cases e
/-- what a new tuple is handed to -/
def mkT (H : Hp) (Q : VK) (xs : List V) : Prop := ∀ p o, H p = none → o.dict = none → Q (.ref p) (upd H p (.frz o (.tup xs)))

/-- an exception of the class cls at a -/
def exT (cls : Value) (d : Option Addr) (a : Addr) : HO := .ext fun h => ∃ (oe : Obj) (vs : Array Value), h.get? a = some oe ∧ L2.Zc cls d oe ∧ oe.data = .fields vs
mutual
inductive Rp (pa : PA) (G : Hp) : V → D → Prop where
  | non : Rp pa G .non .none
  | bl (b : Bool) : Rp pa G (.bl b) (.bool b)
  | int (i : Int) : Rp pa G (.int i) (.int i)
  | str (x : Str) : Rp pa G (.str x) (.str x)
  | lst {a : Addr} {xs : List V} {ds : List D} : G a = some (.lst xs) → Rps pa G xs ds → Rp pa G (.ref a) (.list ds)
  | tup {a : Addr} {xs : List V} {ds : List D} : TupAt G a xs → Rps pa G xs ds → Rp pa G (.ref a) (.tuple ds)
  | pen {a c : Addr} : pa = some (a, c) → Rp pa G (.ref a) (.dict [])
  | exc {a C : Addr} {c : Str} : G a = some (exT (.ref C) none a) → Rp pa G (.ref a) (.dict [(.int (C : Nat), .str c)])
inductive Rps (pa : PA) (G : Hp) : List V → List D → Prop where
  | nil : Rps pa G [] []
  | cons {v : V} {d : D} {vs : List V} {ds : List D} : Rp pa G v d → Rps pa G vs ds → Rps pa G (v :: vs) (d :: ds)
end

def Sub (G H : Hp) : Prop := ∀ a o, G a = some o → H a = some o
theorem Sub.refl {G : Hp} : Sub G G := fun _ _ h => h
theorem Sub.trans {F G H : Hp} (a : Sub F G) (b : Sub G H) : Sub F H := fun x o h => b x o (a x o h)
theorem Sub.upd {G : Hp} {a : Addr} {o : HO} (h : G a = none) : Sub G (upd G a o) := fun b u e => by
  rw [upd_ne (ne_of_none e h)]; exact e

section
variable {pa : PA} {G G' : Hp}
mutual
theorem Rp.mono (s : Sub G G') : ∀ {v : V} {d : D}, Rp pa G v d → Rp pa G' v d
  | _, _, .non => .non
  | _, _, .bl b => .bl b
  | _, _, .int i => .int i
  | _, _, .str x => .str x
  | _, _, .lst h r => .lst (s _ _ h) (Rps.mono s r)
  | _, _, .tup h r => .tup (h.up s) (Rps.mono s r)
  | _, _, .pen h => .pen h
  | _, _, .exc h => .exc (s _ _ h)
theorem Rps.mono (s : Sub G G') : ∀ {vs : List V} {ds : List D}, Rps pa G vs ds → Rps pa G' vs ds
  | _, _, .nil => .nil
  | _, _, .cons r t => .cons (Rp.mono s r) (Rps.mono s t)
end
mutual
theorem Rp.open (a : PA) (h : pa = none) : ∀ {v : V} {d : D}, Rp pa G v d → Rp a G v d
  | _, _, .non => .non
  | _, _, .bl b => .bl b
  | _, _, .int i => .int i
  | _, _, .str x => .str x
  | _, _, .lst e r => .lst e (Rps.open a h r)
  | _, _, .tup e r => .tup e (Rps.open a h r)
  | _, _, .pen e => by rw [h] at e; cases e
  | _, _, .exc e => .exc e
theorem Rps.open (a : PA) (h : pa = none) : ∀ {vs : List V} {ds : List D}, Rps pa G vs ds → Rps a G vs ds
  | _, _, .nil => .nil
  | _, _, .cons r t => .cons (Rp.open a h r) (Rps.open a h t)
end
theorem Rps.len : ∀ {vs : List V} {ds : List D}, Rps pa G vs ds → vs.length = ds.length
  | _, _, .nil => rfl
  | _, _, .cons _ t => by simp [Rps.len t]
theorem Rps.app : ∀ {vs us : List V} {ds es : List D}, Rps pa G vs ds → Rps pa G us es → Rps pa G (vs ++ us) (ds ++ es)
  | _, _, _, _, .nil, s => s
  | _, _, _, _, .cons r t, s => .cons r (Rps.app t s)
theorem Rps.get : ∀ {vs : List V} {ds : List D} {i : Nat} {d : D}, Rps pa G vs ds → ds[i]? = some d → ∃ v, vs[i]? = some v ∧ Rp pa G v d
  | _, _, _, _, .nil, e => by simp at e
  | _, _, 0, _, .cons r _, e => by simp at e; subst e; exact ⟨_, rfl, r⟩
  | _, _, i + 1, d, .cons _ t, e => by
    obtain ⟨v, h, r⟩ := Rps.get (i := i) t (by simpa using e)
    exact ⟨v, by simpa using h, r⟩
theorem Rps.getV : ∀ {vs : List V} {ds : List D} {i : Nat} {v : V}, Rps pa G vs ds → vs[i]? = some v → ∃ d, ds[i]? = some d ∧ Rp pa G v d
  | _, _, _, _, .nil, e => by simp at e
  | _, _, 0, _, .cons r _, e => by simp at e; subst e; exact ⟨_, rfl, r⟩
  | _, _, i + 1, v, .cons _ t, e => by
    obtain ⟨d, h, r⟩ := Rps.getV (i := i) t (by simpa using e)
    exact ⟨d, by simpa using h, r⟩
theorem Rps.take : ∀ {vs : List V} {ds : List D} (n : Nat), Rps pa G vs ds → Rps pa G (vs.take n) (ds.take n)
  | _, _, 0, _ => .nil
  | _, _, _ + 1, .nil => .nil
  | _, _, n + 1, .cons r t => .cons r (Rps.take n t)
theorem Rps.drop : ∀ {vs : List V} {ds : List D} (n : Nat), Rps pa G vs ds → Rps pa G (vs.drop n) (ds.drop n)
  | _, _, 0, r => r
  | _, _, _ + 1, .nil => .nil
  | _, _, n + 1, .cons _ t => Rps.drop n t
theorem Rps.set {v : V} {d : D} (r : Rp pa G v d) : ∀ {vs : List V} {ds : List D} (i : Nat), Rps pa G vs ds → Rps pa G (vs.set i v) (ds.set i d)
  | _, _, _, .nil => .nil
  | _, _, 0, .cons _ t => .cons r t
  | _, _, i + 1, .cons q t => .cons q (Rps.set r i t)
theorem Rps.rev {vs : List V} {ds : List D} (h : Rps pa G vs ds) : Rps pa G vs.reverse ds.reverse := by
  induction vs generalizing ds with
  | nil => cases h; exact .nil
  | cons v vs ih =>
    cases h with
    | cons r t => rw [List.reverse_cons, List.reverse_cons]; exact (ih t).app (.cons r .nil)
theorem Rps.rep {vs : List V} {ds : List D} (h : Rps pa G vs ds) : ∀ k : Nat, Rps pa G (List.replicate k vs).flatten (List.replicate k ds).flatten
  | 0 => .nil
  | k + 1 => by rw [List.replicate_succ, List.replicate_succ, List.flatten_cons, List.flatten_cons]; exact h.app (Rps.rep h k)
theorem Rps.ints : ∀ {vs : List V} {ds : List D} {ns : List Int}, Rps pa G vs ds → intsOf ds = some ns → vs = ns.map V.int
  | _, _, _, .nil, e => by cases e; rfl
  | _, _, ns, .cons r t, e => by
    cases r with
    | int i =>
      rename_i vs ds
      cases h : intsOf ds with
      | none => rw [intsOf, h] at e; cases e
      | some ms =>
        rw [intsOf, h] at e
        obtain rfl : i :: ms = ns := by simpa using e
        rw [Rps.ints t h, List.map_cons]
    | _ => cases e
theorem Rps.ofInts : ∀ (ns : List Int), Rps pa G (ns.map V.int) (ns.map .int)
  | [] => .nil
  | n :: ns => .cons (.int n) (Rps.ofInts ns)
theorem Rps.bools : ∀ {vs : List V} {ds : List D} {bs : List Bool}, Rps pa G vs ds → boolsOf ds = some bs → vs = bs.map V.bl
  | _, _, _, .nil, e => by cases e; rfl
  | _, _, ns, .cons r t, e => by
    cases r with
    | bl i =>
      rename_i vs ds
      cases h : boolsOf ds with
      | none => rw [boolsOf, h] at e; cases e
      | some ms =>
        rw [boolsOf, h] at e
        obtain rfl : i :: ms = ns := by simpa using e
        rw [Rps.bools t h, List.map_cons]
    | _ => cases e
/-- data without dicts are the hand layer's data -/
theorem Rp.dps (K : PySem.W.Frag) : ∀ (n : Nat), (∀ {v : V} {d : D}, good n d = true → Rp pa G v d → Dp K G v d) ∧ ∀ {vs : List V} {ds : List D}, goods n ds = true → Rps pa G vs ds → DpAll K G vs ds := by
  intro n
  induction n with
  | zero =>
    have h1 : ∀ {v : V} {d : D}, good 0 d = true → Rp pa G v d → Dp K G v d := by
      intro v d g r
      cases r with
      | non => exact .non
      | bl b => exact .bl b
      | int i => exact .int i
      | str x => exact .str x
      | lst h r => simp [good] at g
      | tup h r => simp [good] at g
      | pen h => simp [good] at g
      | exc h => simp [good] at g
    refine ⟨h1, ?_⟩
    intro vs ds g r
    induction vs generalizing ds with
    | nil => cases r; exact .nil
    | cons v vs ih =>
      cases r with
      | cons r t =>
        simp only [goods, Bool.and_eq_true] at g
        exact .cons (h1 g.1 r) (ih g.2 t)
  | succ n ih =>
    have h1 : ∀ {v : V} {d : D}, good (n + 1) d = true → Rp pa G v d → Dp K G v d := by
      intro v d g r
      cases r with
      | non => exact .non
      | bl b => exact .bl b
      | int i => exact .int i
      | str x => exact .str x
      | lst h r => exact .lst (.of h) (ih.2 (by simpa [good] using g) r)
      | tup h r => exact .tup h.sq (ih.2 (by simpa [good] using g) r)
      | pen h => simp [good] at g
      | exc h => simp [good] at g
    refine ⟨h1, ?_⟩
    intro vs ds g r
    induction vs generalizing ds with
    | nil => cases r; exact .nil
    | cons v vs ih2 =>
      cases r with
      | cons r t =>
        simp only [goods, Bool.and_eq_true] at g
        exact .cons (h1 g.1 r) (ih2 g.2 t)
theorem Rp.dp (K : PySem.W.Frag) {n : Nat} {v : V} {d : D} (g : good n d = true) (r : Rp pa G v d) : Dp K G v d := (Rp.dps K n).1 g r
end

theorem good_lay : ∀ (n : Nat), (∀ d : D, good n d = true → d.canLay0 = true ∧ d.depth ≤ n) ∧ ∀ ds : List D, goods n ds = true → PyData.canLayAll0 ds = true ∧ PyData.depthAll ds ≤ n := by
  intro n
  induction n with
  | zero =>
    have h1 : ∀ d : D, good 0 d = true → d.canLay0 = true ∧ d.depth ≤ 0 := by
      intro d g
      cases d with
      | list xs => simp [good] at g
      | tuple xs => simp [good] at g
      | dict xs => simp [good] at g
      | str x => simpa [PyData.canLay0, PyData.depth, good] using g
      | _ => simp [PyData.canLay0, PyData.depth]
    refine ⟨h1, ?_⟩
    intro ds
    induction ds with
    | nil => simp [PyData.canLayAll0, PyData.depthAll]
    | cons d ds ih =>
      intro g
      simp only [goods, Bool.and_eq_true] at g
      have a := h1 d g.1
      have b := ih g.2
      simp only [PyData.canLayAll0, PyData.depthAll, Bool.and_eq_true]
      exact ⟨⟨a.1, b.1⟩, by omega⟩
  | succ n ih =>
    have h1 : ∀ d : D, good (n + 1) d = true → d.canLay0 = true ∧ d.depth ≤ n + 1 := by
      intro d g
      cases d with
      | list xs =>
        have a := ih.2 xs (by simpa [good] using g)
        simp only [PyData.canLay0, PyData.depth]
        exact ⟨a.1, by omega⟩
      | tuple xs =>
        have a := ih.2 xs (by simpa [good] using g)
        simp only [PyData.canLay0, PyData.depth]
        exact ⟨a.1, by omega⟩
      | dict xs => simp [good] at g
      | str x => simpa [PyData.canLay0, PyData.depth, good] using g
      | _ => simp [PyData.canLay0, PyData.depth]
    refine ⟨h1, ?_⟩
    intro ds
    induction ds with
    | nil => simp [PyData.canLayAll0, PyData.depthAll]
    | cons d ds ih2 =>
      intro g
      simp only [goods, Bool.and_eq_true] at g
      have a := h1 d g.1
      have b := ih2 g.2
      simp only [PyData.canLayAll0, PyData.depthAll, Bool.and_eq_true]
      exact ⟨⟨a.1, b.1⟩, by omega⟩
theorem good_shaped {d : D} (g : good 60 d = true) : SeqAt.shaped d = true := by
  have a := (good_lay 60).1 d g
  show (d.canLay0 && decide (d.depth ≤ 64)) = true
  rw [Bool.and_eq_true]
  exact ⟨a.1, decide_eq_true (by omega)⟩

def pen1 (pa : PA) (a : Addr) : Prop := ∃ c, pa = some (a, c)
/-- the pen stands at its place -/
def PenAt (pa : PA) (G H : Hp) (p : Option Pn) : Prop :=
  match pa, p with
  | none, none => True
  | some (a, c), some q => c ≠ a ∧ H a = some (.lst [.ref c, .int q.a, .int q.r]) ∧ G c = some (.lst (q.cells.map V.int)) ∧ G a = none
  | _, _ => False
theorem PenAt.free {pa : PA} {G H : Hp} {p : Option Pn} (h : PenAt pa G H p) {a : Addr} (e : pen1 pa a) : G a = none := by
  obtain ⟨c, rfl⟩ := e
  cases p with
  | none => exact h.elim
  | some q => exact h.2.2.2
theorem PenAt.up {pa : PA} {G G' H : Hp} {p : Option Pn} (h : PenAt pa G H p) (gk : Sub G G') (n : ∀ a, pen1 pa a → G' a = none) : PenAt pa G' H p := by
  cases pa with
  | none => cases p with
    | none => trivial
    | some q => exact h.elim
  | some x =>
    obtain ⟨a, c⟩ := x
    cases p with
    | none => exact h.elim
    | some q => exact ⟨h.1, h.2.1, gk _ _ h.2.2.1, n a ⟨c, rfl⟩⟩
theorem PenAt.there {pa : PA} {G H : Hp} {p : Option Pn} (h : PenAt pa G H p) {a : Addr} (e : pen1 pa a) : ∃ o, H a = some o := by
  obtain ⟨c, rfl⟩ := e
  cases p with
  | none => exact h.elim
  | some q => exact ⟨_, h.2.1⟩

/-- the slot's own list stands at a -/
def OwnAt (σ : L2.St) (s : S) (a : Addr) : Prop := ∃ (i : Nat) (d : D), s.sl[i]? = some (some (d, true)) ∧ σ[i]? = some (some (V.ref a))

structure Sim (pa : PA) (H0 G0 G : Hp) (σ : L2.St) (H : Hp) (s : S) : Prop where
  len : σ.length = s.sl.length
  sub : Sub G H
  base : Sub G0 G
  new : ∀ a o, G a = some o → G0 a = some o ∨ H0 a = none
  kee : ∀ a o, H0 a = some o → ¬ pen1 pa a → H a = some o
  pen : PenAt pa G H s.pn
  fz : ∀ (i : Nat) (d : D), s.sl[i]? = some (some (d, false)) → ∃ v, σ[i]? = some (some v) ∧ Rp pa G v d
  ow : ∀ (i : Nat) (d : D), s.sl[i]? = some (some (d, true)) → ∃ a xs ds, σ[i]? = some (some (V.ref a)) ∧ d = .list ds ∧ H a = some (.lst xs) ∧ Rps pa G xs ds ∧ G a = none ∧ H0 a = none ∧ ¬ pen1 pa a
  dis : ∀ (i j : Nat) (d e : D) (a : Addr), s.sl[i]? = some (some (d, true)) → s.sl[j]? = some (some (e, true)) → σ[i]? = some (some (V.ref a)) → σ[j]? = some (some (V.ref a)) → i = j

structure Ext (pa : PA) (G G' H H' : Hp) (σ : L2.St) (s s' : S) : Prop where
  hk : ∀ a o, H a = some o → ¬ pen1 pa a → H' a = some o
  gk : Sub G G'
  gn : ∀ a o, G' a = some o → G a = some o ∨ H a = none ∨ OwnAt σ s a
  ln : s'.sl.length = s.sl.length
  sn : ∀ (i : Nat), s.sl[i]? = some none → s'.sl[i]? = some none
  sl : ∀ (i : Nat) (d : D) (f : Bool), s.sl[i]? = some (some (d, f)) → ∃ f', s'.sl[i]? = some (some (d, f')) ∧ (f' = true → f = true)

section
variable {pa : PA} {H0 G0 G G1 G2 H H1 H2 : Hp} {σ : L2.St} {s s1 s2 : S}
theorem Ext.refl : Ext pa G G H H σ s s := ⟨fun _ _ h _ => h, .refl, fun _ _ h => .inl h, rfl, fun _ h => h, fun _ _ f h => ⟨f, h, fun z => z⟩⟩
theorem Ext.own (e : Ext pa G G1 H H1 σ s s1) {a : Addr} (o : OwnAt σ s1 a) : OwnAt σ s a := by
  obtain ⟨i, d, h1, h2⟩ := o
  cases q : s.sl[i]? with
  | none =>
    have : s1.sl[i]? = none := by
      rw [List.getElem?_eq_none_iff] at q ⊢
      rw [e.ln]; exact q
    rw [this] at h1; cases h1
  | some x =>
    cases x with
    | none => rw [e.sn i q] at h1; cases h1
    | some p =>
      obtain ⟨d', f⟩ := p
      obtain ⟨f', h3, h4⟩ := e.sl i d' f q
      rw [h1] at h3
      cases h3
      exact ⟨i, d, by rw [q, h4 rfl], h2⟩
theorem Ext.trans (S2 : Sim pa H0 G0 G2 σ H2 s2) (e : Ext pa G G1 H H1 σ s s1) (e2 : Ext pa G1 G2 H1 H2 σ s1 s2) : Ext pa G G2 H H2 σ s s2 where
  hk := fun a o h n => e2.hk a o (e.hk a o h n) n
  gk := e.gk.trans e2.gk
  gn := fun a o h => by
    rcases e2.gn a o h with q | q | q
    · exact e.gn a o q
    · cases z : H a with
      | none => exact .inr (.inl rfl)
      | some u =>
        by_cases n : pen1 pa a
        · rw [S2.pen.free n] at h; cases h
        · rw [e.hk a u z n] at q; cases q
    · exact .inr (.inr (e.own q))
  ln := e2.ln.trans e.ln
  sn := fun i h => e2.sn i (e.sn i h)
  sl := fun i d f h => by
    obtain ⟨f1, h1, h2⟩ := e.sl i d f h
    obtain ⟨f2, h3, h4⟩ := e2.sl i d f1 h1
    exact ⟨f2, h3, fun z => h2 (h4 z)⟩

/-- how a value stands -/
def RT (pa : PA) (H0 G : Hp) (σ : L2.St) (H : Hp) (s : S) (v : V) (d : D) : Tg → Prop
  | .fz => Rp pa G v d
  | .fresh => ∃ a xs ds, v = .ref a ∧ d = .list ds ∧ H a = some (.lst xs) ∧ Rps pa G xs ds ∧ G a = none ∧ H0 a = none ∧ ¬ pen1 pa a ∧ ¬ OwnAt σ s a
  | .slot i => ∃ f, s.sl[i]? = some (some (d, f)) ∧ σ[i]? = some (some v)
/-- new since Hs -/
def NewT (Hs : Hp) (v : V) (t : Tg) : Prop := t = .fresh → ∀ a, v = .ref a → Hs a = none
/-- the top of a value in the whole heap, what is in it in G -/
def RpT (pa : PA) (G H : Hp) (v : V) (d : D) : Prop :=
  match d with
  | .list ds => ∃ a xs, v = .ref a ∧ H a = some (.lst xs) ∧ Rps pa G xs ds
  | d => Rp pa G v d
theorem RpT.of (u : Sub G H) {v : V} {d : D} (r : Rp pa G v d) : RpT pa G H v d := by
  cases r with
  | lst h r => exact ⟨_, _, rfl, u _ _ h, r⟩
  | non => exact .non
  | bl b => exact .bl b
  | int i => exact .int i
  | str x => exact .str x
  | tup h r => exact .tup h r
  | pen h => exact .pen h
  | exc h => exact .exc h
theorem RpT.all (u : Sub G H) {v : V} {d : D} (r : RpT pa G H v d) : Rp pa H v d := by
  cases d with
  | list ds =>
    obtain ⟨a, xs, rfl, h, r⟩ := r
    exact .lst h (r.mono u)
  | _ => exact Rp.mono u (show Rp pa G v _ from r)
theorem RT.top (S1 : Sim pa H0 G0 G σ H s) {v : V} {d : D} {t : Tg} (r : RT pa H0 G σ H s v d t) : RpT pa G H v d := by
  cases t with
  | fz => exact .of S1.sub r
  | fresh =>
    obtain ⟨a, xs, ds, rfl, rfl, h, r, _⟩ := r
    exact ⟨a, xs, rfl, h, r⟩
  | slot i =>
    obtain ⟨f, h1, h2⟩ := r
    cases f with
    | false =>
      obtain ⟨w, h3, r⟩ := S1.fz i d h1
      rw [h2] at h3
      cases h3
      exact .of S1.sub r
    | true =>
      obtain ⟨a, xs, ds, h3, rfl, h, r, _⟩ := S1.ow i d h1
      rw [h2] at h3
      cases h3
      exact ⟨a, xs, rfl, h, r⟩
theorem RT.ext (S2 : Sim pa H0 G0 G1 σ H1 s1) (e : Ext pa G G1 H H1 σ s s1) {v : V} {d : D} {t : Tg} (r : RT pa H0 G σ H s v d t) : RT pa H0 G1 σ H1 s1 v d t := by
  cases t with
  | fz => exact Rp.mono e.gk r
  | fresh =>
    obtain ⟨a, xs, ds, rfl, rfl, h, r, g, h0, n, o⟩ := r
    refine ⟨a, xs, ds, rfl, rfl, e.hk a _ h n, r.mono e.gk, ?_, h0, n, fun z => o (e.own z)⟩
    cases q : G1 a with
    | none => rfl
    | some u =>
      rcases e.gn a u q with z | z | z
      · rw [g] at z; cases z
      · rw [h] at z; cases z
      · exact (o z).elim
  | slot i =>
    obtain ⟨f, h1, h2⟩ := r
    obtain ⟨f', h3, _⟩ := e.sl i d f h1
    exact ⟨f', h3, h2⟩

theorem freeze_len (s : S) (i : Nat) : (s.freeze i).sl.length = s.sl.length := by simp [S.freeze]
theorem freeze_ne {s : S} {i j : Nat} (h : i ≠ j) : (s.freeze i).sl[j]? = s.sl[j]? := by
  simp only [S.freeze]
  rw [List.getElem?_modify]
  simp [h]
theorem freeze_at {s : S} {i : Nat} {d : D} {f : Bool} (h : s.sl[i]? = some (some (d, f))) : (s.freeze i).sl[i]? = some (some (d, false)) := by
  simp only [S.freeze]
  rw [List.getElem?_modify]
  simp [h]
theorem freeze_none {s : S} {i : Nat} (h : s.sl[i]? = some none) : (s.freeze i).sl[i]? = some none := by
  simp only [S.freeze]
  rw [List.getElem?_modify]
  simp [h]
/-- only flags change -/
theorem freeze_ext (i : Nat) (gn : ∀ a o, G1 a = some o → G a = some o ∨ H a = none ∨ OwnAt σ s a) (gk : Sub G G1) : Ext pa G G1 H H σ s (s.freeze i) where
  hk := fun _ _ h _ => h
  gk := gk
  gn := gn
  ln := freeze_len s i
  sn := fun j h => by
    by_cases z : i = j
    · subst z; exact freeze_none h
    · rw [freeze_ne z]; exact h
  sl := fun j d f h => by
    by_cases z : i = j
    · subst z; exact ⟨false, freeze_at h, fun q => by cases q⟩
    · exact ⟨f, by rw [freeze_ne z]; exact h, fun q => q⟩
/-- a list of our own comes into G -/
theorem Sim.take {a : Addr} {xs : List V} {ds : List D} (S1 : Sim pa H0 G0 G σ H s) (h : H a = some (.lst xs)) (g : G a = none) (h0 : H0 a = none) (n : ¬ pen1 pa a) (r : Rps pa G xs ds) (no : ¬ OwnAt σ s a) :
    Sim pa H0 G0 (upd G a (.lst xs)) σ H s ∧ Rp pa (upd G a (.lst xs)) (.ref a) (.list ds) := by
  have gk : Sub G (upd G a (.lst xs)) := .upd g
  refine ⟨⟨S1.len, fun b o e => ?_, S1.base.trans gk, fun b o e => ?_, S1.kee, ?_, fun i d e => ?_, fun i d e => ?_, S1.dis⟩, .lst upd_same (r.mono gk)⟩
  · by_cases z : b = a
    · subst z; rw [upd_same] at e; cases e; exact h
    · rw [upd_ne z] at e; exact S1.sub b o e
  · by_cases z : b = a
    · subst z; exact .inr h0
    · rw [upd_ne z] at e; exact S1.new b o e
  · have p := S1.pen
    refine p.up gk fun b hb => ?_
    rw [upd_ne]
    · exact p.free hb
    · rintro rfl; exact n hb
  · obtain ⟨v, e1, e2⟩ := S1.fz i d e
    exact ⟨v, e1, e2.mono gk⟩
  · obtain ⟨b, ys, es, e1, e2, e3, e4, e5, e6, e7⟩ := S1.ow i d e
    refine ⟨b, ys, es, e1, e2, e3, e4.mono gk, ?_, e6, e7⟩
    rw [upd_ne]
    · exact e5
    · rintro rfl; exact no ⟨i, d, e, e1⟩
/-- a value is kept for good -/
theorem RT.keep {Hs : Hp} {ss : S} {Gs : Hp} (S1 : Sim pa H0 G0 G σ H s) (E : Ext pa Gs G Hs H σ ss s) {v : V} {d : D} {t : Tg} (r : RT pa H0 G σ H s v d t) (nw : NewT Hs v t) :
    ∃ G', Sim pa H0 G0 G' σ H (s.keep t) ∧ Ext pa Gs G' Hs H σ ss (s.keep t) ∧ Sub G G' ∧ (∀ b o, G' b = some o → G b = some o ∨ v = .ref b) ∧ Rp pa G' v d := by
  cases t with
  | fz => exact ⟨G, S1, E, .refl, fun b o e => .inl e, r⟩
  | fresh =>
    obtain ⟨a, xs, ds, rfl, rfl, h, r, g, h0, n, o⟩ := r
    obtain ⟨S2, r2⟩ := S1.take h g h0 n r o
    refine ⟨_, S2, ⟨E.hk, E.gk.trans (.upd g), fun b u e => ?_, E.ln, E.sn, E.sl⟩, .upd g, fun b u e => ?_, r2⟩
    · by_cases z : b = a
      · subst z; exact .inr (.inl (nw rfl _ rfl))
      · rw [upd_ne z] at e; exact E.gn b u e
    · by_cases z : b = a
      · subst z; exact .inr rfl
      · rw [upd_ne z] at e; exact .inl e
  | slot i =>
    obtain ⟨f, h1, h2⟩ := r
    show ∃ G', Sim pa H0 G0 G' σ H (s.freeze i) ∧ _
    have sm : ∀ {G' : Hp}, Sim pa H0 G0 G' σ H s → (∀ a, σ[i]? = some (some (V.ref a)) → f = true → ∃ u, G' a = some u) → Rp pa G' v d → Sim pa H0 G0 G' σ H (s.freeze i) := fun {G'} S2 hg rv =>
      ⟨S2.len.trans (freeze_len s i).symm, S2.sub, S2.base, S2.new, S2.kee, S2.pen, fun j e q => by
        by_cases z : i = j
        · subst z
          rw [freeze_at h1] at q; cases q
          exact ⟨v, h2, rv⟩
        · rw [freeze_ne z] at q; exact S2.fz j e q, fun j e q => by
        by_cases z : i = j
        · subst z; rw [freeze_at h1] at q; cases q
        · rw [freeze_ne z] at q; exact S2.ow j e q, fun j k e e' a q q' => by
        by_cases z : i = j
        · subst z; rw [freeze_at h1] at q; cases q
        · by_cases z' : i = k
          · subst z'; rw [freeze_at h1] at q'; cases q'
          · rw [freeze_ne z] at q; rw [freeze_ne z'] at q'; exact S2.dis j k e e' a q q'⟩
    cases f with
    | false =>
      obtain ⟨w, h3, rw'⟩ := S1.fz i d h1
      rw [h2] at h3; cases h3
      refine ⟨G, sm S1 (fun a _ z => by cases z) rw', ?_, .refl, fun b o e => .inl e, rw'⟩
      have e2 : Ext pa G G H H σ s (s.freeze i) := freeze_ext i (fun _ _ h => .inl h) .refl
      exact ⟨E.hk, E.gk, E.gn, e2.ln.trans E.ln, fun j h => e2.sn j (E.sn j h), fun j d f h => by
        obtain ⟨f1, a1, a2⟩ := E.sl j d f h
        obtain ⟨f2, a3, a4⟩ := e2.sl j d f1 a1
        exact ⟨f2, a3, fun z => a2 (a4 z)⟩⟩
    | true =>
      obtain ⟨a, xs, ds, h3, rfl, h, r, g, h0, n⟩ := S1.ow i d h1
      rw [h2] at h3; cases h3
      have own : OwnAt σ s a := ⟨i, _, h1, h2⟩
      -- first the slot is frozen by hand, then the list is taken
      have gk : Sub G (upd G a (.lst xs)) := .upd g
      have rv : Rp pa (upd G a (.lst xs)) (.ref a) (.list ds) := .lst upd_same (r.mono gk)
      refine ⟨upd G a (.lst xs), ⟨S1.len.trans (freeze_len s i).symm, fun b o e => ?_, S1.base.trans gk, fun b o e => ?_, S1.kee, ?_, fun j e q => ?_, fun j e q => ?_, fun j k e e' b q q' p p' => ?_⟩, ?_, gk, fun b u e => ?_, rv⟩
      · by_cases z : b = a
        · subst z; rw [upd_same] at e; cases e; exact h
        · rw [upd_ne z] at e; exact S1.sub b o e
      · by_cases z : b = a
        · subst z; exact .inr h0
        · rw [upd_ne z] at e; exact S1.new b o e
      · have p := S1.pen
        show PenAt pa _ H s.pn
        refine p.up gk fun b hb => ?_
        rw [upd_ne]
        · exact p.free hb
        · rintro rfl; exact n hb
      · by_cases z : i = j
        · subst z
          rw [freeze_at h1] at q; cases q
          exact ⟨_, h2, rv⟩
        · rw [freeze_ne z] at q
          obtain ⟨w, e1, e2⟩ := S1.fz j e q
          exact ⟨w, e1, e2.mono gk⟩
      · by_cases z : i = j
        · subst z; rw [freeze_at h1] at q; cases q
        · rw [freeze_ne z] at q
          obtain ⟨b, ys, es, e1, e2, e3, e4, e5, e6, e7⟩ := S1.ow j e q
          refine ⟨b, ys, es, e1, e2, e3, e4.mono gk, ?_, e6, e7⟩
          rw [upd_ne]
          · exact e5
          · rintro rfl; exact z (S1.dis i j _ _ _ h1 q h2 e1)
      · by_cases z : i = j
        · subst z; rw [freeze_at h1] at q; cases q
        · by_cases z' : i = k
          · subst z'; rw [freeze_at h1] at q'; cases q'
          · rw [freeze_ne z] at q; rw [freeze_ne z'] at q'; exact S1.dis j k e e' b q q' p p'
      · have e2 : Ext pa G (upd G a (.lst xs)) H H σ s (s.freeze i) := freeze_ext i (fun b o e => by
          by_cases z : b = a
          · subst z; exact .inr (.inr own)
          · rw [upd_ne z] at e; exact .inl e) gk
        refine ⟨E.hk, E.gk.trans gk, fun b o e => ?_, e2.ln.trans E.ln, fun j h => e2.sn j (E.sn j h), fun j d f h => ?_⟩
        · by_cases z : b = a
          · subst z; exact .inr (.inr (E.own own))
          · rw [upd_ne z] at e; exact E.gn b o e
        · obtain ⟨f1, a1, a2⟩ := E.sl j d f h
          obtain ⟨f2, a3, a4⟩ := e2.sl j d f1 a1
          exact ⟨f2, a3, fun z => a2 (a4 z)⟩
      · by_cases z : b = a
        · subst z; exact .inr rfl
        · rw [upd_ne z] at e; exact .inl e
end
end Fs

set_option Elab.async false
set_option linter.all false
set_option maxRecDepth 100000
set_option maxHeartbeats 4000000
namespace Fs
open PySem L2

structure Em where
  ps : List Pos
  sc : List Scope
  st : List Stmt
def Em.p (E : Em) : Pos := E.ps.headD ⟨0, 0, 0, 0⟩
def Em.np (E : Em) : Em := { E with ps := E.ps.tail }
def noScope : Scope := { kind := .function, names := [], isGenerator := false, isCoroutine := false }
def Em.s (E : Em) : Scope := E.sc.headD noScope
def Em.ns (E : Em) : Em := { E with sc := E.sc.tail }
def nm (N : List Str) (i : Nat) : Str := N.getD i ""

def Ty5.name : Ty5 → Str
  | .int => "int" | .bool => "bool" | .tuple => "tuple" | .list => "list" | .str => "str"
def Ty5.ty : Ty5 → String
  | .int => "int" | .bool => "bool" | .tuple => "tuple" | .list => "list" | .str => "str"
def Bf.name : Bf → Str
  | .len => "len" | .all => "all" | .any => "any" | .sum => "sum" | .max => "max" | .min => "min"
  | .tuple => "tuple" | .list => "list" | .repr => "repr" | .int => "int" | .sset => "sorted" | .lrange => "list" | .rev1 => "" | .cnt => "" | .trange => "tuple" | .dnew => "" | .srt => "sorted" | .stp => "" | .stl => "" | .sth => "" | .st3 => "" | .idx => "" | .mth _ => ""

def emNames (N : List Str) : List Nat → Em → List Expr × Em
  | [], E => ([], E)
  | i :: is, E =>
    let r := emNames N is E.np
    (.Name (nm N i) E.p :: r.1, r.2)
def emTr (N : List Str) : Tr → Em → Expr × Em
  | .v i, E => (.Name (nm N i) E.p, E.np)
  | .t is, E =>
    let r := emNames N is E.np
    (.Tuple r.1 0 E.p, r.2)

mutual
def emE (N : List Str) : IE → Em → Expr × Em
  | .var i, E => (.Name (nm N i) E.p, E.np)
  | .int n, E => (.Constant (.int n) 0 E.p, E.np)
  | .bool b, E => (.Constant (.bool b) 0 E.p, E.np)
  | .non, E => (.Constant .none 0 E.p, E.np)
  | .str x, E => (.Constant (.str x) 0 E.p, E.np)
  | .glob x _, E => (.Name x E.p, E.np)
  | .bin op a b, E =>
    let r := emE N a E.np
    let q := emE N b r.2
    (.BinOp r.1 op q.1 E.p, q.2)
  | .neg a, E =>
    let r := emE N a E.np
    (.UnaryOp .USub r.1 E.p, r.2)
  | .not a, E =>
    let r := emE N a E.np
    (.UnaryOp .Not r.1 E.p, r.2)
  | .cmp op a b, E =>
    let r := emE N a E.np
    let q := emE N b r.2
    (.Compare r.1 [op] [q.1] E.p, q.2)
  | .isN a, E =>
    let r := emE N a E.np
    (.Compare r.1 [.Is] [.Constant .none 0 r.2.p] E.p, r.2.np)
  | .notN a, E =>
    let r := emE N a E.np
    (.Compare r.1 [.IsNot] [.Constant .none 0 r.2.p] E.p, r.2.np)
  | .cmp2 o p a b c, E =>
    let r := emE N a E.np
    let q := emE N b r.2
    let t := emE N c q.2
    (.Compare r.1 [o, p] [q.1, t.1] E.p, t.2)
  | .and es, E =>
    let r := emEs N es E.np
    (.BoolOp .And r.1 E.p, r.2)
  | .or es, E =>
    let r := emEs N es E.np
    (.BoolOp .Or r.1 E.p, r.2)
  | .ite c a b, E =>
    let r := emE N c E.np
    let q := emE N a r.2
    let t := emE N b q.2
    (.IfExp r.1 q.1 t.1 E.p, t.2)
  | .tup es, E =>
    let r := emEs N es E.np
    (.Tuple r.1 0 E.p, r.2)
  | .lst es, E =>
    let r := emEs N es E.np
    (.List r.1 E.p, r.2)
  | .ix a b, E =>
    let r := emE N a E.np
    let q := emE N b r.2
    (.Subscript r.1 q.1 E.p, q.2)
  | .sl a lo hi, E =>
    let r := emE N a E.np.np
    let q := emO N lo r.2
    let t := emO N hi q.2
    (.Subscript r.1 (.Slice q.1 t.1 none E.np.p) E.p, t.2)
  | .isi a t, E =>
    let r := emE N a E.np.np
    (.Call (.Name "isinstance" E.np.p) [r.1, .Name t.name r.2.p] [] E.p, r.2.np)
  | .blt .sset es, E =>
    let r := emEs N es E.np.np.np.np
    (.Call (.Name "sorted" E.np.p) [.Call (.Name "set" E.np.np.np.p) r.1 [] E.np.np.p] [] E.p, r.2)
  | .blt .lrange es, E =>
    let r := emEs N es E.np.np.np.np
    (.Call (.Name "list" E.np.p) [.Call (.Name "range" E.np.np.np.p) r.1 [] E.np.np.p] [] E.p, r.2)
  | .blt .trange es, E =>
    let r := emEs N es E.np.np.np.np
    (.Call (.Name "tuple" E.np.p) [.Call (.Name "range" E.np.np.np.p) r.1 [] E.np.np.p] [] E.p, r.2)
  | .blt .rev1 es, E =>
    let r := emEs N es E.np.np.np.np
    (.Subscript (r.1.headD (.Name "" E.p)) (.Slice none none (some (.UnaryOp .USub (.Constant (.int 1) 0 E.np.np.np.p) E.np.np.p)) E.np.p) E.p, r.2)
  | .blt .cnt es, E =>
    let r := emEs N es E.np.np
    (.Call (.Attribute (r.1.headD (.Name "" E.p)) "count" E.np.p) r.1.tail [] E.p, r.2)
  | .blt .idx es, E =>
    let r := emEs N es E.np.np
    (.Call (.Attribute (r.1.headD (.Name "" E.p)) "index" E.np.p) r.1.tail [] E.p, r.2)
  | .blt (.mth m) es, E =>
    let r := emEs N es E.np.np
    (.Call (.Attribute (r.1.headD (.Name "" E.p)) m E.np.p) r.1.tail [] E.p, r.2)
  | .blt .stp es, E =>
    let r := emEs N es E.np.np
    (.Tuple (.Starred (r.1.headD (.Name "" E.p)) E.np.p :: r.1.tail) 0 E.p, r.2)
  | .blt .stl es, E =>
    let r := emEs N es E.np.np
    (.List (.Starred (r.1.headD (.Name "" E.p)) E.np.p :: r.1.tail) E.p, r.2)
  | .blt .sth es, E =>
    let r := emEs N es E.np.np
    (.List [r.1.headD (.Name "" E.p), .Starred (r.1.tail.headD (.Name "" E.p)) E.np.p] E.p, r.2)
  | .blt .st3 es, E =>
    let r := emEs N es E.np.np.np
    (.Tuple [.Starred (r.1.headD (.Name "" E.p)) E.np.p, r.1.tail.headD (.Name "" E.p), .Starred (r.1.tail.tail.headD (.Name "" E.p)) E.np.np.p] 0 E.p, r.2)
  | .blt .dnew _, E => (.Dict [] [] E.p, E.np)
  | .blt f es, E =>
    let r := emEs N es E.np.np
    (.Call (.Name f.name E.np.p) r.1 [] E.p, r.2)
  | .call x _ es, E =>
    let r := emEs N es E.np.np
    (.Call (.Name x E.np.p) r.1 [] E.p, r.2)
  | .one x a b, E =>
    let r := emE N a E.np.np
    let q := emE N b r.2
    (.Call (.Name x E.np.p) [r.1, q.1] [] E.p, q.2)
  | .pix i j, E => (.Subscript (.Name (nm N i) E.np.p) (.Constant (.int j) 0 E.np.np.p) E.p, E.np.np.np)
  | .lc elt tg src ifs, E =>
    let t := emE N elt E.np.ns
    let g := emTr N tg t.2
    let r := emSr N src g.2
    let q := emEs N ifs r.2
    (.ListComp t.1 [⟨g.1, r.1, q.1, 0⟩] E.s E.p, q.2)
  | .isX x _ _ _ a, E =>
    let r := emE N a E.np.np
    (.Call (.Name "isinstance" E.np.p) [r.1, .Name x r.2.p] [] E.p, r.2.np)
  | .attr a m, E =>
    let r := emE N a E.np
    (.Attribute r.1 m E.p, r.2)
  | .cmp3 o p q a b c d, E =>
    let r := emE N a E.np
    let h := emE N b r.2
    let t := emE N c h.2
    let u := emE N d t.2
    (.Compare r.1 [o, p, q] [h.1, t.1, u.1] E.p, u.2)
  | .tab (.get n) x _ a, E =>
    let r := emE N a E.np.np.np
    (.Call (.Attribute (.Name x E.np.np.p) "get" E.np.p) [r.1, .Constant (.int n) 0 r.2.p] [] E.p, r.2.np)
  | .tab .mem x _ a, E =>
    let r := emE N a E.np
    (.Compare r.1 [.In] [.Name x r.2.p] E.p, r.2.np)
  | .tab .ix x _ a, E =>
    let r := emE N a E.np.np
    (.Subscript (.Name x E.np.p) r.1 E.p, r.2)
  | .calS x _ _ e, E =>
    let r := emE N e E.np.np.np
    (.Call (.Name x E.np.p) [.Starred r.1 E.np.np.p] [] E.p, r.2)
def emEs (N : List Str) : IEs → Em → List Expr × Em
  | .nil, E => ([], E)
  | .cons e es, E =>
    let r := emE N e E
    let q := emEs N es r.2
    (r.1 :: q.1, q.2)
def emO (N : List Str) : IO → Em → Option Expr × Em
  | .none, E => (none, E)
  | .some e, E =>
    let r := emE N e E
    (some r.1, r.2)
def emSr (N : List Str) : Sr → Em → Expr × Em
  | .seq e, E => emE N e E
  | .enum e, E =>
    let r := emE N e E.np.np
    (.Call (.Name "enumerate" E.np.p) [r.1] [] E.p, r.2)
  | .zip a b, E =>
    let r := emE N a E.np.np
    let q := emE N b r.2
    (.Call (.Name "zip" E.np.p) [r.1, q.1] [] E.p, q.2)
  | .rng a, E =>
    let r := emE N a E.np.np
    (.Call (.Name "range" E.np.p) [r.1] [] E.p, r.2)
  | .rng2 a b, E =>
    let r := emE N a E.np.np
    let q := emE N b r.2
    (.Call (.Name "range" E.np.p) [r.1, q.1] [] E.p, q.2)
  | .rng3 a b c, E =>
    let r := emE N a E.np.np
    let q := emE N b r.2
    let t := emE N c q.2
    (.Call (.Name "range" E.np.p) [r.1, q.1, t.1] [] E.p, t.2)
end

def meth (N : List Str) (i : Nat) (m : Str) (args : List Expr) (E : Em) : Expr := .Call (.Attribute (.Name (nm N i) E.np.np.p) m E.np.p) args [] E.p

mutual
def emS (N : List Str) : IS → Em → Stmt × Em
  | .set i e, E =>
    let r := emE N e E.np.np
    (.Assign [.Name (nm N i) E.np.p] r.1 E.p, r.2)
  | .setLc i elt tg src ifs, E =>
    let r := emE N (.lc elt tg src ifs) E.np.np
    (.Assign [.Name (nm N i) E.np.p] r.1 E.p, r.2)
  | .setT is e, E =>
    let g := emTr N (.t is) E.np
    let r := emE N e g.2
    (.Assign [g.1] r.1 E.p, r.2)
  | .set2 is es, E =>
    let g := emTr N (.t is) E.np
    let r := emEs N es g.2.np
    (.Assign [g.1] (.Tuple r.1 0 g.2.p) E.p, r.2)
  | .setIx i k e, E =>
    let q := emE N k E.np.np.np
    let r := emE N e q.2
    (.Assign [.Subscript (.Name (nm N i) E.np.np.p) q.1 E.np.p] r.1 E.p, r.2)
  | .pset i j e, E =>
    let r := emE N e E.np.np.np.np
    (.Assign [.Subscript (.Name (nm N i) E.np.np.p) (.Constant (.int j) 0 E.np.np.np.p) E.np.p] r.1 E.p, r.2)
  | .aug op i e, E =>
    let r := emE N e E.np.np
    (.AugAssign (.Name (nm N i) E.np.p) op r.1 E.p, r.2)
  | .app i e, E =>
    let r := emE N e E.np.np.np.np
    (.Expr (meth N i "append" [r.1] E.np) E.p, r.2)
  | .ins i k e, E =>
    let q := emE N k E.np.np.np.np
    let r := emE N e q.2
    (.Expr (meth N i "insert" [q.1, r.1] E.np) E.p, r.2)
  | .ext i e, E =>
    let r := emE N e E.np.np.np.np
    (.Expr (meth N i "extend" [r.1] E.np) E.p, r.2)
  | .rev i, E => (.Expr (meth N i "reverse" [] E.np) E.p, E.np.np.np.np)
  | .expr e, E =>
    let r := emE N e E.np
    (.Expr r.1 E.p, r.2)
  | .ite c a b, E =>
    let r := emE N c E.np
    let q := emSs N a r.2
    let t := emSs N b q.2
    (.If r.1 q.1 t.1 E.p, t.2)
  | .for tg src body, E =>
    let g := emTr N tg E.np
    let r := emSr N src g.2
    let q := emSs N body r.2
    (.For g.1 r.1 q.1 [] E.p, q.2)
  | .while _ c body, E =>
    let r := emE N c E.np
    let q := emSs N body r.2
    (.While r.1 q.1 [] E.p, q.2)
  | .ret e, E =>
    let r := emE N e E.np
    (.Return (some r.1) E.p, r.2)
  | .retN, E => (.Return none E.p, E.np)
  | .pass, E => (.Pass E.p, E.np)
  | .brk, E => (.Break E.p, E.np)
  | .cont, E => (.Continue E.p, E.np)
  | .never, E => (E.st.headD (.Pass ⟨0, 0, 0, 0⟩), { E with st := E.st.tail })
def emSs (N : List Str) : ISs → Em → List Stmt × Em
  | .nil, E => ([], E)
  | .cons s ss, E =>
    let r := emS N s E
    let q := emSs N ss r.2
    (r.1 :: q.1, q.2)
end

def visB (N : List Str) (sc : Scope) (i : Nat) : Bool :=
  match N[i]? with
  | some x => (match sc.names.lookup x with
    | some .local => true
    | some .cell => true
    | some .free => true
    | _ => false) && !(x == ("__debug__" : Str)) && !(x == ("__classdict__" : Str))
  | none => false
/-- a name that may be stored: a local, a cell of the def's own -/
def locB (N : List Str) (sc : Scope) (i : Nat) : Bool :=
  match N[i]? with
  | some x => (match sc.names.lookup x with
    | some .local => true
    | some .cell => true
    | _ => false)
  | none => false
/-- a name of a comprehension's own (a local, or a cell) -/
def glB (sc : Scope) (x : Str) : Bool := (match sc.names.lookup x with
    | some .globalImplicit => true
    | _ => false) && !(x == ("__debug__" : Str))
def ownOf (N : List Str) (is : List Nat) : List (Str × Nat) := is.map fun i => (nm N i, i)

def twoIE : IEs → Bool
  | .cons _ (.cons _ .nil) => true
  | _ => false
def threeIE : IEs → Bool
  | .cons _ (.cons _ (.cons _ .nil)) => true
  | _ => false
def oneIE : IEs → Bool
  | .cons _ .nil => true
  | _ => false
def noIE : IEs → Bool
  | .nil => true
  | _ => false
def varIE : IEs → Bool
  | .cons (.var _) (.cons _ .nil) => true
  | _ => false
mutual
def okE (N : List Str) (sc : Scope) : IE → Em → Bool
  | .var i, _ => visB N sc i
  | .int _, _ => true
  | .bool _, _ => true
  | .non, _ => true
  | .str _, _ => true
  | .glob x d, _ => glB sc x && scal d
  | .bin _ a b, E => okE N sc a E.np && okE N sc b (emE N a E.np).2
  | .neg a, E => okE N sc a E.np
  | .not a, E => okE N sc a E.np
  | .cmp _ a b, E => okE N sc a E.np && okE N sc b (emE N a E.np).2
  | .isN a, E => okE N sc a E.np
  | .notN a, E => okE N sc a E.np
  | .cmp2 _ _ a b c, E => okE N sc a E.np && (okE N sc b (emE N a E.np).2 && okE N sc c (emE N b (emE N a E.np).2).2)
  | .and es, E => okEs N sc es E.np
  | .or es, E => okEs N sc es E.np
  | .ite c a b, E => okE N sc c E.np && (okE N sc a (emE N c E.np).2 && okE N sc b (emE N a (emE N c E.np).2).2)
  | .tup es, E => okEs N sc es E.np && decide ((emEs N es E.np).1.length ≤ 1000)
  | .lst es, E => okEs N sc es E.np && decide ((emEs N es E.np).1.length ≤ 1000)
  | .ix a b, E => okE N sc a E.np && okE N sc b (emE N a E.np).2
  | .sl a lo hi, E => okE N sc a E.np.np && (okO N sc lo (emE N a E.np.np).2 && okO N sc hi (emO N lo (emE N a E.np.np).2).2)
  | .isi a t, E => okE N sc a E.np.np && (glB sc "isinstance" && glB sc t.name)
  | .blt .sset es, E => okEs N sc es E.np.np.np.np && (glB sc "sorted" && glB sc "set")
  | .blt .lrange es, E => okEs N sc es E.np.np.np.np && (glB sc "list" && glB sc "range")
  | .blt .trange es, E => okEs N sc es E.np.np.np.np && (glB sc "tuple" && glB sc "range")
  | .blt .rev1 es, E => okEs N sc es E.np.np.np.np && oneIE es
  | .blt .cnt es, E => okEs N sc es E.np.np && (varIE es && (E.np.p.endLine == E.p.line))
  | .blt .idx es, E => okEs N sc es E.np.np && (varIE es && (E.np.p.endLine == E.p.line))
  | .blt (.mth _) es, E => okEs N sc es E.np.np && (varIE es && (E.np.p.endLine == E.p.line))
  | .blt .stp es, E => okEs N sc es E.np.np && twoIE es
  | .blt .stl es, E => okEs N sc es E.np.np && twoIE es
  | .blt .sth es, E => okEs N sc es E.np.np && twoIE es
  | .blt .st3 es, E => okEs N sc es E.np.np.np && threeIE es
  | .blt .dnew es, _ => noIE es
  | .blt f es, E => okEs N sc es E.np.np && glB sc f.name
  | .call x _ es, E => okEs N sc es E.np.np && (glB sc x && !(emEs N es E.np.np).1.isEmpty)
  | .one x a b, E => okE N sc a E.np.np && (okE N sc b (emE N a E.np.np).2 && glB sc x)
  | .pix i _, _ => visB N sc i
  | .lc elt tg src ifs, E =>
    okE N (relS E.s sc) elt E.np.ns && ((!src.pairs || tg.isT) && blkC N sc E.s (ownOf N tg.slots) && ((tg.slots.all fun i => locB N E.s i) && (tg.slots.all fun i => decide (N[i]? = some (nm N i))) &&
      (okSr N sc src (emTr N tg (emE N elt E.np.ns).2).2 &&
        (okEs N (relS E.s sc) ifs (emSr N src (emTr N tg (emE N elt E.np.ns).2).2).2 && decide ((emEs N ifs (emSr N src (emTr N tg (emE N elt E.np.ns).2).2).2).1.length ≤ 1)))))
  | .isX x _ _ _ a, E => okE N sc a E.np.np && (glB sc "isinstance" && glB sc x)
  | .attr _ _, _ => true
  | .cmp3 _ _ _ a b c d, E => okE N sc a E.np && (okE N sc b (emE N a E.np).2 && (okE N sc c (emE N b (emE N a E.np).2).2 && okE N sc d (emE N c (emE N b (emE N a E.np).2).2).2))
  | .tab (.get _) x _ a, E => okE N sc a E.np.np.np && (glB sc x && (E.np.p.endLine == E.p.line))
  | .tab .mem x _ a, E => okE N sc a E.np && glB sc x
  | .tab .ix x _ a, E => okE N sc a E.np.np && glB sc x
  | .calS x _ _ e, E => okE N sc e E.np.np.np && glB sc x
def okEs (N : List Str) (sc : Scope) : IEs → Em → Bool
  | .nil, _ => true
  | .cons e es, E => okE N sc e E && okEs N sc es (emE N e E).2
def okO (N : List Str) (sc : Scope) : IO → Em → Bool
  | .none, _ => true
  | .some e, E => okE N sc e E
def okSr (N : List Str) (sc : Scope) : Sr → Em → Bool
  | .seq e, E => okE N sc e E
  | .enum e, E => okE N sc e E.np.np && glB sc "enumerate"
  | .zip a b, E => okE N sc a E.np.np && (okE N sc b (emE N a E.np.np).2 && glB sc "zip")
  | .rng a, E => okE N sc a E.np.np && glB sc "range"
  | .rng2 a b, E => okE N sc a E.np.np && (okE N sc b (emE N a E.np.np).2 && glB sc "range")
  | .rng3 a b c, E => okE N sc a E.np.np && (okE N sc b (emE N a E.np.np).2 && (okE N sc c (emE N b (emE N a E.np.np).2).2 && glB sc "range"))
end

/-- what the calls of a text ask -/
structure Ask where
  glob : Str → D → Prop
  call : Str → Fn → Nat → Prop
  one : Str → Prop
  isx : Str → (Str → Nat) → List Str → (Str → Bool) → Prop
  tab : Str → List (Str × Int) → Prop
def IEs.len : IEs → Nat
  | .nil => 0
  | .cons _ es => es.len + 1
mutual
def askE (P : Ask) : IE → Prop
  | .var _ => True
  | .int _ => True
  | .bool _ => True
  | .non => True
  | .str _ => True
  | .glob x d => P.glob x d
  | .bin _ a b => askE P a ∧ askE P b
  | .neg a => askE P a
  | .not a => askE P a
  | .cmp _ a b => askE P a ∧ askE P b
  | .isN a => askE P a
  | .notN a => askE P a
  | .cmp2 _ _ a b c => askE P a ∧ askE P b ∧ askE P c
  | .and es => askEs P es
  | .or es => askEs P es
  | .ite c a b => askE P c ∧ askE P a ∧ askE P b
  | .tup es => askEs P es
  | .lst es => askEs P es
  | .ix a b => askE P a ∧ askE P b
  | .sl a lo hi => askE P a ∧ askO P lo ∧ askO P hi
  | .isi a _ => askE P a
  | .blt _ es => askEs P es
  | .call x F es => P.call x F es.len ∧ askEs P es
  | .one x a b => P.one x ∧ askE P a ∧ askE P b
  | .pix _ _ => True
  | .lc elt _ src ifs => askE P elt ∧ askSr P src ∧ askEs P ifs
  | .isX x adr names sub a => P.isx x adr names sub ∧ askE P a
  | .attr _ _ => True
  | .cmp3 _ _ _ a b c d => askE P a ∧ askE P b ∧ askE P c ∧ askE P d
  | .tab _ x tb a => P.tab x tb ∧ askE P a
  | .calS x F n e => P.call x F n ∧ askE P e
def askEs (P : Ask) : IEs → Prop
  | .nil => True
  | .cons e es => askE P e ∧ askEs P es
def askO (P : Ask) : IO → Prop
  | .none => True
  | .some e => askE P e
def askSr (P : Ask) : Sr → Prop
  | .seq e => askE P e
  | .enum e => askE P e
  | .zip a b => askE P a ∧ askE P b
  | .rng a => askE P a
  | .rng2 a b => askE P a ∧ askE P b
  | .rng3 a b c => askE P a ∧ askE P b ∧ askE P c
end
mutual
def askS (P : Ask) : IS → Prop
  | .set _ e => askE P e
  | .setLc _ elt tg src ifs => askE P elt ∧ askSr P src ∧ askEs P ifs
  | .setT _ e => askE P e
  | .set2 _ es => askEs P es
  | .setIx _ k e => askE P k ∧ askE P e
  | .pset _ _ e => askE P e
  | .aug _ _ e => askE P e
  | .app _ e => askE P e
  | .ins _ k e => askE P k ∧ askE P e
  | .ext _ e => askE P e
  | .rev _ => True
  | .expr e => askE P e
  | .ite c a b => askE P c ∧ askSs P a ∧ askSs P b
  | .for _ src body => askSr P src ∧ askSs P body
  | .while _ c body => askE P c ∧ askSs P body
  | .ret e => askE P e
  | .retN => True
  | .pass => True
  | .brk => True
  | .cont => True
  | .never => True
def askSs (P : Ask) : ISs → Prop
  | .nil => True
  | .cons s ss => askS P s ∧ askSs P ss
end
end Fs

set_option Elab.async false
set_option linter.all false
set_option maxRecDepth 100000
set_option maxHeartbeats 4000000
namespace Fs
open PySem PySem.Spec PyProof.Rows L2
section
variable (l : Addr) (its : Array Value) (n : Nat) (dd : Option Addr) (sl : Array (Option Value)) (x : Int) (u : Tok)
theorem tmul_same (z0 : (decide (x < -(2 ^ 63)) || decide (x ≥ 2 ^ 63)) = false) (z1 : (its.isEmpty || x == 1) = true) :
    Meets (Builtin.«tuple.__mul__» ⟨[.ref l, .int x u], []⟩) (fun _ R s => s.heap.get? l = some { cls := .type "tuple", dict := dd, data := .seq its n, slots := sl } ∧ R (.ok (.ret (Value.ref l))) s) := by
  refine .of_wp fun prog w A R s h => ?_
  obtain ⟨hp, g, d, tk, os⟩ := s
  obtain ⟨hl, h⟩ := h
  have f1 := AutoSeq1.idx_int
  wp_walk using wpAny_loadPart' hl
  all_goals try (refine wpAny_ite_false (decide_eq_false (by rw [z0]; exact Bool.false_ne_true)) ?_; wp_walk using wpAny_loadPart' hl)
  all_goals try (refine wpAny_ite_true (decide_eq_true z1) ?_; wp_walk using wpAny_loadPart' hl)
  all_goals exact ⟨_, rfl, h⟩
theorem tmul_none (z0 : (decide (x < -(2 ^ 63)) || decide (x ≥ 2 ^ 63)) = false) (z1 : (its.isEmpty || x == 1) = false) (z2 : (decide (x ≤ 0) || its.isEmpty) = true) :
    Meets (Builtin.«tuple.__mul__» ⟨[.ref l, .int x u], []⟩) (fun _ R s => s.heap.get? l = some { cls := .type "tuple", dict := dd, data := .seq its n, slots := sl } ∧
      R (.ok (.ret (Value.ref s.heap.objs.size))) { s with heap := s.heap.push { cls := Value.type "tuple", data := Data.seq #[] }, toks := s.toks }) := by
  refine .of_wp fun prog w A R s h => ?_
  obtain ⟨hp, g, d, tk, os⟩ := s
  obtain ⟨hl, h⟩ := h
  have f1 := AutoSeq1.idx_int
  wp_walk using wpAny_loadPart' hl
  all_goals try (refine wpAny_ite_false (decide_eq_false (by rw [z0]; exact Bool.false_ne_true)) ?_; wp_walk using wpAny_loadPart' hl)
  all_goals try (refine wpAny_ite_false (decide_eq_false (by rw [z1]; exact Bool.false_ne_true)) ?_; wp_walk using wpAny_loadPart' hl)
  all_goals try (refine wpAny_ite_true (decide_eq_true z2) ?_; wp_walk using wpAny_loadPart' hl)
  all_goals exact ⟨_, rfl, h⟩
end
abbrev obT (us : List Value) : Obj := { cls := .type "tuple", data := .seq us.toArray }
section
variable {X : Cx} {pins : List (Addr × Obj)} {σ : L2.St} {H : Hp} {s : Shared}
theorem tup_new {us : List Value} {xs : List V} {Q : VK} (I : Inv X pins σ H s) (r : Vals xs us) (small : xs.length ≤ sizeLine) (q : mkT H Q xs) : EP X pins σ Q (.ref s.heap.objs.size) { s with heap := s.heap.push (obT us) } := by
  have isnew : H s.heap.objs.size = none := I.hok.fresh (Nat.le_refl _)
  have ob : ObjOk X.prog X.w (upd H s.heap.objs.size (.frz (obT us) (.tup xs))) (s.heap.push (obT us)) s.heap.objs.size (.frz (obT us) (.tup xs)) :=
    ⟨Heap.get?_push_size _ rfl, small, us, r, IsTup.new _ _⟩
  exact ⟨.ref _, _, I.laid (t' := s.toks) (fun c o z => Heap.get?_push_of_some _ z) (Nat.le_refl _) ob, rfl, q _ _ isnew rfl⟩
/-- a display -/
def tTupF (t : TA) : TE := fun σ H Q => t σ H fun xs H1 => xs.length ≤ sizeLine ∧ mkT H1 Q xs
theorem pe_tupF {es : List Expr} {t : TA} {k : Nat} {pos : Pos} (h : L2.PA X es t) : PE X (.Tuple es k pos) (tTupF t) :=
  ⟨fun ps0 s σ H Q I q => wpAny_Tuple_spliced (thn (h.run pos ps0 s σ H _ I q) fun us s1 ⟨xs, H1, I1, r, small, q1⟩ => ⟨r.length ▸ small, tup_new I1 r small q1⟩)⟩
/-- t + u -/
def rCatF (K : PySem.W.Frag) : R2 := fun x y H Q => ∃ a b xs ys, x = .ref a ∧ y = .ref b ∧ SqT K H a xs ∧ SqT K H b ys ∧ xs.length + ys.length ≤ sizeLine ∧
  (xs = [] → Q (.ref b) H) ∧ (ys = [] → Q (.ref a) H) ∧ mkT H Q (xs ++ ys)
theorem op_catF : OpR X (binaryOp .Add) (rCatF X.K) := by
  intro ps0 s σ H x y v u Q I rx ry ⟨a, b, xs, ys, ex, ey, ha, hb, small, q0, q1, q2⟩
  subst ex ey
  by_cases e0 : xs = []
  · exact op_catA ps0 s σ H _ _ v u Q I rx ry ⟨a, b, xs, ys, rfl, rfl, ha, hb, small, q0, fun n => absurd e0 n, fun n => absurd e0 n⟩
  · cases rx
    cases ry
    obtain ⟨us, ru, hu, -⟩ := I.tuple ha
    obtain ⟨ws, rw', hw, -⟩ := I.tuple hb
    have len := ru.append rw'
    refine HT.cat_tup hu hw (fun z => e0 (by subst z; cases ru; rfl)) (fun z => ?_) (fun _ => ?_) (by rw [← ru.length, ← rw'.length]; exact small)
    · refine ⟨.ref a, H, I, rfl, q1 ?_⟩
      subst z; cases rw'; rfl
    · exact tup_new I len (by rw [List.length_append]; exact small) q2
/-- t[lo:hi] -/
def rSlF (K : PySem.W.Frag) : V → Option Int → Option Int → Hp → VK → Prop := fun x lo hi H Q => ∃ a xs, x = .ref a ∧ SqT K H a xs ∧
  (HT.sIx xs.length 0 lo = 0 ∧ HT.sIx xs.length xs.length hi = xs.length → Q (.ref a) H) ∧ mkT H Q (cutV xs lo hi)
theorem sl_tupF : SlR X (rSlF X.K) := by
  intro ps0 s σ H x v vl vu lo hi sl Q I rx hs pl pu ⟨a, xs, ex, ha, q1, q2⟩
  by_cases whole : HT.sIx xs.length 0 lo = 0 ∧ HT.sIx xs.length xs.length hi = xs.length
  · exact sl_tupA ps0 s σ H x v vl vu lo hi sl Q I rx hs pl pu ⟨a, xs, ex, ha, q1, fun n => absurd whole n⟩
  · subst ex
    cases rx
    obtain ⟨us, ru, hu, small⟩ := I.tuple ha
    have size1 : us.toArray.size = xs.length := ru.length.symm
    refine ⟨"tuple", _, PyProof.Rows.slot_tuple_getitem.lookup, hu.typeIs, ?_⟩
    refine HT.getItem_tuple_cut hu hs pl pu (by rwa [size1]) ?_ (by rwa [size1])
    rw [size1]
    exact tup_new I ((ru.drop _).take _) (Nat.le_trans (cutV_length xs lo hi) small) q2
/-- tuple(l), tuple(t) -/
def rTupF (K : PySem.W.Frag) : List V → Hp → VK → Prop := fun vs H Q => ∃ p ys, vs = [.ref p] ∧ ((SqL K H p ys ∧ mkT H Q ys) ∨ (SqT K H p ys ∧ Q (.ref p) H))
theorem call_tupF : CallR X (.type "tuple") (rTupF X.K) := by
  intro ps0 s σ H vs us Q I r ⟨p, ys, ex, h⟩
  rcases h with ⟨hq, q⟩ | ⟨hq, q⟩
  · subst ex
    obtain ⟨u, rfl, ru⟩ := vals1 r
    cases ru
    obtain ⟨its, ri, hl, small⟩ := I.list hq
    refine call_tuple_list hl.isList (fun h' kept => ?_) (by rw [List.size_toArray, ← ri.length]; exact small)
    exact tup_new (s := { s with heap := h' }) (I.kept (t' := s.toks) kept) ri small q
  · exact call_tuple_of ps0 s σ H vs us Q I r ⟨p, ys, ex, .inr ⟨hq, q⟩⟩
/-- tuple(range(..)) -/
def tTupRgF (te : L2.St → Hp → (Int → Int → Hp → Prop) → Prop) : TE := fun σ H Q => te σ H fun a b H1 => RgOk a b ∧ mkT H1 Q (rgV a b)
theorem pe_tupRgF {e : Expr} {te : L2.St → Hp → (Int → Int → Hp → Prop) → Prop} {p pos : Pos} (calm : X.calm = true) (hg : Gl X "tuple") (hm : X.mg "tuple" = none) (he : PRg X e te)
    (na : starEach [e] X.env = (false, eval e X.env) :: starEach [] X.env) : PE X (.Call (.Name "tuple" p) [e] [] pos) (tTupRgF te) := by
  refine ⟨fun ps0 s σ H Q I h => Call_ (ld_blt I hg hm boot_tuple (PyProof.Rows.callWith_type1 (args_cons (thn (he ps0 s σ H _ I h) fun x s1 got => args_nil ?_) na) na))⟩
  obtain ⟨r, a, b, t, u, v, H1, rfl, hr, I1, ⟨b1, b2, b3, b4, b5⟩, q⟩ := got
  refine call_tuple_range (n := (b - a).toNat) (I1.ok.hd calm) hr (small_one b1 b2 b3 b4) (rangeSize_nat a b) b5 fun h' tk acc kept il => ?_
  have vals := vals_rg il
  have z := tup_new (s := { s1 with heap := h', toks := tk }) (I1.kept kept) vals (by rw [rgV_length, sizeLine_eq]; omega) q
  have e : obT acc.toList = { cls := .type "tuple", data := .seq acc } := by unfold obT; rw [Array.toArray_toList]
  rw [e] at z
  exact z
end
/-- t * k -/
def rRepF (K : PySem.W.Frag) : R2 := fun x y H Q => ∃ l k xs, x = .ref l ∧ y = .int k ∧ SqT K H l xs ∧ (-(2 ^ 63) ≤ k ∧ k ≤ 1000 ∧ xs.length ≤ 1000) ∧
  ((xs = [] ∨ k = 1) → Q (.ref l) H) ∧ mkT H Q (List.replicate k.toNat xs).flatten
theorem op_repF {X : Cx} : OpR X (binaryOp .Mult) (rRepF X.K) := by
  intro ps0 s σ H x y v u Q I rx ry ⟨l, k, xs, ex, ey, hT, ⟨h1, h2, h3⟩, q1, q2⟩
  subst ex ey
  cases rx
  obtain ⟨t, rfl⟩ := ry
  obtain ⟨its, r, ⟨⟨cls, dd, data, sl⟩, ho, hc, n, hd⟩, hs⟩ := I.tuple hT
  simp only at hc hd
  subst hc hd
  have len := r.length
  have z0 : (decide (k < -(2 ^ 63)) || decide (k ≥ 2 ^ 63)) = false := by
    rw [Bool.or_eq_false_iff]
    exact ⟨decide_eq_false (by omega), decide_eq_false (by omega)⟩
  have small : (List.replicate k.toNat xs).flatten.length ≤ 1000000 := by
    rw [PyProof.Rows.lm_len_rep_flat]
    have := Nat.mul_le_mul (show k.toNat ≤ 1000 by omega) h3
    omega
  refine wpAny_binaryOp_repeat_ref (U := "int") (T := "tuple") (by decide) ⟨_, ho, rfl⟩ (fun s' => typeIs_int s' k t) noFill_tuple_mul F.fills_int_mul F.slot_int_rmul repeat_tuple F.slot_int_index.lookup ?_
  refine call_meets F.slot_int_rmul (typeIs_int s k t) F.entry_int_rmul (F.args_int_rmul_2 _ _) (int_rmul_tuple k t l its.toArray n dd sl) ⟨ho, rfl, ⟨_, ho, rfl⟩, ?_⟩
  have same : ((its.toArray.isEmpty || k == 1) = true) → (xs = [] ∨ k = 1) := fun z => by
    cases its with
    | nil => cases r; exact .inl rfl
    | cons _ _ => exact .inr (by simpa using z)
  by_cases z1 : (its.toArray.isEmpty || k == 1) = true
  · exact call_meets F.slot_tuple_mul ⟨_, ho, rfl⟩ F.entry_tuple_mul (F.args_tuple_mul_2 _ _) (tmul_same l its.toArray n dd sl k t z0 z1) ⟨ho, .ref l, H, I, rfl, q1 (same z1)⟩
  · have z1 : (its.toArray.isEmpty || k == 1) = false := by simpa using z1
    obtain ⟨ne, k1⟩ := Bool.or_eq_false_iff.mp z1
    by_cases k0 : k ≤ 0
    · refine call_meets F.slot_tuple_mul ⟨_, ho, rfl⟩ F.entry_tuple_mul (F.args_tuple_mul_2 _ _) (tmul_none l its.toArray n dd sl k t z0 z1 (by rw [decide_eq_true k0]; rfl)) ⟨ho, ?_⟩
      rw [show k.toNat = 0 by omega] at q2
      exact tup_new I .nil (Nat.zero_le _) q2
    · have few : ((its.toArray.size : Nat) : Int) * k ≤ 1000000 := by
        rw [List.size_toArray, ← len]
        have := Int.mul_le_mul_of_nonneg_right (show (xs.length : Int) ≤ 1000 by omega) (show 0 ≤ k by omega)
        omega
      refine call_meets F.slot_tuple_mul ⟨_, ho, rfl⟩ F.entry_tuple_mul (F.args_tuple_mul_2 _ _) (tuple_mulW l its.toArray n dd sl k t z0 z1 (by rw [ne, decide_eq_false k0]; rfl) (by omega) (by
        unfold Builtin.Tuple.tupleTooMany
        rw [sizeLine_eq]
        exact decide_eq_false (by omega)) (by
        rw [size_rep, List.size_toArray, PyProof.Rows.lm_len_rep_flat, ← len, sizeLine_eq, ← PyProof.Rows.lm_len_rep_flat]
        omega)) ⟨ho, ?_⟩
      rw [size_rep]
      exact tup_new I (r.rep k.toNat) (by rw [sizeLine_eq]; omega) q2
end Fs

set_option Elab.async false
set_option linter.all false
set_option maxRecDepth 100000
set_option maxHeartbeats 4000000
namespace Fs
open PySem L2

/-- what an operation gave: an old value, a new tuple, a new list -/
def Res (pa : PA) (G H : Hp) (v : V) (d : D) (fr : Bool) (H1 : Hp) : Prop :=
  Sub H H1 ∧ ((fr = false ∧ (Rp pa G v d ∨ ∃ a xs ds, v = .ref a ∧ d = .tuple ds ∧ H a = none ∧ TupAt H1 a xs ∧ Rps pa G xs ds)) ∨
    (fr = true ∧ ∃ a xs ds, v = .ref a ∧ d = .list ds ∧ H a = none ∧ H1 a = some (.lst xs) ∧ Rps pa G xs ds))
section
variable {pa : PA} {H0 G0 G G1 H H1 : Hp} {σ : L2.St} {s s1 : S} {v : V} {d : D}
theorem Res.old (r : Rp pa G v d) : Res pa G H v d false H := ⟨.refl, .inl ⟨rfl, .inl r⟩⟩
theorem Res.tup {Q : VK} {xs : List V} {ds : List D} (k : ∀ v H1, Res pa G H v (.tuple ds) false H1 → Q v H1) (r : Rps pa G xs ds) : mkT H Q xs :=
  fun a _ h b => k _ _ ⟨.upd h, .inl ⟨rfl, .inr ⟨a, xs, ds, rfl, rfl, h, .here b, r⟩⟩⟩
theorem Res.lst {a : Addr} {xs : List V} {ds : List D} (h : H a = none) (r : Rps pa G xs ds) : Res pa G H (.ref a) (.list ds) true (upd H a (.lst xs)) :=
  ⟨.upd h, .inr ⟨rfl, a, xs, ds, rfl, rfl, h, upd_same, r⟩⟩

theorem PenAt.heap {p : Option Pn} (h : PenAt pa G H p) (k : Sub H H1) : PenAt pa G H1 p := by
  cases pa with
  | none => cases p with
    | none => trivial
    | some q => exact h.elim
  | some x =>
    obtain ⟨a, c⟩ := x
    cases p with
    | none => exact h.elim
    | some q => exact ⟨h.1, k _ _ h.2.1, h.2.2⟩
theorem Sim.none0 (S1 : Sim pa H0 G0 G σ H s) {a : Addr} (h : H a = none) : H0 a = none ∧ G a = none ∧ ¬ pen1 pa a ∧ ¬ OwnAt σ s a := by
  have np : ¬ pen1 pa a := fun n => by
    obtain ⟨o, e⟩ := S1.pen.there n
    rw [h] at e; cases e
  refine ⟨?_, ?_, np, ?_⟩
  · cases z : H0 a with
    | none => rfl
    | some o => have := S1.kee a o z np; rw [h] at this; cases this
  · cases z : G a with
    | none => rfl
    | some o => have := S1.sub a o z; rw [h] at this; cases this
  · rintro ⟨i, d, e1, e2⟩
    obtain ⟨b, xs, ds, e3, _, e4, _⟩ := S1.ow i d e1
    rw [e2] at e3; cases e3
    rw [h] at e4; cases e4
/-- the heap grows -/
theorem Sim.grow (S1 : Sim pa H0 G0 G σ H s) (k : Sub H H1) : Sim pa H0 G0 G σ H1 s where
  len := S1.len
  sub := S1.sub.trans k
  base := S1.base
  new := S1.new
  kee := fun a o h n => k _ _ (S1.kee a o h n)
  pen := S1.pen.heap k
  fz := S1.fz
  ow := fun i d h => by
    obtain ⟨a, xs, ds, e1, e2, e3, e4⟩ := S1.ow i d h
    exact ⟨a, xs, ds, e1, e2, k _ _ e3, e4⟩
  dis := S1.dis
/-- something new comes into G -/
theorem Sim.newG (S1 : Sim pa H0 G0 G σ H s) {a : Addr} {o : HO} (h : H a = some o) (g : G a = none) (h0 : H0 a = none) (n : ¬ pen1 pa a) (no : ¬ OwnAt σ s a) : Sim pa H0 G0 (upd G a o) σ H s := by
  have gk : Sub G (upd G a o) := .upd g
  refine ⟨S1.len, fun b u e => ?_, S1.base.trans gk, fun b u e => ?_, S1.kee, ?_, fun i d e => ?_, fun i d e => ?_, S1.dis⟩
  · by_cases z : b = a
    · subst z; rw [upd_same] at e; cases e; exact h
    · rw [upd_ne z] at e; exact S1.sub b u e
  · by_cases z : b = a
    · subst z; exact .inr h0
    · rw [upd_ne z] at e; exact S1.new b u e
  · have p := S1.pen
    refine p.up gk fun b hb => ?_
    rw [upd_ne]
    · exact p.free hb
    · rintro rfl; exact n hb
  · obtain ⟨v, e1, e2⟩ := S1.fz i d e
    exact ⟨v, e1, e2.mono gk⟩
  · obtain ⟨b, ys, es, e1, e2, e3, e4, e5, e6, e7⟩ := S1.ow i d e
    refine ⟨b, ys, es, e1, e2, e3, e4.mono gk, ?_, e6, e7⟩
    rw [upd_ne]
    · exact e5
    · rintro rfl; exact no ⟨i, d, e, e1⟩
/-- an operation's result, taken over -/
theorem Sim.res {fr : Bool} (S1 : Sim pa H0 G0 G σ H s) (r : Res pa G H v d fr H1) :
    ∃ G1, Sim pa H0 G0 G1 σ H1 s ∧ Ext pa G G1 H H1 σ s s ∧ RT pa H0 G1 σ H1 s v d (if fr then .fresh else .fz) ∧ NewT H v (if fr then .fresh else .fz) := by
  obtain ⟨k, r⟩ := r
  have S2 := S1.grow k
  rcases r with ⟨rfl, r | ⟨a, xs, ds, rfl, rfl, h, h1, r⟩⟩ | ⟨rfl, a, xs, ds, rfl, rfl, h, h1, r⟩
  · exact ⟨G, S2, ⟨fun a o h _ => k a o h, .refl, fun _ _ h => .inl h, rfl, fun _ h => h, fun _ _ f h => ⟨f, h, fun z => z⟩⟩, r, fun z => by cases z⟩
  · obtain ⟨n1, n2, n3, n4⟩ := S1.none0 h
    obtain ⟨o, h1, bare⟩ := h1
    refine ⟨upd G a (.frz o (.tup xs)), S2.newG h1 n2 n1 n3 n4, ⟨fun a o h _ => k a o h, .upd n2, fun b u e => ?_, rfl, fun _ h => h, fun _ _ f h => ⟨f, h, fun z => z⟩⟩, .tup (.here bare) (r.mono (.upd n2)), fun z => by cases z⟩
    by_cases z : b = a
    · subst z; exact .inr (.inl h)
    · rw [upd_ne z] at e; exact .inl e
  · obtain ⟨n1, n2, n3, n4⟩ := S1.none0 h
    exact ⟨G, S2, ⟨fun a o h _ => k a o h, .refl, fun _ _ h => .inl h, rfl, fun _ h => h, fun _ _ f h => ⟨f, h, fun z => z⟩⟩, ⟨a, xs, ds, rfl, rfl, h1, r, n2, n1, n3, n4⟩, fun _ b e => by cases e; exact h⟩
end

section
variable {pa : PA} {G H : Hp} {v : V}
theorem RpT.int {i : Int} (r : RpT pa G H v (.int i)) : v = .int i := by cases (show Rp pa G v (.int i) from r); rfl
theorem RpT.bl {i : Bool} (r : RpT pa G H v (.bool i)) : v = .bl i := by cases (show Rp pa G v (.bool i) from r); rfl
theorem RpT.str {i : Str} (r : RpT pa G H v (.str i)) : v = .str i := by cases (show Rp pa G v (.str i) from r); rfl
theorem RpT.non (r : RpT pa G H v .none) : v = .non := by cases (show Rp pa G v .none from r); rfl
theorem RpT.lst {ds : List D} (r : RpT pa G H v (.list ds)) : ∃ a xs, v = .ref a ∧ H a = some (.lst xs) ∧ Rps pa G xs ds := r
theorem RpT.tup {ds : List D} (r : RpT pa G H v (.tuple ds)) : ∃ a xs, v = .ref a ∧ TupAt G a xs ∧ Rps pa G xs ds := by
  cases (show Rp pa G v (.tuple ds) from r) with
  | tup h r => exact ⟨_, _, rfl, h, r⟩
theorem RpT.dicR {kvs : List (D × D)} (r : RpT pa G H v (.dict kvs)) : ∃ a, v = .ref a := by
  cases (show Rp pa G v (.dict kvs) from r) with
  | pen h => exact ⟨_, rfl⟩
  | exc h => exact ⟨_, rfl⟩
theorem RpT.exc {C : Int} {c : Str} (r : RpT pa G H v (.dict [(.int C, .str c)])) : ∃ (a : Addr) (D : Addr), v = .ref a ∧ C = (D : Nat) ∧ G a = some (exT (.ref D) none a) := by
  cases (show Rp pa G v (.dict [(.int C, .str c)]) from r) with
  | exc h => exact ⟨_, _, rfl, rfl, h⟩
theorem RpT.dp (u : Sub G H) (K : PySem.W.Frag) {d : D} {n : Nat} (g : good n d = true) (r : RpT pa G H v d) : Dp K H v d := (r.all u).dp K g
end

def rD2 (op : Operator) : R2 := fun x y H Q => ∃ pa G d1 d2 d fr, Sub G H ∧ RpT pa G H x d1 ∧ RpT pa G H y d2 ∧ binD op d1 d2 = some (d, fr) ∧ ∀ v H1, Res pa G H v d fr H1 → Q v H1
section
variable {X : Cx}
theorem op_bin (op : Operator) : OpR X (binaryOp op) (rD2 op) := by
  intro pins s σ H x y v u Q I rx ry h
  obtain ⟨pa, G, d1, d2, d, fr, gh, r1, r2, e, k⟩ := h
  cases op with
  | Add =>
    change addD d1 d2 = some (d, fr) at e
    unfold addD at e
    split at e
    · cases e; rw [r1.int] at rx; rw [r2.int] at ry
      exact op_add pins s σ H _ _ v u Q I rx ry ⟨_, _, rfl, rfl, k _ _ (.old (.int _))⟩
    · split at e
      · rename_i hz
        cases e
        obtain ⟨a, xs, rfl, ha, ra⟩ := r1.tup
        obtain ⟨b, ys, rfl, hb, rb⟩ := r2.tup
        refine op_catF pins s σ H _ _ v u Q I rx ry ⟨a, b, xs, ys, rfl, rfl, (ha.up gh).sq, (hb.up gh).sq, by rw [ra.len, rb.len]; exact hz, fun z => ?_, fun z2 => ?_, ?_⟩
        · subst z; cases ra
          exact k _ _ (.old (.tup hb rb))
        · subst z2; cases rb
          rw [List.append_nil] at k
          exact k _ _ (.old (.tup ha ra))
        · exact Res.tup k (ra.app rb)
      · cases e
    · split at e
      · rename_i hz
        cases e
        obtain ⟨a, xs, rfl, ha, ra⟩ := r1.lst
        obtain ⟨b, ys, rfl, hb, rb⟩ := r2.lst
        exact op_cat pins s σ H _ _ v u Q I rx ry ⟨a, b, xs, ys, rfl, rfl, ha, hb, by rw [ra.len, rb.len]; exact hz, fun p hp => k _ _ (.lst hp (ra.app rb))⟩
      · cases e
    · split at e
      · rename_i hz
        cases e; rw [r1.str] at rx; rw [r2.str] at ry
        exact op_add_str pins s σ H _ _ v u Q I rx ry ⟨_, _, rfl, rfl, hz, k _ _ (.old (.str _))⟩
      · cases e
    · cases e
  | Sub =>
    simp only [binD] at e
    split at e
    · cases e; rw [r1.int] at rx; rw [r2.int] at ry
      exact op_sub pins s σ H _ _ v u Q I rx ry ⟨_, _, rfl, rfl, k _ _ (.old (.int _))⟩
    · cases e
  | Mult =>
    change mulD d1 d2 = some (d, fr) at e
    unfold mulD at e
    split at e
    · split at e
      · rename_i hz
        cases e; rw [r1.int] at rx; rw [r2.int] at ry
        exact op_mul pins s σ H _ _ v u Q I rx ry ⟨_, _, rfl, rfl, hz, k _ _ (.old (.int _))⟩
      · cases e
    · split at e
      · rename_i hz
        cases e; rw [r2.int] at ry
        obtain ⟨a, xs, rfl, ha, ra⟩ := r1.lst
        exact op_rep pins s σ H _ _ v u Q I rx ry ⟨a, _, xs, rfl, rfl, ha, hz.1, hz.2.1, by rw [ra.len]; exact hz.2.2, fun p hp => k _ _ (.lst hp (ra.rep _))⟩
      · cases e
    · split at e
      · rename_i a1 k1 hz
        cases e; rw [r2.int] at ry
        obtain ⟨a, xs, rfl, ha, ra⟩ := r1.tup
        have rel : RelV (.int _) u := ry
        refine op_repF pins s σ H _ _ v u Q I rx ry ⟨a, _, xs, rfl, rfl, (ha.up gh).sq, ⟨hz.1, hz.2.1, by rw [ra.len]; exact hz.2.2⟩, fun z => ?_, Res.tup k (ra.rep _)⟩
        have : (List.replicate k1.toNat a1).flatten = a1 := by
          rcases z with rfl | rfl
          · cases ra; simp
          · simp
        rw [this] at k
        exact k _ _ (.old (.tup ha ra))
      · cases e
    · cases e
  | FloorDiv =>
    simp only [binD] at e
    split at e
    · split at e
      · rename_i hz
        cases e; rw [r1.int] at rx; rw [r2.int] at ry
        exact op_fdiv pins s σ H _ _ v u Q I rx ry ⟨_, _, rfl, rfl, hz, k _ _ (.old (.int _))⟩
      · cases e
    · cases e
  | Mod =>
    simp only [binD] at e
    split at e
    · split at e
      · rename_i hz
        cases e; rw [r1.int] at rx; rw [r2.int] at ry
        exact op_mod pins s σ H _ _ v u Q I rx ry ⟨_, _, rfl, rfl, hz, k _ _ (.old (.int _))⟩
      · cases e
    · cases e
  | Pow =>
    simp only [binD] at e
    split at e
    · split at e
      · rename_i hz
        cases e; rw [r1.int] at rx; rw [r2.int] at ry
        exact op_pow pins s σ H _ _ v u Q I rx ry ⟨_, _, rfl, rfl, hz, k _ _ (.old (.int _))⟩
      · cases e
    · cases e
  | _ => cases e

def rC2 (op : CmpOp) : R2 := fun x y H Q => ∃ pa G d1 d2 b, Sub G H ∧ RpT pa G H x d1 ∧ RpT pa G H y d2 ∧ cmpD op d1 d2 = some b ∧ Q (.bl b) H
theorem okEq_cases {x y : D} (h : okEq x y = true) : (∃ a b, x = .str a ∧ y = .str b) ∨ (good 60 x = true ∧ good 60 y = true) := by
  unfold okEq at h
  split at h
  · exact .inl ⟨_, _, rfl, rfl⟩
  · exact .inr (by simpa using h)
theorem eqv_str {a b : Str} : PyData.eqv (.str a) (.str b) = decide (V.str a = V.str b) := by
  rw [dec_str]
  first | rfl | simp [PyData.eqv]
theorem op_cmp (op : CmpOp) (hu : X.A.units + 65 < cLine) : OpR X (compareOp op) (rC2 op) := by
  intro pins s σ H x y v u Q I rx ry h
  obtain ⟨pa, G, d1, d2, b, gh, r1, r2, e, k⟩ := h
  have hu2 : X.A.units + 64 < cLine := by omega
  cases op with
  | Eq =>
    simp only [cmpD] at e
    split at e
    · rename_i hz
      cases e
      rcases okEq_cases hz with ⟨a, b, rfl, rfl⟩ | ⟨g1, g2⟩
      · rw [r1.str] at rx; rw [r2.str] at ry
        rw [eqv_str] at k
        exact op_eq pins s σ H _ _ v u Q I rx ry ⟨rfl, k⟩
      · exact op_eqD hu2 pins s σ H x y v u Q I rx ry ⟨d1, d2, r1.dp gh _ g1, r2.dp gh _ g2, good_shaped g1, good_shaped g2, k⟩
    · cases e
  | NotEq =>
    simp only [cmpD] at e
    split at e
    · rename_i hz
      cases e
      rcases okEq_cases hz with ⟨a, b, rfl, rfl⟩ | ⟨g1, g2⟩
      · rw [r1.str] at rx; rw [r2.str] at ry
        rw [eqv_str] at k
        exact op_ne pins s σ H _ _ v u Q I rx ry ⟨rfl, k⟩
      · exact op_neD hu2 pins s σ H x y v u Q I rx ry ⟨d1, d2, r1.dp gh _ g1, r2.dp gh _ g2, good_shaped g1, good_shaped g2, k⟩
    · cases e
  | Lt =>
    simp only [cmpD] at e
    split at e
    · cases e; rw [r1.int] at rx; rw [r2.int] at ry
      exact op_lt pins s σ H _ _ v u Q I rx ry ⟨_, _, rfl, rfl, k⟩
    · cases e
  | LtE =>
    simp only [cmpD] at e
    split at e
    · cases e; rw [r1.int] at rx; rw [r2.int] at ry
      exact op_le pins s σ H _ _ v u Q I rx ry ⟨_, _, rfl, rfl, k⟩
    · cases e
  | Gt =>
    simp only [cmpD] at e
    split at e
    · cases e; rw [r1.int] at rx; rw [r2.int] at ry
      exact op_gt pins s σ H _ _ v u Q I rx ry ⟨_, _, rfl, rfl, k⟩
    · cases e
  | GtE =>
    simp only [cmpD] at e
    split at e
    · cases e; rw [r1.int] at rx; rw [r2.int] at ry
      exact op_ge pins s σ H _ _ v u Q I rx ry ⟨_, _, rfl, rfl, k⟩
    · cases e
  | In =>
    simp only [cmpD] at e
    cases d2 with
    | list ds =>
      simp only [itemsD, Option.bind_some] at e
      split at e
      · rename_i hz
        cases e
        rcases okEq_cases hz with ⟨a, b, _, z⟩ | ⟨g1, g2⟩
        · cases z
        · exact op_inD hu pins s σ H x y v u Q I rx ry ⟨d1, ds, r1.dp gh _ g1, r2.dp gh _ g2, good_shaped g1, good_shaped g2, k⟩
      · cases e
    | tuple ds =>
      simp only [itemsD, Option.bind_some] at e
      split at e
      · rename_i hz
        cases e
        rcases okEq_cases hz with ⟨a, b, _, z⟩ | ⟨g1, g2⟩
        · cases z
        · obtain ⟨as, q1⟩ := Dp.reads I d1 x v (r1.dp gh _ g1) rx
          obtain ⟨bs, q2⟩ := Dp.reads I (.tuple ds) y u (r2.dp gh _ g2) ry
          have sd := good_shaped g1
          exact SeqAt.in_tuple_reads q2 q1 (SeqAt.canLay_of_shaped (good_shaped g2)) (SeqAt.canLay_of_shaped sd) (by
            have h1 := SeqAt.depth_of_shaped sd
            have h2 : min (PyData.depthAll ds) d1.depth ≤ d1.depth := Nat.min_le_right _ _
            omega) ⟨.bl _, H, I, rfl, k⟩
      · cases e
    | _ => cases e
  | NotIn =>
    simp only [cmpD] at e
    cases d2 with
    | list ds =>
      simp only [itemsD, Option.bind_some] at e
      split at e
      · rename_i hz
        cases e
        rcases okEq_cases hz with ⟨a, b, _, z⟩ | ⟨g1, g2⟩
        · cases z
        · exact op_notInD hu pins s σ H x y v u Q I rx ry ⟨d1, ds, r1.dp gh _ g1, r2.dp gh _ g2, good_shaped g1, good_shaped g2, k⟩
      · cases e
    | tuple ds =>
      simp only [itemsD, Option.bind_some] at e
      split at e
      · rename_i hz
        cases e
        rcases okEq_cases hz with ⟨a, b, _, z⟩ | ⟨g1, g2⟩
        · cases z
        · obtain ⟨as, q1⟩ := Dp.reads I d1 x v (r1.dp gh _ g1) rx
          obtain ⟨bs, q2⟩ := Dp.reads I (.tuple ds) y u (r2.dp gh _ g2) ry
          have sd := good_shaped g1
          exact SeqAt.notIn_tuple_reads q2 q1 (SeqAt.canLay_of_shaped (good_shaped g2)) (SeqAt.canLay_of_shaped sd) (by
            have h1 := SeqAt.depth_of_shaped sd
            have h2 : min (PyData.depthAll ds) d1.depth ≤ d1.depth := Nat.min_le_right _ _
            omega) ⟨.bl _, H, I, rfl, k⟩
      · cases e
    | _ => cases e
  | _ => cases e

def rIxD : R2 := fun x y H Q => ∃ pa G d1 d2 d, Sub G H ∧ RpT pa G H x d1 ∧ RpT pa G H y d2 ∧ ixD d1 d2 = some d ∧ ∀ v, Rp pa G v d → Q v H
theorem Rps.atI {pa : PA} {G : Hp} {xs : List V} {ds : List D} {i : Int} {d : D} (r : Rps pa G xs ds) (h : L2.atI ds i = some d) : ∃ v, L2.atI xs i = some v ∧ Rp pa G v d := by
  unfold L2.atI at h ⊢
  rw [r.len]
  cases z : ixN ds.length i with
  | none => rw [z] at h; cases h
  | some j =>
    rw [z, Option.bind_some] at h
    obtain ⟨v, e, q⟩ := r.get h
    exact ⟨v, by rw [Option.bind_some]; exact e, q⟩
theorem ix_D : IxR X rIxD := by
  intro value slice pins s σ H x y v u Q I rx ry h hs
  obtain ⟨pa, G, d1, d2, d, gh, r1, r2, e, k⟩ := h
  unfold ixD at e
  split at e
  · rw [r2.int] at ry
    obtain ⟨a, xs, rfl, ha, ra⟩ := r1.lst
    obtain ⟨w, e1, q⟩ := ra.atI e
    exact ix_list value slice pins s σ H _ _ v u Q I rx ry ⟨a, xs, _, w, rfl, rfl, .of ha, e1, k w q⟩ hs
  · rw [r2.int] at ry
    obtain ⟨a, xs, rfl, ha, ra⟩ := r1.tup
    obtain ⟨w, e1, q⟩ := ra.atI e
    exact ix_tup value slice pins s σ H _ _ v u Q I rx ry ⟨a, xs, _, w, rfl, rfl, (ha.up gh).sq, e1, k w q⟩ hs
  · cases e
def rSlD : V → Option Int → Option Int → Hp → VK → Prop := fun x lo hi H Q => ∃ pa G d1 d fr, Sub G H ∧ RpT pa G H x d1 ∧ slD d1 (lo.map .int) (hi.map .int) = some (d, fr) ∧ ∀ v H1, Res pa G H v d fr H1 → Q v H1
theorem cut_rps {pa : PA} {G : Hp} {xs : List V} {ds : List D} (r : Rps pa G xs ds) (lo hi : Option Int) : Rps pa G (cutV xs lo hi) (cutD ds lo hi) := by
  unfold cutV cutD
  rw [r.len]
  exact (r.drop _).take _
theorem optI_map (o : Option Int) : optI (o.map .int) = some o := by cases o <;> rfl
theorem sl_D : SlR X rSlD := by
  intro pins s σ H x v vl vu lo hi sl Q I rx hs pl pu h
  obtain ⟨pa, G, d1, d, fr, gh, r1, e, k⟩ := h
  unfold slD at e
  rw [optI_map, optI_map, Option.bind_some, Option.bind_some] at e
  split at e
  · cases e
    obtain ⟨a, xs, rfl, ha, ra⟩ := r1.lst
    exact sl_list pins s σ H _ v vl vu lo hi sl Q I rx hs pl pu ⟨a, xs, rfl, .of ha, fun p hp => k _ _ (.lst hp (cut_rps ra lo hi))⟩
  · cases e
    obtain ⟨a, xs, rfl, ha, ra⟩ := r1.tup
    refine sl_tupF pins s σ H _ v vl vu lo hi sl Q I rx hs pl pu ⟨a, xs, rfl, (ha.up gh).sq, fun z => ?_, Res.tup k (cut_rps ra lo hi)⟩
    refine k _ _ (.old ?_)
    rename_i ds
    have : cutD ds lo hi = ds := by
      unfold cutD
      rw [← ra.len, z.1, z.2, List.drop_zero, Nat.sub_zero, ra.len, List.take_length]
    rw [this]
    exact .tup ha ra
  · cases e
end
end Fs

set_option Elab.async false
set_option linter.all false
set_option maxRecDepth 100000
set_option maxHeartbeats 4000000
namespace Fs
open PySem PySem.Spec PyProof.Rows L2

section
variable {P : Program} {w : World} {A : Around} {E : Value → Shared → Prop} {s : Shared}
abbrev bare0 (w : World) : Obj := { cls := .type "set", dict := none, data := .set #[] 0 (.fresh 0 0 (!w.params.followText "set-order")) }
abbrev heap1 (w : World) (s : Shared) : Heap := s.heap.push (bare0 w)
set_option maxHeartbeats 3200000 in
theorem set_of_ints {l : Addr} {items : Array Value} (ns : List Int) {Q : Value → Shared → Prop} (hh : A.handled = none)
    (hl : s.heap.IsList l items) (hit : IntsAre items.toList ns) (hb : ns.length + 1 < scanBound)
    (h : ∀ (h' : Heap) (tk c : Nat), SetR w h' s.heap.objs.size (fun j => decide (j ∈ ns)) c → c ≤ ns.length →
      (∀ b o, s.heap.get? b = some o → h'.get? b = some o) → Q (.ref s.heap.objs.size) { s with heap := h', toks := tk }) :
    wpAny (model P w) A (call (.type "set") [.ref l]) Q E s := by
  have size_eq : items.size = ns.length := by
    have q := IntsAre.length hit
    rwa [Array.length_toList] at q
  obtain ⟨c, tl, the_mro⟩ := F.called_set.mro
  have is_made := F.called_set.made
  have is_sub := F.called_set.sub
  refine wpAny_call (codeAny_of_tree ?_)
  show wpAny _ _ (callAny (.type "set") _) _ _ _
  refine wpAny_pure ⟨Code.quiet_builtin _ (by decide +kernel), codeAny_builtin F.entry_type_call ?_⟩
  rw [Around.under_plain (weight_type_call_type "set" [.ref l] []) rfl]
  have no_type := F.called_set.notType
  have may_make := F.called_set.canCreate
  have checked := F.typeCall_set_1 (.ref l)
  repeat (any_goals (first | assumption | wp_step))
  refine codeAny_mono (code_set_led1 (.ref l) (E := E)
    (Q₁ := fun obj s₁ => obj = .ref s.heap.objs.size ∧ s₁ = { s with heap := heap1 w s }) ⟨rfl, rfl⟩) fun r s₁ got => ?_
  cases r with
  | error e => exact got
  | ok fl =>
    cases fl with
    | ret obj =>
      obtain ⟨rfl, rfl⟩ := got
      have at0 : (heap1 w s).get? s.heap.objs.size = some (bare0 w) := Heap.get?_push_size _ rfl
      have type0 : Shared.TypeIs { s with heap := heap1 w s } (.ref s.heap.objs.size) "set" := ⟨_, at0, rfl⟩
      have look0 := F.called_set.init.lookup
      have bind0 := F.called_set.init.bind (.ref s.heap.objs.size)
      repeat (any_goals (first | assumption | wp_step))
      refine codeAny_mono (codeAny_call_builtin (R := wants (fun r s₂ => r = .none ∧ ∃ h' tk c, s₂ = { s with heap := h', toks := tk } ∧
          SetR w h' s.heap.objs.size (fun j => decide (j ∈ ns)) c ∧ c ≤ ns.length ∧ (∀ b o, s.heap.get? b = some o → h'.get? b = some o)) E)
          F.called_set.init.plain F.entry_set_init (check_set_init_1 type0 ?_)) fun r₂ s₂ got2 => ?_
      · obtain ⟨ol, at1, cls1, n1, dat1⟩ := hl
        obtain ⟨ocls, odict, odata, oslots⟩ := ol
        simp only at cls1 dat1
        subst cls1; subst dat1
        have at2 : (heap1 w s).get? l = some { cls := .type "list", dict := odict, data := .seq items n1, slots := oslots } := Heap.get?_push_of_some _ at1
        have no_set := F.sub_list_set
        have no_froz := F.sub_list_frozenset
        have no_dict : (Value.type "list" == Value.type "dict") = false := by decide
        have lst1 : (heap1 w s).IsList l items := ⟨_, at2, rfl, n1, rfl⟩
        unfold Builtin.«set.__init__» noKeywords Builtin.Frozenset.updateFrom
        generalize the_iter : pyIter = PI
        wp_walk
        subst the_iter
        refine wpAny_pyIter_list lst1 ?_
        refine wpAny_bind (wpAny_runValue ?_)
        have below : l < s.heap.objs.size := Heap.lt_size at1
        have hd3 : A.in1.in1.in1.handled = none := by simp [hh]
        have sz1 : (heap1 w s).objs.size = s.heap.objs.size + 1 := Heap.size_push ..
        have l_ne : l ≠ (heap1 w s).objs.size := by
          rw [sz1]; exact Nat.ne_of_lt (Nat.lt_succ_of_lt below)
        have not_in : s.heap.objs.size ∉ [(heap1 w s).objs.size, l] := by
          rw [sz1]
          simp only [List.mem_cons, List.mem_singleton, List.not_mem_nil, or_false, not_or]
          exact ⟨Nat.ne_of_lt (Nat.lt_succ_self _), Nat.ne_of_gt below⟩
        have vals1 : ∀ (i : Nat) (v : Value), items[i]? = some v → ∃ k t, ns[i]? = some k ∧ v = .int k t := fun i v hv => by
          have hi : i < ns.length := by rw [← size_eq]; exact (Array.getElem?_eq_some_iff.mp hv).1
          obtain ⟨t, e⟩ := PyProof.Rows.IntsAre.int_at hit i v (by rw [Array.getElem?_toList]; exact hv)
          exact ⟨ns[i], t, List.getElem?_eq_getElem hi, by rw [e, List.getD_eq_getElem?_getD, List.getElem?_eq_getElem hi] <;> rfl⟩
        refine set_update_ints ((Walks.list hd3 _ l l_ne items).toS) s.heap.objs.size
          not_in ns size_eq hb vals1 (items.size - 0) 0 _ (by omega) (Nat.zero_le _)
          ⟨⟨_, Heap.get?_push_size _ rfl, rfl, rfl⟩, (lst1.push _)⟩ ?first ?last
        case first =>
          exact ⟨0, Nat.le_refl 0, setR_new_at (Heap.get?_push_of_some _ at0)⟩
        case last =>
          intro s' c' mv le' set'
          obtain ⟨h', g2, d', tk', os'⟩ := s'
          have eg : g2 = s.gens := mv.gens
          have ed : d' = s.drawn := mv.drawn
          have eo : os' = s.os := mv.os
          subst eg; subst ed; subst eo
          show wpAny _ _ _ _ _ _
          refine wpAny_pure ?_
          show wpAny _ _ (ret Value.none) _ _ _
          rw [size_eq] at le'
          refine wpAny_pure ⟨rfl, h', tk', c', rfl, set', le', fun b o e => ?_⟩
          have b0 : b < s.heap.objs.size := Heap.lt_size e
          refine mv.heap b o ?_ (Heap.get?_push_of_some _ (Heap.get?_push_of_some _ e))
          simp only [List.mem_cons, List.mem_singleton, List.not_mem_nil, or_false, not_or]
          exact ⟨Nat.ne_of_lt b0, by rw [Heap.size_push]; exact Nat.ne_of_lt (Nat.lt_succ_of_lt b0)⟩
      · cases r₂ with
        | error e => exact got2
        | ok fl₂ =>
          cases fl₂ with
          | ret r =>
            obtain ⟨rfl, h', tk, c', rfl, set', le', kept'⟩ := got2
            repeat (any_goals (first | assumption | wp_step))
            exact h _ _ _ set' le' kept'
          | _ => exact got2.elim
    | _ => exact got.elim
end

end Fs

set_option Elab.async false
set_option linter.all false
set_option maxRecDepth 100000
set_option maxHeartbeats 4000000
namespace Fs
open PySem PySem.Spec PyProof.Rows L2

section
variable {P : Program} {w : World} {A : Around} {E : Value → Shared → Prop} {s : Shared}
set_option maxHeartbeats 3200000 in
theorem set_of_intsT {l : Addr} {items : Array Value} (ns : List Int) {Q : Value → Shared → Prop} (hh : A.handled = none)
    (hl : s.heap.IsTuple l items) (hit : IntsAre items.toList ns) (hb : ns.length + 1 < scanBound)
    (h : ∀ (h' : Heap) (tk c : Nat), SetR w h' s.heap.objs.size (fun j => decide (j ∈ ns)) c → c ≤ ns.length →
      (∀ b o, s.heap.get? b = some o → h'.get? b = some o) → Q (.ref s.heap.objs.size) { s with heap := h', toks := tk }) :
    wpAny (model P w) A (call (.type "set") [.ref l]) Q E s := by
  have size_eq : items.size = ns.length := by
    have q := IntsAre.length hit
    rwa [Array.length_toList] at q
  obtain ⟨c, tl, the_mro⟩ := F.called_set.mro
  have is_made := F.called_set.made
  have is_sub := F.called_set.sub
  refine wpAny_call (codeAny_of_tree ?_)
  show wpAny _ _ (callAny (.type "set") _) _ _ _
  refine wpAny_pure ⟨Code.quiet_builtin _ (by decide +kernel), codeAny_builtin F.entry_type_call ?_⟩
  rw [Around.under_plain (weight_type_call_type "set" [.ref l] []) rfl]
  have no_type := F.called_set.notType
  have may_make := F.called_set.canCreate
  have checked := F.typeCall_set_1 (.ref l)
  repeat (any_goals (first | assumption | wp_step))
  refine codeAny_mono (code_set_led1 (.ref l) (E := E)
    (Q₁ := fun obj s₁ => obj = .ref s.heap.objs.size ∧ s₁ = { s with heap := heap1 w s }) ⟨rfl, rfl⟩) fun r s₁ got => ?_
  cases r with
  | error e => exact got
  | ok fl =>
    cases fl with
    | ret obj =>
      obtain ⟨rfl, rfl⟩ := got
      have at0 : (heap1 w s).get? s.heap.objs.size = some (bare0 w) := Heap.get?_push_size _ rfl
      have type0 : Shared.TypeIs { s with heap := heap1 w s } (.ref s.heap.objs.size) "set" := ⟨_, at0, rfl⟩
      have look0 := F.called_set.init.lookup
      have bind0 := F.called_set.init.bind (.ref s.heap.objs.size)
      repeat (any_goals (first | assumption | wp_step))
      refine codeAny_mono (codeAny_call_builtin (R := wants (fun r s₂ => r = .none ∧ ∃ h' tk c, s₂ = { s with heap := h', toks := tk } ∧
          SetR w h' s.heap.objs.size (fun j => decide (j ∈ ns)) c ∧ c ≤ ns.length ∧ (∀ b o, s.heap.get? b = some o → h'.get? b = some o)) E)
          F.called_set.init.plain F.entry_set_init (check_set_init_1 type0 ?_)) fun r₂ s₂ got2 => ?_
      · obtain ⟨ol, at1, cls1, n1, dat1⟩ := hl
        obtain ⟨ocls, odict, odata, oslots⟩ := ol
        simp only at cls1 dat1
        subst cls1; subst dat1
        have at2 : (heap1 w s).get? l = some { cls := .type "tuple", dict := odict, data := .seq items n1, slots := oslots } := Heap.get?_push_of_some _ at1
        have no_set := F.sub_tuple_set
        have no_froz := F.sub_tuple_frozenset
        have no_dict : (Value.type "tuple" == Value.type "dict") = false := by decide
        have lst1 : (heap1 w s).IsTuple l items := ⟨_, at2, rfl, n1, rfl⟩
        unfold Builtin.«set.__init__» noKeywords Builtin.Frozenset.updateFrom
        generalize the_iter : pyIter = PI
        wp_walk
        subst the_iter
        refine wpAny_pyIter_tuple lst1 ?_
        refine wpAny_bind (wpAny_runValue ?_)
        have below : l < s.heap.objs.size := Heap.lt_size at1
        have hd3 : A.in1.in1.in1.handled = none := by simp [hh]
        have sz1 : (heap1 w s).objs.size = s.heap.objs.size + 1 := Heap.size_push ..
        have l_ne : l ≠ (heap1 w s).objs.size := by
          rw [sz1]; exact Nat.ne_of_lt (Nat.lt_succ_of_lt below)
        have not_in : s.heap.objs.size ∉ [(heap1 w s).objs.size, l] := by
          rw [sz1]
          simp only [List.mem_cons, List.mem_singleton, List.not_mem_nil, or_false, not_or]
          exact ⟨Nat.ne_of_lt (Nat.lt_succ_self _), Nat.ne_of_gt below⟩
        have vals1 : ∀ (i : Nat) (v : Value), items[i]? = some v → ∃ k t, ns[i]? = some k ∧ v = .int k t := fun i v hv => by
          have hi : i < ns.length := by rw [← size_eq]; exact (Array.getElem?_eq_some_iff.mp hv).1
          obtain ⟨t, e⟩ := PyProof.Rows.IntsAre.int_at hit i v (by rw [Array.getElem?_toList]; exact hv)
          exact ⟨ns[i], t, List.getElem?_eq_getElem hi, by rw [e, List.getD_eq_getElem?_getD, List.getElem?_eq_getElem hi] <;> rfl⟩
        refine set_update_ints ((Walks.tuple hd3 _ l l_ne items).toS) s.heap.objs.size
          not_in ns size_eq hb vals1 (items.size - 0) 0 _ (by omega) (Nat.zero_le _)
          ⟨⟨_, Heap.get?_push_size _ rfl, rfl, rfl⟩, (lst1.push _)⟩ ?first ?last
        case first =>
          exact ⟨0, Nat.le_refl 0, setR_new_at (Heap.get?_push_of_some _ at0)⟩
        case last =>
          intro s' c' mv le' set'
          obtain ⟨h', g2, d', tk', os'⟩ := s'
          have eg : g2 = s.gens := mv.gens
          have ed : d' = s.drawn := mv.drawn
          have eo : os' = s.os := mv.os
          subst eg; subst ed; subst eo
          show wpAny _ _ _ _ _ _
          refine wpAny_pure ?_
          show wpAny _ _ (ret Value.none) _ _ _
          rw [size_eq] at le'
          refine wpAny_pure ⟨rfl, h', tk', c', rfl, set', le', fun b o e => ?_⟩
          have b0 : b < s.heap.objs.size := Heap.lt_size e
          refine mv.heap b o ?_ (Heap.get?_push_of_some _ (Heap.get?_push_of_some _ e))
          simp only [List.mem_cons, List.mem_singleton, List.not_mem_nil, or_false, not_or]
          exact ⟨Nat.ne_of_lt b0, by rw [Heap.size_push]; exact Nat.ne_of_lt (Nat.lt_succ_of_lt b0)⟩
      · cases r₂ with
        | error e => exact got2
        | ok fl₂ =>
          cases fl₂ with
          | ret r =>
            obtain ⟨rfl, h', tk, c', rfl, set', le', kept'⟩ := got2
            repeat (any_goals (first | assumption | wp_step))
            exact h _ _ _ set' le' kept'
          | _ => exact got2.elim
    | _ => exact got.elim
end

end Fs

set_option Elab.async false
set_option linter.all false
set_option maxRecDepth 100000
set_option maxHeartbeats 4000000
namespace Fs
open PySem PySem.Spec PyProof.Rows L2
theorem mem_ins {n m : Int} : ∀ {l : List Int}, m ∈ ins n l ↔ m = n ∨ m ∈ l
  | [] => by simp [ins]
  | k :: r => by
    unfold ins
    split
    · simp
    · split
      · rename_i h; subst h; simp
      · simp only [List.mem_cons, mem_ins (l := r)]
        constructor
        · rintro (h | h | h)
          · exact .inr (.inl h)
          · exact .inl h
          · exact .inr (.inr h)
        · rintro (h | h | h)
          · exact .inr (.inl h)
          · exact .inl h
          · exact .inr (.inr h)
theorem ins_sorted {n : Int} : ∀ {l : List Int}, l.Pairwise (· < ·) → (ins n l).Pairwise (· < ·)
  | [], _ => by simp [ins]
  | k :: r, h => by
    obtain ⟨h1, h2⟩ := List.pairwise_cons.mp h
    unfold ins
    split
    · rename_i z
      refine List.pairwise_cons.mpr ⟨fun y hy => ?_, h⟩
      rcases List.mem_cons.mp hy with rfl | hy
      · exact z
      · exact Int.lt_trans z (h1 y hy)
    · split
      · exact h
      · refine List.pairwise_cons.mpr ⟨fun y hy => ?_, ins_sorted h2⟩
        rcases mem_ins.mp hy with rfl | hy
        · omega
        · exact h1 y hy
theorem ssetI_sorted : ∀ ns : List Int, (ssetI ns).Pairwise (· < ·)
  | [] => List.Pairwise.nil
  | n :: r => ins_sorted (ssetI_sorted r)
theorem mem_ssetI {m : Int} : ∀ {ns : List Int}, m ∈ ssetI ns ↔ m ∈ ns
  | [] => Iff.rfl
  | n :: r => by
    show m ∈ ins n (ssetI r) ↔ _
    rw [mem_ins, mem_ssetI (ns := r), List.mem_cons]
theorem sorted_uniq : ∀ {l m : List Int}, l.Pairwise (· < ·) → m.Pairwise (· < ·) → (∀ k, k ∈ l ↔ k ∈ m) → l = m
  | [], [], _, _, _ => rfl
  | [], b :: m, _, _, h => absurd ((h b).2 (by simp)) (by simp)
  | a :: l, [], _, _, h => absurd ((h a).1 (by simp)) (by simp)
  | a :: l, b :: m, h1, h2, h => by
    obtain ⟨p1, p2⟩ := List.pairwise_cons.mp h1
    obtain ⟨q1, q2⟩ := List.pairwise_cons.mp h2
    have e : a = b := by
      rcases List.mem_cons.mp ((h a).1 (by simp)) with z | z
      · exact z
      · rcases List.mem_cons.mp ((h b).2 (by simp)) with y | y
        · exact y.symm
        · have := p1 b y; have := q1 a z; omega
    subst e
    have : l = m := sorted_uniq p2 q2 fun k => by
      have hk := h k
      simp only [List.mem_cons] at hk
      constructor
      · intro hm
        rcases hk.1 (.inr hm) with rfl | z
        · exact absurd (p1 _ hm) (by omega)
        · exact z
      · intro hm
        rcases hk.2 (.inr hm) with rfl | z
        · exact absurd (q1 _ hm) (by omega)
        · exact z
    rw [this]

theorem nodup_len {l m : List Int} (hl : l.Nodup) (h : ∀ k, k ∈ l → k ∈ m) : l.length ≤ m.length := by
  induction l generalizing m with
  | nil => simp
  | cons x r ih =>
    obtain ⟨h1, h2⟩ := List.nodup_cons.mp hl
    have hx := h x (List.mem_cons_self ..)
    have := ih (m := m.erase x) h2 fun k hk => (List.mem_erase_of_ne (fun z => h1 (by rw [← z]; exact hk))).mpr (h k (List.mem_cons_of_mem _ hk))
    rw [List.length_erase_of_mem hx] at this
    have := List.length_pos_of_mem hx
    rw [List.length_cons]; omega
theorem setR_len {w : World} {h : Heap} {a : Addr} {ns : List Int} {c : Nat} (hS : SetR w h a (fun j => decide (j ∈ ns)) c) : c = (ssetI ns).length := by
  obtain ⟨o, es, ep, t, _, _, _, _, nd, hm, _, _, hn, _⟩ := hS
  have e : c = (es.toList.map keyOf).length := by rw [List.length_map, Array.length_toList, hn]
  have nd2 : (ssetI ns).Nodup := (ssetI_sorted ns).imp fun h => by omega
  have hmem : ∀ k, k ∈ es.toList.map keyOf ↔ k ∈ ssetI ns := fun k => by rw [← hm k, mem_ssetI, decide_eq_true_eq]
  have h1 := nodup_len nd fun k hk => (hmem k).mp hk
  have h2 := nodup_len nd2 fun k hk => (hmem k).mpr hk
  omega
def rSortSet (K : PySem.W.Frag) (te : TE) : TE := fun σ H Q => te σ H fun x H1 => ∃ (l : Addr) (ns : List Int), x = .ref l ∧ (SqL K H1 l (ns.map V.int) ∨ SqT K H1 l (ns.map V.int)) ∧ (ns.length ≤ 4000 ∧ (ssetI ns).length < 64) ∧ ∀ p, H1 p = none → Q (.ref p) (upd H1 p (.lst ((ssetI ns).map V.int)))
theorem pe_sortSet {X : Cx} {a : Expr} {ta : TE} {p p2 q pos : Pos} (hc : X.calm = true) (hg : Gl X "sorted") (hm : X.mg "sorted" = none) (hg2 : Gl X "set") (hm2 : X.mg "set" = none) (ha : PE X a ta)
    (na : starEach [a] X.env = (false, eval a X.env) :: starEach [] X.env) :
    PE X (.Call (.Name "sorted" p) [.Call (.Name "set" p2) [a] [] q] [] pos) (rSortSet X.K ta) := by
  refine ⟨fun pins s σ H Q I h => ?_⟩
  refine Call_ (ld_blt I hg hm PyProof.Rows.boot_sorted ?_)
  refine callWith_builtin1 (args_cons ?_ rfl) rfl rfl
  refine Call_ (ld_blt I hg2 hm2 PyProof.Rows.boot_set ?_)
  refine callWith_type1 (args_cons (thn (ha.run pins s σ H _ I h) fun v s1 ⟨x, H1, I1, r1, q1⟩ => args_nil ?_) na) na rfl
  obtain ⟨l, ns, rfl, hq, hl, q1⟩ := q1
  cases r1
  have both : ∀ {Q' : Value → Shared → Prop}, (∀ (h' : Heap) (tk c : Nat), SetR X.w h' s1.heap.objs.size (fun j => decide (j ∈ ns)) c → c ≤ ns.length →
      (∀ b o, s1.heap.get? b = some o → h'.get? b = some o) → Q' (.ref s1.heap.objs.size) { s1 with heap := h', toks := tk }) → wpAny (model X.prog X.w) X.A (call (.type "set") [.ref l]) Q' X.xe s1 := fun {Q'} fin => by
    rcases hq with hq | hq
    · obtain ⟨its, r, pl, hz⟩ := I1.list hq
      exact set_of_ints ns (I1.ok.hd hc) pl.isList (by simpa using r.ints) (by unfold scanBound; omega) fin
    · obtain ⟨its, r, pl, hz⟩ := I1.tuple hq
      exact set_of_intsT ns (I1.ok.hd hc) pl (by simpa using r.ints) (by unfold scanBound; omega) fin
  refine both fun h' tk c hS hcn hk => ?_
  refine args_nil ?_
  have I2 : Inv X pins σ H1 { s1 with heap := h', toks := tk } := I1.kept hk
  have hcl : c = (ssetI ns).length := setR_len hS
  refine sorted_set hS (I1.ok.hd hc) (by omega) fun s' p out cc ms k2 g2 o2 hp2 hout hints hpw hmem hlen => ?_
  have e : ms = ssetI ns := sorted_uniq hpw (ssetI_sorted ns) fun k => by
    rw [hmem k, mem_ssetI, decide_eq_true_eq]
  subst e
  have lim : ((ssetI ns).map V.int).length ≤ sizeLine := by rw [List.length_map, hlen]; exact small64 (by omega)
  have hn : H1 p = none := I2.hok.fresh hp2
  exact ⟨.ref p, _, I2.call' (ch := []) o2 (Un.laid k2 hp2 hn) (I2.hok.laid k2 hp2 (show ObjOk X.prog X.w _ _ _ (.lst ((ssetI ns).map V.int)) from ⟨lim, out.toList, cc, vals_of_ints hints, hout⟩)) (by rw [g2]; exact I2.bare) (fun _ z => nomatch z), rfl, q1 p hn⟩
theorem imp {X : Cx} {e : Expr} {t t' : TE} (h : PE X e t) (k : ∀ σ H Q, t' σ H Q → t σ H Q) : PE X e t' := ⟨fun pins s σ H Q I q => h.run pins s σ H Q I (k σ H Q q)⟩

def RpTs (pa : PA) (G H : Hp) : List V → List D → Prop
  | [], [] => True
  | v :: vs, d :: ds => RpT pa G H v d ∧ RpTs pa G H vs ds
  | _, _ => False
theorem RpTs.one {pa : PA} {G H : Hp} {vs : List V} {d : D} (h : RpTs pa G H vs [d]) : ∃ v, vs = [v] ∧ RpT pa G H v d := by
  match vs, h with
  | [v], h => exact ⟨v, rfl, h.1⟩
theorem RpTs.two {pa : PA} {G H : Hp} {vs : List V} {d e : D} (h : RpTs pa G H vs [d, e]) : ∃ v w, vs = [v, w] ∧ RpT pa G H v d ∧ RpT pa G H w e := by
  match vs, h with
  | [v, w], h => exact ⟨v, w, rfl, h.1, h.2.1⟩
def rBlt (f : Bf) : List V → Hp → VK → Prop := fun vs H Q => ∃ pa G ds d fr, Sub G H ∧ RpTs pa G H vs ds ∧ bltD f ds = some (d, fr) ∧ ∀ v H1, Res pa G H v d fr H1 → Q v H1
theorem maxI_is : ∀ {ns : List Int} {m : Int}, m ∈ ns → (∀ y, y ∈ ns → y ≤ m) → m = maxI ns
  | [], _, h, _ => by simp at h
  | [n], m, h, _ => by simpa [maxI] using h
  | n :: k :: r, m, h, u => by
    show m = max n (maxI (k :: r))
    by_cases z : m ∈ k :: r
    · have ih := maxI_is z fun y hy => u y (List.mem_cons_of_mem _ hy)
      have := u n (by simp)
      omega
    · rcases List.mem_cons.mp h with rfl | h
      · have : ∀ l : List Int, (∀ y, y ∈ l → y ≤ m) → l ≠ [] → maxI l ≤ m := by
          intro l
          induction l with
          | nil => intro _ z; exact absurd rfl z
          | cons a l ih =>
            intro hy _
            cases l with
            | nil => exact hy a (by simp)
            | cons b l =>
              have := ih (fun y h => hy y (List.mem_cons_of_mem _ h)) (by simp)
              have := hy a (by simp)
              show max a (maxI (b :: l)) ≤ m
              omega
        have := this (k :: r) (fun y hy => u y (List.mem_cons_of_mem _ hy)) (by simp)
        omega
      · exact absurd h z
theorem minI_is : ∀ {ns : List Int} {m : Int}, m ∈ ns → (∀ y, y ∈ ns → m ≤ y) → m = minI ns
  | [], _, h, _ => by simp at h
  | [n], m, h, _ => by simpa [minI] using h
  | n :: k :: r, m, h, u => by
    show m = min n (minI (k :: r))
    by_cases z : m ∈ k :: r
    · have ih := minI_is z fun y hy => u y (List.mem_cons_of_mem _ hy)
      have := u n (by simp)
      omega
    · rcases List.mem_cons.mp h with rfl | h
      · have : ∀ l : List Int, (∀ y, y ∈ l → m ≤ y) → l ≠ [] → m ≤ minI l := by
          intro l
          induction l with
          | nil => intro _ z; exact absurd rfl z
          | cons a l ih =>
            intro hy _
            cases l with
            | nil => exact hy a (by simp)
            | cons b l =>
              have := ih (fun y h => hy y (List.mem_cons_of_mem _ h)) (by simp)
              have := hy a (by simp)
              show m ≤ min a (minI (b :: l))
              omega
        have := this (k :: r) (fun y hy => u y (List.mem_cons_of_mem _ hy)) (by simp)
        omega
      · exact absurd h z
section
variable {X : Cx}
theorem b_len : CallR X (.builtin "len") (rBlt .len) := by
  intro pins s σ H vs us Q I r h
  obtain ⟨pa, G, ds, d, fr, gh, rs, e, k⟩ := h
  unfold bltD at e
  split at e
  all_goals try (first | (cases e; done) | (rename_i z _; cases z; done) | (rename_i z; cases z; done))
  · split at e
    · rename_i hz
      cases e
      obtain ⟨v, rfl, rv⟩ := rs.one
      rw [rv.str] at r
      exact call_len_str pins s σ H _ us Q I r ⟨_, rfl, hz, k _ _ (.old (.int _))⟩
    · cases e
  · cases e
    obtain ⟨v, rfl, rv⟩ := rs.one
    obtain ⟨a, xs, rfl, ha, ra⟩ := rv.lst
    refine call_len_seq pins s σ H _ us Q I r ⟨a, xs, rfl, .inl (.of ha), ?_⟩
    rw [ra.len]
    exact k _ _ (.old (.int _))
  · cases e
    obtain ⟨v, rfl, rv⟩ := rs.one
    obtain ⟨a, xs, rfl, ha, ra⟩ := rv.tup
    refine call_len_seq pins s σ H _ us Q I r ⟨a, xs, rfl, .inr (ha.up gh).sq, ?_⟩
    rw [ra.len]
    exact k _ _ (.old (.int _))
theorem b_all (hc : X.calm = true) : CallR X (.builtin "all") (rBlt .all) := by
  intro pins s σ H vs us Q I r h
  obtain ⟨pa, G, ds, d, fr, gh, rs, e, k⟩ := h
  unfold bltD at e
  split at e
  all_goals try (first | (cases e; done) | (rename_i z _; cases z; done) | (rename_i z; cases z; done))
  obtain ⟨bs, eb, e⟩ := Option.map_eq_some_iff.mp e
  cases e
  obtain ⟨v, rfl, rv⟩ := rs.one
  obtain ⟨a, xs, rfl, ha, ra⟩ := rv.lst
  rw [ra.bools eb] at ha
  exact cr_all hc pins s σ H _ us Q I r ⟨a, bs, rfl, .of ha, k _ _ (.old (.bl _))⟩
theorem b_any (hc : X.calm = true) : CallR X (.builtin "any") (rBlt .any) := by
  intro pins s σ H vs us Q I r h
  obtain ⟨pa, G, ds, d, fr, gh, rs, e, k⟩ := h
  unfold bltD at e
  split at e
  all_goals try (first | (cases e; done) | (rename_i z _; cases z; done) | (rename_i z; cases z; done))
  obtain ⟨bs, eb, e⟩ := Option.map_eq_some_iff.mp e
  cases e
  obtain ⟨v, rfl, rv⟩ := rs.one
  obtain ⟨a, xs, rfl, ha, ra⟩ := rv.lst
  rw [ra.bools eb] at ha
  exact cr_any hc pins s σ H _ us Q I r ⟨a, bs, rfl, .of ha, k _ _ (.old (.bl _))⟩
theorem b_sum (hc : X.calm = true) : CallR X (.builtin "sum") (rBlt .sum) := by
  intro pins s σ H vs us Q I r h
  obtain ⟨pa, G, ds, d, fr, gh, rs, e, k⟩ := h
  unfold bltD at e
  split at e
  all_goals try (first | (cases e; done) | (rename_i z _; cases z; done) | (rename_i z; cases z; done))
  obtain ⟨ns, eb, e⟩ := Option.map_eq_some_iff.mp e
  cases e
  obtain ⟨v, rfl, rv⟩ := rs.one
  obtain ⟨a, xs, rfl, ha, ra⟩ := rv.lst
  rw [ra.ints eb] at ha
  exact cr_sum hc pins s σ H _ us Q I r ⟨a, ns, rfl, .of ha, k _ _ (.old (.int _))⟩
/-- what a pair in the heap says -/
def keyP (G : Hp) : V → Int × Int
  | .ref t => match G t with
    | some (.frz _ (.tup [.int a, .int b])) => (a, b)
    | _ => (0, 0)
  | _ => (0, 0)
theorem rp_pair {pa : PA} {G : Hp} {v : V} {p : Int × Int} (r : Rp pa G v (pairD p)) : ∃ t, v = .ref t ∧ TupAt G t [.int p.1, .int p.2] ∧ keyP G v = p := by
  cases r with
  | tup h r =>
    rename_i a xs
    obtain rfl : xs = [p.1, p.2].map V.int := Rps.ints r (by rfl)
    refine ⟨a, rfl, h, ?_⟩
    obtain ⟨o, h, _⟩ := h
    unfold keyP
    have h : G a = some (.frz o (.tup [.int p.1, .int p.2])) := h
    simp only [h]
theorem rps_mem {pa : PA} {G : Hp} : ∀ {xs : List V} {ps : List (Int × Int)}, Rps pa G xs (ps.map pairD) → (∀ x ∈ xs, Rp pa G x (pairD (keyP G x))) ∧ xs.map (keyP G) = ps
  | [], ps, r => by
    have := r.len
    cases ps with
    | nil => exact ⟨fun x hx => (by cases hx), rfl⟩
    | cons _ _ => simp at this
  | x :: xs, [], r => by have := r.len; simp at this
  | x :: xs, p :: ps, r => by
    cases r with
    | cons r1 r2 =>
      obtain ⟨_, _, _, e⟩ := rp_pair r1
      obtain ⟨h1, h2⟩ := rps_mem r2
      refine ⟨fun y hy => ?_, by rw [List.map_cons, e, h2]⟩
      rcases List.mem_cons.mp hy with rfl | hy
      · rw [e]; exact r1
      · exact h1 y hy
theorem rps_of {pa : PA} {G : Hp} : ∀ {ys : List V}, (∀ y ∈ ys, Rp pa G y (pairD (keyP G y))) → Rps pa G ys ((ys.map (keyP G)).map pairD)
  | [], _ => .nil
  | y :: ys, h => .cons (h y (List.mem_cons_self ..)) (rps_of fun z hz => h z (List.mem_cons_of_mem _ hz))
theorem b_srt : CallR X (.builtin "sorted") (rBlt .srt) := by
  intro pins s σ H vs us Q I r h
  obtain ⟨pa, G, ds, d, fr, gh, rs, e, k⟩ := h
  unfold bltD at e
  split at e
  all_goals try (first | (cases e; done) | (rename_i z _; cases z; done) | (rename_i z; cases z; done))
  · obtain ⟨ys, eb, e⟩ := Option.map_eq_some_iff.mp e
    cases e
    obtain ⟨v, rfl, rv⟩ := rs.one
    obtain ⟨a, xs, rfl, ha, ra⟩ := rv.lst
    unfold srtD at eb
    split at eb
    · rename_i ns en
      cases eb
      rw [ra.ints en] at ha
      refine cr_sortedI pins s σ H _ us Q I r ⟨a, ns, rfl, .of ha, fun ns' p h1 h2 h3 => ?_⟩
      rw [srt_of h1 h2]
      exact k _ _ (.lst h3 (Rps.ofInts _))
    · obtain ⟨ps, ep, rfl⟩ := Option.map_eq_some_iff.mp eb
      rw [pairsOf_some ep] at ra
      obtain ⟨hm, hk⟩ := rps_mem ra
      obtain ⟨u, rfl, ru⟩ := vals1 r
      cases ru
      obtain ⟨its, rv, hl, small⟩ := I.list (.of ha)
      obtain ⟨ex, refs⟩ := refs_back rv fun x hx => (rp_pair (hm x hx)).imp fun _ z => z.1
      refine SrtO.sorted_pairsO (k := fun w => keyP G (backV w)) hl.isList (rv.length ▸ small) (fun w hw => ?_) fun h' b out sorted stable kept new at' => ?_
      · obtain ⟨t, rfl⟩ := refs w hw
        obtain ⟨t', e, ⟨o, h1, _⟩, h2⟩ := rp_pair (hm (backV (.ref t)) (by rw [ex]; exact List.mem_map.mpr ⟨_, hw, rfl⟩))
        cases e
        obtain ⟨_, _, its2, r2, ob, e1, e2, n, e3⟩ := I.hok _ _ (gh _ _ h1)
        obtain ⟨w1, w2, rfl, ⟨t1, rfl⟩, ⟨t2, rfl⟩⟩ := vals2 r2
        exact ⟨_, ob, t1, t2, n, rfl, e1, e2, e3⟩
      · have refs2 : ∀ w ∈ out, ∃ t, w = Value.ref t := fun w hw => refs w (stable.perm.mem_iff.mp hw)
        obtain ⟨n, at'⟩ := at'
        have perm : (out.map backV).Perm xs := by rw [ex]; exact stable.perm.map _
        have hz : (out.map backV).map (keyP G) = srtP ps := by
          refine srtP_of (by rw [← hk]; exact perm.map _) (List.pairwise_map.mpr (List.pairwise_map.mpr (sorted.imp fun {x y} q => ?_)))
          have q := SrtO.lexB_no.mp q
          rw [leP_iff]
          omega
        have all := rps_of (pa := pa) (G := G) (ys := out.map backV) fun y hy => hm y (perm.mem_iff.mp hy)
        rw [hz] at all
        refine ⟨.ref b, _, I.laid (t' := s.toks) (o := .lst (out.map backV)) kept new ⟨?_, out, n, vals_back refs2, at'⟩, rfl, k _ _ (.lst (I.hok.fresh new) all)⟩
        rw [perm.length_eq]; exact small
  · obtain ⟨ns, eb, e⟩ := Option.map_eq_some_iff.mp e
    cases e
    obtain ⟨v, rfl, rv⟩ := rs.one
    obtain ⟨a, xs, rfl, ha, ra⟩ := rv.tup
    rw [ra.ints eb] at ha
    refine cr_sortedTI pins s σ H _ us Q I r ⟨a, ns, rfl, (ha.up gh).sq, fun ns' p h1 h2 h3 => ?_⟩
    rw [srt_of h1 h2]
    exact k _ _ (.lst h3 (Rps.ofInts _))
theorem b_max (hc : X.calm = true) : CallR X (.builtin "max") (rBlt .max) := by
  intro pins s σ H vs us Q I r h
  obtain ⟨pa, G, ds, d, fr, gh, rs, e, k⟩ := h
  unfold bltD at e
  split at e
  all_goals try (first | (cases e; done) | (rename_i z _; cases z; done) | (rename_i z; cases z; done))
  · obtain ⟨ns, eb, e⟩ := Option.bind_eq_some_iff.mp e
    split at e
    · rename_i hz
      cases e
      obtain ⟨v, rfl, rv⟩ := rs.one
      obtain ⟨a, xs, rfl, ha, ra⟩ := rv.lst
      rw [ra.ints eb] at ha
      exact cr_max hc pins s σ H _ us Q I r ⟨a, ns, rfl, .of ha, hz, fun m h1 h2 => by rw [maxI_is h1 h2]; exact k _ _ (.old (.int _))⟩
    · cases e
  · cases e
    obtain ⟨v, w, rfl, rv, rw'⟩ := rs.two
    rw [rv.int, rw'.int] at r
    exact call_max2 hc pins s σ H _ us Q I r ⟨_, _, rfl, k _ _ (.old (.int _))⟩
theorem alikeB_all {xs : List D} (h : alikeB xs = true) : PySem.W.AlikeAll xs := by
  unfold alikeB at h
  rw [Bool.and_eq_true, List.all_eq_true, List.all_eq_true] at h
  refine ⟨fun x hx y hy => List.all_eq_true.mp (h.1 x hx) y hy, fun x hx e => ?_⟩
  have := h.2 x hx
  rw [e] at this
  cases this
theorem min_list_at {prog : Program} {w : World} {A : Around} {E : Value → Shared → Prop} {s : Shared} {l : Addr} {vs : Array Value} {x : PyData} {xs : List PyData} {as : List Addr} {Q : Value → Shared → Prop} (hh : A.handled = none) (hl : s.heap.IsList l vs) (hr : ReadsAll s.heap vs.toList (x :: xs) as) (ha : PySem.W.AlikeAll (x :: xs)) (hu : A.units + 1 + PyData.depthAll (x :: xs) < cLine)
    (h : ∀ (i : Nat) v h' tk, vs[i]? = some v → i < (x :: xs).length → (x :: xs).getD i .none = PySem.W.minD x xs → (∀ b o, s.heap.get? b = some o → h'.get? b = some o) → Q v { s with heap := h', toks := tk }) :
    wpAny (model prog w) A (call (.builtin "min") [.ref l]) Q E s := by
  have hn : vs.size = xs.length + 1 := PySem.W.readsAll_len hr
  refine call_min_walkH (PySem.W.iter_listW (A := A.in1) hh hl fun s₂ e W st hfp hw hk => ?_)
  refine ⟨_, _, _, _, _, _, _, s.heap, _, rfl, W, st, hfp, by omega, hw, hk, PySem.W.cmpIn_lt (A := A.in1) hr ha (by show A.units + 1 + _ < _; exact hu), fun v s' hP m => ?_⟩
  obtain ⟨h', tk, rfl, hk'⟩ := PySem.W.moved_old e rfl m
  have e1 : vs.size - 1 = xs.length := by omega
  obtain ⟨e0, e2⟩ := PySem.W.argBest_fold PySem.W.dataLt PyData.none x xs xs.length (Nat.le_refl _)
  rw [List.take_length] at e2
  rw [e1] at hP
  exact h _ v h' tk hP (by simp only [List.length_cons]; omega) e2 hk'
theorem b_min (hc : X.calm = true) (hu : X.A.units + 65 < cLine) : CallR X (.builtin "min") (rBlt .min) := by
  intro pins s σ H vs us Q I r h
  obtain ⟨pa, G, ds, d, fr, gh, rs, e, k⟩ := h
  unfold bltD at e
  split at e
  all_goals try (first | (cases e; done) | (rename_i z _; cases z; done) | (rename_i z; cases z; done))
  · rename_i xs0 _
    unfold minLD at e
    cases eb : intsOf xs0 with
    | some ns =>
      rw [eb] at e
      dsimp only at e
      split at e
      · rename_i hz
        cases e
        obtain ⟨v, rfl, rv⟩ := rs.one
        obtain ⟨a, xs, rfl, ha, ra⟩ := rv.lst
        rw [ra.ints eb] at ha
        exact cr_min hc pins s σ H _ us Q I r ⟨a, ns, rfl, .of ha, hz, fun m h1 h2 => by rw [minI_is h1 h2]; exact k _ _ (.old (.int _))⟩
      · cases e
    | none =>
      rw [eb] at e
      dsimp only at e
      cases xs0 with
      | nil => cases e
      | cons x0 r0 =>
        dsimp only at e
        split at e
        · rename_i hz
          obtain ⟨g60, hal⟩ := Bool.and_eq_true_iff.mp hz
          cases e
          obtain ⟨v, rfl, rv⟩ := rs.one
          obtain ⟨u, rfl, ru⟩ := vals1 r
          obtain ⟨as, rd'⟩ := Dp.reads I (.list (x0 :: r0)) v u (rv.dp gh _ g60) ru
          have lay := (good_lay 60).1 _ g60
          obtain ⟨a, xs, rfl, ha, ra⟩ := rv.lst
          obtain ⟨its, rvs, hlst, _⟩ := I.list (.of ha)
          cases ru
          cases rd' with
          | list h1 h2 h3 h4 =>
            rename_i arr _ _
            have ev : arr = its.toArray := by
              obtain ⟨o, e1, e2, n, e3⟩ := hlst.isList
              rw [h1] at e1
              cases e1
              rw [h3] at e3
              cases e3; rfl
            subst ev
            have dep : PyData.depthAll (x0 :: r0) ≤ 60 := by
              have := lay.2
              simp only [PyData.depth] at this
              omega
            refine min_list_at (I.ok.hd hc) ⟨_, h1, h2, _, h3⟩ h4 (alikeB_all hal) (by omega) fun i v h' tk hv hi hd hk => ?_
            have hdi : (x0 :: r0)[i]? = some (PySem.W.minD x0 r0) := by
              rw [List.getElem?_eq_getElem hi, ← hd, List.getD_eq_getElem?_getD, List.getElem?_eq_getElem hi]; rfl
            obtain ⟨xv, hxv, rp⟩ := ra.get hdi
            obtain ⟨u, hu1, ru⟩ := rvs.get hxv
            have : u = v := by
              have e1 : its[i]? = some v := by simpa using hv
              rw [hu1] at e1
              exact Option.some.inj e1
            subst this
            exact ⟨xv, H, I.kept (t' := tk) hk, ru, k _ _ (.old rp)⟩
        · cases e
  · cases e
    obtain ⟨v, w, rfl, rv, rw'⟩ := rs.two
    rw [rv.int, rw'.int] at r
    exact call_min2 hc pins s σ H _ us Q I r ⟨_, _, rfl, k _ _ (.old (.int _))⟩
theorem b_tuple : CallR X (.type "tuple") (rBlt .tuple) := by
  intro pins s σ H vs us Q I r h
  obtain ⟨pa, G, ds, d, fr, gh, rs, e, k⟩ := h
  unfold bltD at e
  split at e
  all_goals try (first | (cases e; done) | (rename_i z _; cases z; done) | (rename_i z; cases z; done))
  · cases e
    obtain ⟨v, rfl, rv⟩ := rs.one
    obtain ⟨a, xs, rfl, ha, ra⟩ := rv.lst
    exact call_tupF pins s σ H _ us Q I r ⟨a, xs, rfl, .inl ⟨.of ha, Res.tup k ra⟩⟩
  · cases e
    obtain ⟨v, rfl, rv⟩ := rs.one
    obtain ⟨a, xs, rfl, ha, ra⟩ := rv.tup
    exact call_tupF pins s σ H _ us Q I r ⟨a, xs, rfl, .inr ⟨(ha.up gh).sq, k _ _ (.old (.tup ha ra))⟩⟩
theorem b_list : CallR X (.type "list") (rBlt .list) := by
  intro pins s σ H vs us Q I r h
  obtain ⟨pa, G, ds, d, fr, gh, rs, e, k⟩ := h
  unfold bltD at e
  split at e
  all_goals try (first | (cases e; done) | (rename_i z _; cases z; done) | (rename_i z; cases z; done))
  · cases e
    obtain ⟨v, rfl, rv⟩ := rs.one
    obtain ⟨a, xs, rfl, ha, ra⟩ := rv.lst
    exact call_list_of pins s σ H _ us Q I r ⟨a, xs, rfl, .inl (.of ha), fun p hp => k _ _ (.lst hp ra)⟩
  · cases e
    obtain ⟨v, rfl, rv⟩ := rs.one
    obtain ⟨a, xs, rfl, ha, ra⟩ := rv.tup
    exact call_list_of pins s σ H _ us Q I r ⟨a, xs, rfl, .inr (ha.up gh).sq, fun p hp => k _ _ (.lst hp ra)⟩
theorem b_int : CallR X (.type "int") (rBlt .int) := by
  intro pins s σ H vs us Q I r h
  obtain ⟨pa, G, ds, d, fr, gh, rs, e, k⟩ := h
  unfold bltD at e
  split at e
  all_goals try (first | (cases e; done) | (rename_i z _; cases z; done) | (rename_i z; cases z; done))
  · cases e
    obtain ⟨v, rfl, rv⟩ := rs.one
    rw [rv.int] at r
    exact call_int1 pins s σ H _ us Q I r (.inl ⟨_, rfl, k _ _ (.old (.int _))⟩)
  · cases e
    obtain ⟨v, rfl, rv⟩ := rs.one
    rw [rv.bl] at r
    exact call_int1 pins s σ H _ us Q I r (.inr ⟨_, rfl, k _ _ (.old (.int _))⟩)
theorem b_repr (hu : X.A.units + 65 < cLine) (hg : X.A.guards = some []) : CallR X (.builtin "repr") (rBlt .repr) := by
  intro pins s σ H vs us Q I r h
  obtain ⟨pa, G, ds, d, fr, gh, rs, e, k⟩ := h
  unfold bltD at e
  split at e
  all_goals try (first | (cases e; done) | (rename_i z _; cases z; done) | (rename_i z; cases z; done))
  rename_i d' _
  split at e
  · rename_i hz
    simp only [Bool.and_eq_true, decide_eq_true_eq] at hz
    obtain ⟨⟨g60, hs⟩, hl⟩ := hz
    cases e
    obtain ⟨v, rfl, rv⟩ := rs.one
    have k' := k _ _ (.old (.str _))
    obtain ⟨u, rfl, ru⟩ := vals1 r
    have lay := (good_lay 60).1 d' g60
    have big : ∀ a, v = .ref a → wpAny (model X.prog X.w) X.A (call (.builtin "repr") [u]) (EP X pins σ Q) X.xe s := fun a ea => by
      obtain ⟨as, rd'⟩ := Dp.reads I d' v u (rv.dp gh _ g60) ru
      subst ea
      cases ru
      exact repr_of_reads' rd' hs (PyData.noDict_hsm (PyData.hasDict_of_canLay d' lay.1)) hg (by omega) (fun _ _ e => e)
        (fun h' u tk hk => ⟨.str _, H, I.kept hk, ⟨u, rfl⟩, k'⟩) hl
    cases d' with
    | none =>
      rw [rv.non] at ru
      cases ru
      exact PySem.P.repr_of_none ⟨.str _, H, I.tok _, ⟨_, rfl⟩, k'⟩
    | bool b =>
      rw [rv.bl] at ru
      cases ru
      exact PySem.P.repr_of_bool ⟨.str _, H, I.tok _, ⟨_, rfl⟩, k'⟩
    | int i =>
      rw [rv.int] at ru
      obtain ⟨t, rfl⟩ := ru
      exact PySem.P.repr_of_int (by simpa [PyData.showable] using hs) ⟨.str _, H, I.tok _, ⟨_, rfl⟩, k'⟩
    | str x =>
      rw [rv.str] at ru
      obtain ⟨t, rfl⟩ := ru
      exact PySem.P.repr_of_str ⟨.str _, H, I.tok _, ⟨_, rfl⟩, k'⟩ hl
    | list xs =>
      obtain ⟨a, _, ea, _⟩ := rv.lst
      exact big a ea
    | tuple xs =>
      obtain ⟨a, _, ea, _⟩ := rv.tup
      exact big a ea
    | dict xs => simp [good] at g60
  · cases e
def rIs5 (t : Ty5) : List V → Hp → VK → Prop := fun vs H Q => ∃ pa G v d b, vs = [v, .ty t.ty] ∧ Sub G H ∧ RpT pa G H v d ∧ isiD t d = some b ∧ Q (.bl b) H
theorem b_isi (t : Ty5) : CallR X (.builtin "isinstance") (rIs5 t) := by
  intro pins s σ H vs us Q I r h
  obtain ⟨pa, G, v, d, b, rfl, gh, rv, e, k⟩ := h
  have go : ∀ (T : String), L2.TyOf X.K H v (.type T) → kitB T t.ty = some b → wpAny (model X.prog X.w) X.A (call (.builtin "isinstance") us) (EP X pins σ Q) X.xe s := fun T ty kb =>
    call_isi pins s σ H _ us Q I r ⟨v, .ty t.ty, .type T, .type t.ty, b, rfl, .ty _, .base ty, kit_ty kb, k⟩
  cases d with
  | none => rw [rv.non] at go; exact go "NoneType" .non (by cases t <;> (cases e; decide +kernel))
  | bool x => rw [rv.bl] at go; exact go "bool" (.bl _) (by cases t <;> (cases e; decide +kernel))
  | int x => rw [rv.int] at go; exact go "int" (.int _) (by cases t <;> (cases e; decide +kernel))
  | str x => rw [rv.str] at go; exact go "str" (.str _) (by cases t <;> (cases e; decide +kernel))
  | list x =>
    obtain ⟨a, xs, rfl, ha, ra⟩ := rv.lst
    exact go "list" (.lst ha) (by cases t <;> (cases e; decide +kernel))
  | tuple x =>
    obtain ⟨a, xs, rfl, ⟨o, ha, _⟩, ra⟩ := rv.tup
    have kb : kitB "tuple" t.ty = some b := by cases t <;> (cases e; decide +kernel)
    obtain ⟨u, c, rfl, ru, rc⟩ := vals2 r
    cases ru
    have ec := (ClsV.ty t.ty).eq rc
    subst ec
    obtain ⟨_, _, _, _, ob, h1, h2, _⟩ := I.hok a _ (gh _ _ ha)
    exact PySem.W.kia_one PySem.W.kitx_tuple I.kIn ⟨ob, h1, h2⟩ (kit_ty kb) (fun z => nomatch z) fun tk => ⟨.bl b, H, I.tok tk, rfl, k⟩
  | dict x => cases t <;> cases e
end
end Fs

set_option Elab.async false
set_option linter.all false
set_option maxRecDepth 100000
set_option maxHeartbeats 4000000
namespace Fs
open PySem PySem.Spec PyProof.Rows L2

abbrev GSp := List V → Hp → VK → Prop
def GR (outer : List Env) (P : Program) (w : World) (H : Hp) (s : Shared) (Q : VK) : Result → Shared → Prop
  | .ok (.ret u), s' => CE outer P w H s Q u s'
  | _, _ => False
/-- what stays the same through the law -/
structure Wd where
  P : Program
  w : World
  K : PySem.W.Frag
  mg : Str → Option Value
  base : Heap
structure GFn (W : Wd) (k : Nat) (f : Addr) (fd : FuncData) (ps : List Str) (sp : GSp) : Prop where
  len : ∀ vs H Q, sp vs H Q → vs.length = ps.length
  run : ∀ (A : Around) (outer : List Env) (s : Shared) (H : Hp) (args : Args) (us : List Value) (vs : List V) (Q : VK),
    Room k A → A.guards = some [] → Env0 W.P W.w W.K W.mg W.base A outer s H → BindsTo s fd args (ps.zip us) → Vals vs us → sp vs H Q →
    codeAny (model W.P W.w) A (.call (.ref f) args) (GR outer W.P W.w H s Q) s
theorem GFn.mono {W : Wd} {j k : Nat} {f : Addr} {fd : FuncData} {ps : List Str} {sp : GSp} (F : GFn W j f fd ps sp) (h : j ≤ k) : GFn W k f fd ps sp :=
  ⟨F.len, fun A outer s H args us vs Q hr => F.run A outer s H args us vs Q (hr.mono h)⟩
theorem GFn.imp {W : Wd} {k : Nat} {f : Addr} {fd : FuncData} {ps : List Str} {sp sp' : GSp} (F : GFn W k f fd ps sp) (h : ∀ vs H Q, sp' vs H Q → sp vs H Q) : GFn W k f fd ps sp' :=
  ⟨fun vs H Q z => F.len vs H Q (h vs H Q z), fun A outer s H args us vs Q hr hg e0 b rv z => F.run A outer s H args us vs Q hr hg e0 b rv (h vs H Q z)⟩
def wdOf (X : Cx) : Wd := ⟨X.prog, X.w, X.K, X.mg, X.base⟩

/-- the context of a def's body -/
def gx (W : Wd) (N : List Str) (qual : Str) (scope : Scope) (f : Addr) (cd : Value) (A : Around) (outer : List Env) (s : Shared) (H : Hp) : Cx :=
  { cxOf (fun _ _ _ _ _ _ => False) W.P W.w W.K W.mg W.base N qual scope f cd A outer s H (fun _ _ _ => False) with xe := fun _ _ => False }
theorem inv_xe {X : Cx} {pins : List (Addr × Obj)} {σ : L2.St} {H : Hp} {s : Shared} (E : Value → Shared → Prop) (I : Inv X pins σ H s) : Inv { X with xe := E } pins σ H s := I.wish E

/-- a def of the text, by its body -/
theorem gfn_of {W : Wd} {k : Nat} {f : Addr} {name qual : Str} {params : Arguments} {body : List Stmt} {scope : Scope} {dV kV doc pm cdv ct oc : Value} {an od : Option Addr} {osl : Array (Option Value)} {N ps : List Str} {sp : GSp}
    (lk : W.K.lookup f = some ⟨oc, od, .func (PySem.W.fnOf name qual params body scope dV kV doc pm an cdv ct), osl⟩)
    (hcd : PySem.W.codeIn W.K cdv qual = true) (S : FnScope N ps scope) (len : ∀ vs H Q, sp vs H Q → vs.length = ps.length)
    (hbody : ∀ (A : Around) (outer : List Env) (s : Shared) (H : Hp) (vs : List V) (Q : VK), Room k (A.deeper (envOfC qual scope s.heap.objs.size f cdv)) → A.guards = some [] → sp vs H Q →
      ∃ t, PSs (gx W N qual scope f cdv A outer s H) body t ∧ t { nx := fun _ H' => Q .non H', rt := Q } (L2.start N vs) H) :
    GFn W (k + 1) f (PySem.W.fnOf name qual params body scope dV kV doc pm an cdv ct) ps sp := by
  refine ⟨len, fun A outer s H args us vs Q room hgd e0 binds rv promise => ?_⟩
  have same_len := len _ _ _ promise
  have inK : W.K.In s.heap := e0.mod.kin.keeps fun b o e => (e0.bs b o e).1
  have nolim : s.heap.NoLimit := e0.mod.nolimit.keeps fun b o e => (e0.bs b o e).1
  have kinds : ∀ y ∈ ps.zip us, scope.names.lookup y.1 = some .local ∨
      (scope.names.lookup y.1 = some .cell ∧ ((cellsFrom (s.heap.objs.size + 1) scope.names []).lookup y.1).isSome = true) := by
    rintro ⟨n, v⟩ hy
    rcases S.par n (List.of_mem_zip hy).1 with z | z
    · exact .inl z
    · exact .inr ⟨z, PySem.W.cellsFrom_some _ _ _ (.inl z)⟩
  refine codeAny_call_function room.depth (inK _ _ lk) rfl S.co S.gen rfl (PySem.W.codeRec_of inK hcd) (binds _ _ _ _ ?_)
  refine wpAny_newFunctionEnv_cells S.kind kinds fun env henv s1 entered => ?_
  subst henv
  refine ⟨nolim.keeps entered.toInCall.keep, codeAny_func ?_⟩
  obtain ⟨t, ht, hq⟩ := hbody A outer s H vs Q (room.deeper _) hgd promise
  have J0 : Inv (gx W N qual scope f cdv A outer s H) [] (L2.start N vs) H s1 := inv_xe _ (inv_start S room.hd e0 same_len rv entered)
  refine wpAny_mono (ht.run [] s1 (L2.start N vs) H _ J0 hq) (fun fl s' got => ?_) fun e s' no => no.elim
  have done : ∀ {σ' : L2.St} {H' : Hp} {v : V} {u : Value}, Inv (gx W N qual scope f cdv A outer s H) [] σ' H' s' → RelV v u → Q v H' → CE outer W.P W.w H s Q u s' := by
    intro σ' H' v u J r q
    exact ⟨v, H', J.os, J.bare, J.base, J.hok, r, q⟩
  cases fl with
  | ret u =>
    obtain ⟨v, σ', H', J, r, q⟩ := got
    exact done J r q
  | next =>
    obtain ⟨σ', H', J, q⟩ := got
    exact done (v := V.non) (u := Value.none) J rfl q
  | brk => exact got.elim fun _ h => h.elim fun _ h => False.elim h.2
  | cont => exact got.elim fun _ h => h.elim fun _ h => False.elim h.2

/-- a call of a def -/
theorem pe_gcall {X : Cx} {k : Nat} {f : Addr} {fd : FuncData} {ps : List Str} {sp : GSp} {x : Str} {p pos : Pos} {e : Expr} {es : List Expr} {t : TA}
    (F : GFn (wdOf X) k f fd ps sp) (hr : Room k X.A) (hgd : X.A.guards = some []) (hg : Gl X x) (hm : X.mg x = some (.ref f)) (hk : PySem.W.keepIn X.K (.ref f) = true) (hb : Binds X.K fd ps []) (ha : L2.PA X (e :: es) t)
    (hdb : (x == ("__debug__" : Str)) = false) (he : starEach (e :: es) X.env = (false, eval e X.env) :: starEach es X.env) (hpl : (backTo pos (starEach es X.env)).any (·.1) = false) :
    PE X (.Call (.Name x p) (e :: es) [] pos) (fun σ H Q => t σ H fun vs H1 => sp vs H1 Q) := by
  refine ⟨fun pins s σ H Q I h => ?_⟩
  refine wpAny_Call_Name_kw (ld_glob I hg hm ?_ hdb)
  refine PySem.W.callWith_K (h₀ := X.base) I.ok.mod.kin hk (thn (ha.run pos pins s σ H _ I h) fun us s1 ⟨vs, H1, I1, r, q⟩ => ⟨I1.kIn, ?_⟩) he hpl
  have n1 : (us ++ ([] : List Value)).length = ps.length := by rw [List.append_nil, ← r.length]; exact F.len _ _ _ q
  have b1 := hb s1 us I1.kIn n1
  rw [List.append_nil] at b1
  refine wpAny_call (codeAny_mono (F.run X.A X.stack s1 H1 ⟨us, []⟩ us vs Q hr hgd I1.env0 b1 r q) fun r s' got => ?_)
  match r, got with
  | .ok (.ret u), got => exact I1.after got

/-- the law's call -/
theorem glaw_call {P : Program} {w : World} {K : PySem.W.Frag} {mg mb : Str → Option Value} {k : Nat} {fa a : Addr} {fd : FuncData} {x : Str} {sp : GSp} {s₁ : Shared} {vs : List Value} {ns : List Int}
    (inK : K.In s₁.heap) (glob : s₁.heap.Ns mainGlobals mg) (blts : s₁.heap.Ns builtinsNs mb) (boot : ∀ x : Str, x ≠ "__name__" → mb x = bootBuiltins x) (nolim : s₁.heap.NoLimit) (nogens : s₁.gens = #[])
    (script : s₁.heap.get? a = some { cls := .type "list", data := .seq vs.toArray }) (hnums : IntsAre vs ns) (len1 : ns.length ≤ sizeLine) (room : Room k callerA) (hgd : callerA.guards = some [])
    (F : ∀ base : Heap, K.In base → base.Ns mainGlobals mg → GFn ⟨P, w, K, mg, base⟩ k fa fd [x] sp) (binds : ∀ (s : Shared) (u : Value), BindsTo s fd ⟨[u], []⟩ [(x, u)])
    (hsp : ∀ H : Hp, Only H → SqL K H a (ns.map V.int) → sp [.ref a] H (fun v _ => v = .bl true)) :
    codeAny (model P w) callerA (.call (.ref fa) ⟨[.ref a], []⟩) (fun r s' => r = .ok (.ret (.bool true)) ∧ OldK s₁.heap s'.heap ∧ s'.os = s₁.os ∧ AllBare s'.gens) s₁ := by
  have rv := vals_ints hnums
  have len2 := hnums.length
  have main : ∀ H : Hp, Only H → SqL K H a (ns.map V.int) → HOk P w H s₁.heap → (∀ b, H b ≠ none → b = a) → (H a ≠ none → K.lookup a = none) →
      codeAny (model P w) callerA (.call (.ref fa) ⟨[.ref a], []⟩) (fun r s' => r = .ok (.ret (.bool true)) ∧ OldK s₁.heap s'.heap ∧ s'.os = s₁.os ∧ AllBare s'.gens) s₁ := by
    intro H only hS ok onlyA freeK
    have to : ∀ {b : Addr} {o : Obj}, s₁.heap.get? b = some o → H b = none → (hidT s₁.heap H).get? b = some o := fun e n => hidT_get e n
    have dictFree : ∀ {b : Addr} {o : Obj} {es : Array DictEntry} {ep : Nat}, s₁.heap.get? b = some o → o.data = .dict es ep → H b = none := by
      intro b o es ep e d
      cases q : H b with
      | none => rfl
      | some u =>
        have : b = a := onlyA b (by rw [q]; simp)
        subst this
        rw [script] at e; cases e
        cases (show Data.seq vs.toArray _ = Data.dict es ep from d)
    have toNs : ∀ {b : Addr} {m : Str → Option Value}, s₁.heap.Ns b m → (hidT s₁.heap H).Ns b m := by
      rintro b m ⟨o, es, ep, e, d, r⟩
      exact ⟨o, es, ep, to e (dictFree e d), d, r⟩
    have inB : K.In (hidT s₁.heap H) := by
      intro b o e
      refine to (inK b o e) ?_
      cases q : H b with
      | none => rfl
      | some u =>
        have : b = a := onlyA b (by rw [q]; simp)
        subst this
        rw [freeK (by rw [q]; simp)] at e; cases e
    have modB : Mod K mg (hidT s₁.heap H) := by
      obtain ⟨mc, c1, c2⟩ := nolim
      exact ⟨inB, toNs glob, ⟨mb, toNs blts, boot⟩, ⟨mc, toNs c1, c2⟩⟩
    have env0 : Env0 P w K mg (hidT s₁.heap H) callerA [] s₁ H := by
      refine ⟨rfl, modB, fun b o e => of_hidT e, Nat.le_of_eq (hidT_size _ _), trivial, fun b hb => ?_, ok, .of_eq nogens⟩
      exact absurd (show b ∈ ([] : List Addr) from hb) (by simp)
    refine codeAny_mono ((F _ inB (toNs glob)).run callerA [] s₁ H ⟨[.ref a], []⟩ [.ref a] [.ref a] _ room hgd env0 (binds s₁ (.ref a)) (.cons rfl .nil) (hsp H only hS)) fun r s' got => ?_
    match r, got with
    | .ok (.ret u), got =>
      obtain ⟨v, H', os, bare, un, ok', r', q⟩ := got
      have q' : v = .bl true := q
      subst q'
      obtain rfl : u = Value.bool true := r'
      refine ⟨rfl, OldK.of_keep fun b o e => ?_, os, bare⟩
      cases q : H b with
      | none => exact un.keep b o e q (fun z => absurd (show b ∈ ([] : List Addr) from z) (by simp)) (by simp)
      | some u =>
        rcases only b with z | ⟨ob, xs, z⟩
        · rw [q] at z; cases z
        · obtain ⟨e1, _⟩ := ok b _ z
          obtain ⟨e2, _⟩ := ok' b _ (un.frzs b ob _ z)
          rw [e] at e1; cases e1
          exact e2
  cases hk : K.lookup a with
  | some o =>
    have e := inK a o hk
    rw [script] at e
    cases e
    refine main (fun _ => none) (fun _ => .inl rfl) (.inr ⟨_, vs.toArray, _, hk, rfl, rfl, rfl, ?_, by simpa using rv⟩) (fun b u z => ?_) (fun b z => absurd rfl z) fun z => absurd rfl z
    · rw [List.size_toArray, len2]; exact len1
    · cases (show (none : Option HO) = some u from z)
  | none =>
    let o1 : Obj := { cls := .type "list", data := .seq vs.toArray }
    let H1 : Hp := fun b => if b = a then some (.frz o1 (.lst (ns.map V.int))) else none
    have at1 : H1 a = some (.frz o1 (.lst (ns.map V.int))) := if_pos rfl
    have at2 : ∀ b, b ≠ a → H1 b = none := fun b hb => if_neg hb
    refine main H1 (fun b => ?_) (.inl (.inr ⟨o1, at1⟩)) (fun b u z => ?_) (fun b z => ?_) fun _ => hk
    · by_cases hb : b = a
      · subst hb; exact .inr ⟨_, _, at1⟩
      · exact .inl (at2 b hb)
    · by_cases hb : b = a
      · subst hb
        rw [at1] at z; cases z
        exact ⟨script, by rw [List.length_map]; exact len1, vs, _, rv, script⟩
      · rw [at2 b hb] at z; cases z
    · by_cases hb : b = a
      · exact hb
      · exact absurd (at2 b hb) z
theorem gwalk_of {l : PySem.W.OpenLaw} {n k : Nat} {q : Program} {loose : List Str} {XP : (Str → Option Value) → Heap → Prop} {YP : World → Heap → Prop} {d : DefRec} {K : Params → PySem.W.Frag} {sp : World → GSp} {x : Str}
    (hn : l.most = some n) (hn2 : n ≤ sizeLine) (hdf : d.params.defaults = []) (room : Room k callerA) (hgd : callerA.guards = some [])
    (hY : ∀ (w : World) (h : Heap), YP w h → (K w.params).In h)
    (F : ∀ (w : World) (mg : Str → Option Value) (fa : Addr) (h : Heap), (K w.params).In h → h.Ns mainGlobals mg → mg d.name = some (.ref fa) →
      ∃ fd : FuncData, (∀ (s : Shared) (u : Value), BindsTo s fd ⟨[u], []⟩ [(x, u)]) ∧
        ∀ base : Heap, (K w.params).In base → base.Ns mainGlobals mg → GFn ⟨l.prog, w, K w.params, mg, base⟩ k fa fd [x] (sp w))
    (hsp : ∀ (w : World) (H : Hp) (a : Addr) (ns : List Int), ns.length ≤ n → Only H → SqL (K w.params) H a (ns.map V.int) → sp w [.ref a] H (fun v _ => v = .bl true)) :
    PySem.W.WalkO q loose XP YP l.row.toRowW d [] (fun f vs => PySem.call f vs) := by
  refine Att.attach_call hn hdf fun w s₀ s₁ mg mb fa o pm cd doc a vs ns G Y ho hd hcd hmg hobj hints hlen hg => ?_
  have inK := hY w _ Y
  obtain ⟨fd, hb, hF⟩ := F w mg fa _ inK G.T.g hmg
  exact glaw_call inK G.T.g G.T.b G.T.builtins G.T.nolimit hg hobj hints (Nat.le_trans hlen hn2) room hgd hF hb fun H hO hS => hsp w H a ns hlen hO hS
end Fs

set_option Elab.async false
set_option linter.all false
set_option maxRecDepth 100000
set_option maxHeartbeats 4000000
namespace Fs
open PySem PySem.Spec PyProof.Rows L2
open Sem (wp)
open AutoSeq1 (wpAny_loadPart')

abbrev tit0 (l : Addr) : Obj := { cls := .type "tuple_iterator", data := .fields #[.ref l, .int 0 0] }
abbrev enu0 (it : Addr) : Obj := { cls := .type "enumerate", data := .fields #[.none, .bool false, .ref it, rawInt 0, .none, .none] }
theorem meets_enum_tup (l : Addr) (items : Array Value) (n : Nat) (dct : Option Addr) (sl : Array (Option Value)) :
    Meets (Builtin.«enumerate.__new__» ⟨[.type "enumerate", .ref l], []⟩) (fun _ R s =>
      s.heap.get? l = some { cls := .type "tuple", dict := dct, data := .seq items n, slots := sl } ∧
      R (.ok (.ret (.ref (s.heap.push (tit0 l)).objs.size))) { s with heap := (s.heap.push (tit0 l)).push (enu0 s.heap.objs.size) }) :=
  .of_wp fun prog w A R s both => by
    obtain ⟨hp, g, d, tk, os⟩ := s
    obtain ⟨at0, fin⟩ := both
    have self_sub := sub_enumerate
    have isT : Heap.IsTuple (Shared.heap ⟨hp, g, d, tk, os⟩) l items := ⟨_, at0, rfl, n, rfl⟩
    wp_walk using wpAny_loadPart' at0
    refine wpAny_stack_any fun st => wpAny_pure ?_
    split
    · rename_i c _ _ _ _ _
      cases (c == Value.type "enumerate")
      · wp_walk using wpAny_loadPart' at0, wpAny_pyIter_tuple isT
        exact ⟨_, rfl, fin⟩
      · wp_walk using wpAny_loadPart' at0, wpAny_pyIter_tuple isT
        exact ⟨_, rfl, fin⟩
    · wp_walk using wpAny_loadPart' at0, wpAny_pyIter_tuple isT
      exact ⟨_, rfl, fin⟩
section
variable {prog : Program} {w : World} {A : Around} {E : Value → Shared → Prop} {s : Shared}
theorem call_enum_tup {l : Addr} {items : Array Value} {Q : Value → Shared → Prop} (isT : s.heap.IsTuple l items)
    (fin : ∀ h', IsEnum h' (s.heap.objs.size + 1) s.heap.objs.size 0 .none → h'.IsTupleIter s.heap.objs.size l 0 →
      (∀ b o, s.heap.get? b = some o → h'.get? b = some o) → Q (.ref (s.heap.objs.size + 1)) { s with heap := h' }) :
    wpAny (model prog w) A (call (.type "enumerate") [.ref l]) Q E s := by
  obtain ⟨⟨c, dct, dt, sl⟩, at0, cls0, n, dat0⟩ := isT
  simp only at cls0 dat0
  subst cls0 dat0
  refine callType_new F.called_enumerate (by decide) (F.typeCall_enumerate_1 _) (F.newCall_enumerate_1 _) (fun obj => F.args_object_init_2 obj _)
    F.entry_enumerate_new (meets_enum_tup l items n dct sl) ⟨at0, ?_⟩
  have z1 : (s.heap.push (tit0 l)).objs.size = s.heap.objs.size + 1 := Heap.size_push ..
  show _ ∧ _
  rw [z1]
  have en : IsEnum ((s.heap.push (tit0 l)).push (enu0 s.heap.objs.size)) (s.heap.objs.size + 1) s.heap.objs.size 0 .none := by
    have q := Heap.get?_push_size (s.heap.push (tit0 l)) (o := enu0 s.heap.objs.size) rfl
    rw [z1] at q
    exact q
  exact ⟨⟨_, en, rfl⟩, fin _ en ⟨_, Heap.get?_push_of_some _ (Heap.get?_push_size _ rfl), rfl, rfl⟩ fun b o x => Heap.get?_push_of_some _ (Heap.get?_push_of_some _ x)⟩
theorem enum_tup_end {e it l : Addr} {i : Nat} {items : Array Value} {old : Value} {Q : Option Value → Shared → Prop} (hd0 : A.handled = none) (en : IsEnum s.heap e it i old) (hit : s.heap.IsTupleIter it l i)
    (isT : s.heap.IsTuple l items) (past : items[i]? = none) (fin : ∀ h', Heap.ExtBut it s.heap h' → Q none { s with heap := h' }) : wpAny (model prog w) A (pyNext (.ref e)) Q E s := by
  have ty : s.TypeIs (.ref e) "enumerate" := ⟨_, en, rfl⟩
  have hd1 : A.in1.handled = none := hd0
  unfold pyNext
  refine wpAny_bind (wpAny_attempt (wpAny_callSpecial?_slot (name := Str.ofString "__next__") ty F.slot_enumerate_next ?_))
  refine wpAny_call_entry F.slot_enumerate_next ty F.entry_enumerate_next ?_ (F.args_enumerate_next_1 _)
  show wpAny _ _ (field (.ref e) 2 >>= _) _ _ _
  refine wpAny_bind (wpAny_field en rfl (x := .ref it) rfl ?_)
  refine wpAny_bind (wpAny_nextOf_tuple_end hd1 hit isT past fun h' x eb hx' => ?_)
  obtain ⟨o, ho, hc⟩ := hx'
  exact wpAny_bind (wpAny_isInstance (T := "StopIteration") (b := true) ⟨o, ho, hc⟩ isSubtype_stop (wpAny_pure (fin _ eb)))
end

/-- the tuple at a, each item in a new pair -/
def ItE (K : PySem.W.Frag) (a : Addr) : It :=
  ⟨fun i H => ∃ (xs : List V) (x : V), SqT K H a xs ∧ xs[i]? = some x,
   fun i H v H' => ∃ T x, v = .ref T ∧ H T = none ∧ H' = upd H T (.tup [.int (i : Nat), x]) ∧ ∀ xs, SqT K H a xs → xs[i]? = some x,
   fun i H => ∃ xs : List V, SqT K H a xs ∧ xs.length ≤ i⟩
theorem turn_enumT {P : Program} {w : World} {K : PySem.W.Frag} {elts : List Expr} {kk : Nat} {tpos : Pos} (a e it : Addr) :
    Turn P w K (.Tuple elts kk tpos) (ItE K a) [e, it] e (fun i h => (∃ old, IsEnum h e it ((i : Nat) : Int) old) ∧ h.IsTupleIter it a i ∧ e ≠ it ∧ a ≠ it ∧ a ≠ e) where
  mem := by simp
  obj := fun i h st b hb => by
    obtain ⟨⟨old, en⟩, ⟨o, ho, hc, hd⟩, _⟩ := st
    rcases (show b = e ∨ b = it by simpa using hb) with rfl | rfl
    · exact ⟨_, en, fun v q => nomatch q⟩
    · exact ⟨o, ho, fun v q => by rw [hd] at q; cases q⟩
  keep := fun i h h' st k => by
    obtain ⟨⟨old, en⟩, hi, ne⟩ := st
    exact ⟨⟨old, k e (by simp) _ en⟩, hi.at fun o q => k it (by simp) o q, ne⟩
  item := by
    intro X hP hw hK hc i pins s σ H E I hf st hg
    subst hP hw hK
    obtain ⟨⟨old, en⟩, hit, n1, n2, n3⟩ := st
    obtain ⟨xs, x, hq, hx⟩ := hg
    obtain ⟨its, rv, p, _⟩ := I.tuple hq
    obtain ⟨u, hu, ru⟩ := rv.get hx
    have l1 : e < s.heap.objs.size := Heap.lt_size en
    have l2 : it < s.heap.objs.size := by obtain ⟨_, q, _⟩ := hit; exact Heap.lt_size q
    have hd0 : X.A.in1.handled = none := I.ok.hd hc
    have dr := Draws.tuple (prog := X.prog) (w := X.w) hd0 it a n2 its.toArray
    have ilt : i < its.toArray.size := by
      rw [List.size_toArray]
      exact (List.getElem?_eq_some_iff.mp hu).1
    refine wpAny_pyNext_enum_itemD dr en ⟨hit, show s.heap.IsTuple a its.toArray from p⟩ ilt n1 (by simp only [List.mem_cons, List.not_mem_nil, or_false, not_or]; exact ⟨n1, Ne.symm n3⟩) fun y h' tk hy ho st' hT hsz hk => ?_
    have ey : y = u := by
      have e1 : its[i]? = some y := by simpa using hy
      rw [hu] at e1; exact (Option.some.inj e1).symm
    subst ey
    refine ⟨_, rfl, wpAny_letOwnedTupleGo_enum (s := { s with heap := h', toks := tk + 1 }) ho fun h'' he' sb => ?_⟩
    have at2 : h''.get? s.heap.objs.size = some { cls := .type "tuple", data := .seq #[.int i tk, y] } := (sb.2 _ (Nat.ne_of_gt l1)).trans hT
    have new : ObjOk X.prog X.w (upd H s.heap.objs.size (.tup [.int (i : Nat), x])) h'' s.heap.objs.size (.tup [.int (i : Nat), x]) := by
      refine ⟨by show 2 ≤ sizeLine; decide, [.int i tk, y], .cons ⟨_, rfl⟩ (.cons ru .nil), ⟨_, at2, rfl, _, rfl⟩⟩
    have I1 : Inv X pins σ (upd H s.heap.objs.size (.tup [.int (i : Nat), x])) { s with heap := h'', toks := tk + 1 } := by
      refine I.turnedNew (ch := [e, it]) (fun b ob hb q => ?_) hf (Nat.le_refl _) new
      exact (sb.2 b (fun z => hb (by simp [z]))).trans (hk b ob (fun z => hb (by simp [z])) (fun z => hb (by simp [z])) q)
    refine ⟨.ref s.heap.objs.size, _, I1, rfl, ⟨_, x, rfl, I.hok.fresh (Nat.le_refl _), rfl, fun ys hy => by rw [I.tuple_inj hy hq]; exact hx⟩, ⟨⟨y, ?_⟩, st'.1.at fun o q => (sb.2 it (Ne.symm n1)).trans q, n1, n2, n3⟩, fun b hb => ?_⟩
    · have e1 : ((i + 1 : Nat) : Int) = (i : Int) + 1 := by omega
      rw [e1]; exact he'
    · have below : b < s.heap.objs.size := by
        rcases (show b = e ∨ b = it by simpa using hb) with z | z <;> (rw [z]; assumption)
      rw [upd_ne (Nat.ne_of_lt below)]
      exact (hf b hb).1
  done := by
    intro X hP hw hK hc i pins s σ H E I hf st hg
    subst hP hw hK
    obtain ⟨⟨old, en⟩, hit, n1, n2, n3⟩ := st
    obtain ⟨xs, hq, hx⟩ := hg
    obtain ⟨its, rv, p, _⟩ := I.tuple hq
    obtain ⟨f0, f1, f2, f3, f4, f5⟩ := hf it (by simp)
    have hl := rv.length
    have hd0 : X.A.handled = none := I.ok.hd hc
    refine enum_tup_end hd0 en hit (show s.heap.IsTuple a its.toArray from p) (by simp; omega) fun h' eb => ?_
    exact ⟨rfl, I.turned (t' := s.toks) (fun b o hb q => eb b o hb q) f0 f1 f3 f4 f5⟩
  self := fun A i s Q E st h => let ⟨⟨_, en⟩, _⟩ := st; wpAny_pyIter_enum en h
def iEnA (K : PySem.W.Frag) (ta : TA) : TI := fun σ H R => ta σ H fun vs H1 => ∃ a xs, vs = [.ref a] ∧ ((SqL K H1 a xs ∧ R (Ite K a) H1) ∨ (SqT K H1 a xs ∧ R (ItE K a) H1))
theorem pi_enA {X : Cx} {e : Expr} {ta : TA} {p pos tpos : Pos} {elts : List Expr} {kk : Nat} (hg : Gl X "enumerate") (hm : X.mg "enumerate" = none) (ha : L2.PA X [e] ta)
    (hs : starEach [e] X.env = (false, eval e X.env) :: starEach [] X.env) : PI X (.Tuple elts kk tpos) (.Call (.Name "enumerate" p) [e] [] pos) (iEnA X.K ta) := by
  refine ⟨fun pins s σ H R I h => ?_⟩
  refine Call_ (ld_blt I hg hm boot_enumerate (PyProof.Rows.callWith_type1 (thn (ha.run pos pins s σ H _ I h) fun us s1 ⟨vs, H1, I1, r1, q1⟩ => ?_) hs rfl))
  obtain ⟨a, xs, ex, q1⟩ := q1
  subst ex
  obtain rfl : us = [.ref a] := r1.ref1
  have fresh2 : ∀ b, b ∈ [s1.heap.objs.size + 1, s1.heap.objs.size] → FpOk X pins H1 b := fun b hb => by
    have le : s1.heap.objs.size ≤ b := by
      rcases (show b = s1.heap.objs.size + 1 ∨ b = s1.heap.objs.size by simpa using hb) with z | z <;> omega
    exact I1.fpOk le (I1.hok.fresh le)
  rcases q1 with ⟨hq, q⟩ | ⟨hq, q⟩
  · obtain ⟨its, rv, p', _⟩ := I1.list hq
    refine call_enumerate_list p'.isList fun h' en hit _ hk => wpAny_pyIter_enum en ?_
    have I2 : Inv X pins σ H1 { s1 with heap := h' } := I1.kept (t' := s1.toks) hk
    exact ⟨s1.heap.objs.size + 1, [s1.heap.objs.size + 1, s1.heap.objs.size], _, _, H1, rfl, I2, turn_enum a _ _, ⟨⟨.none, en⟩, hit, Nat.succ_ne_self _⟩, fresh2, q⟩
  · obtain ⟨its, rv, p', _⟩ := I1.tuple hq
    have la : a < s1.heap.objs.size := by obtain ⟨o, z, _⟩ := id p'; exact Heap.lt_size z
    refine call_enum_tup (show s1.heap.IsTuple a its.toArray from p') fun h' en hit hk => wpAny_pyIter_enum en ?_
    have I2 : Inv X pins σ H1 { s1 with heap := h' } := I1.kept (t' := s1.toks) hk
    exact ⟨s1.heap.objs.size + 1, [s1.heap.objs.size + 1, s1.heap.objs.size], _, _, H1, rfl, I2, turn_enumT a _ _, ⟨⟨.none, en⟩, hit, Nat.succ_ne_self _, Nat.ne_of_lt la, Nat.ne_of_lt (Nat.lt_succ_of_lt la)⟩, fresh2, q⟩
theorem walk_enumT {K : PySem.W.Frag} {a : Addr} {xs : List V} : Walk (ItE K a) xs.length (fun H => SqT K H a xs) (YPair (fun i => some (.int (i : Nat))) (fun i => xs[i]?)) := by
  refine ⟨fun i _ hi q => ⟨xs, xs[i], q, by simp [hi]⟩, fun _ q => ⟨xs, q, Nat.le_refl _⟩, fun i H v H' _ q y => ?_⟩
  obtain ⟨T, x, h1, h2, h3, h4⟩ := y
  exact ⟨T, .int (i : Nat), x, h1, h2, h3, rfl, h4 xs q⟩
theorem walk_zipT {K : PySem.W.Frag} {a b : Addr} {xs ys : List V} {n : Nat} (hn : n = min xs.length ys.length) : Walk (RZ.ItzT K a b) n (fun H => SqT K H a xs ∧ SqT K H b ys) (YPair (fun i => xs[i]?) (fun i => ys[i]?)) := by
  subst hn
  refine ⟨fun i _ hi q => ?_, fun _ q => ⟨xs, ys, q.1, q.2, by omega⟩, fun i H v H' _ q y => ?_⟩
  · have h1 : i < xs.length := by omega
    have h2 : i < ys.length := by omega
    exact ⟨xs, ys, xs[i], ys[i], q.1, q.2, by simp [h1], by simp [h2]⟩
  · obtain ⟨T, x, z, h1, h2, h3, h4, h5⟩ := y
    exact ⟨T, x, z, h1, h2, h3, h4 xs q.1, h5 ys q.2⟩
end Fs

set_option Elab.async false
set_option linter.all false
set_option maxRecDepth 100000
set_option maxHeartbeats 4000000
namespace Fs
open PySem L2

section
variable {pa : PA} {H0 G0 G G1 G2 H H1 H2 : Hp} {σ : L2.St} {s s1 s2 : S} {v w : V} {d : D} {t : Tg}

theorem Ext.back (e : Ext pa G G1 H H1 σ s s1) {a : Addr} (h : H1 a = none) (S1 : Sim pa H0 G0 G1 σ H1 s1) : H a = none := by
  cases z : H a with
  | none => rfl
  | some o =>
    have np : ¬ pen1 pa a := (S1.none0 h).2.2.1
    rw [e.hk a o z np] at h; cases h
/-- a fresh list is no other value -/
theorem RT.apart (S1 : Sim pa H0 G0 G σ H s) {a : Addr} (g : G a = none) (n : ¬ pen1 pa a) (o : ¬ OwnAt σ s a) (r : RT pa H0 G σ H s v d t) (e : v = .ref a) : t = .fresh := by
  subst e
  cases t with
  | fresh => rfl
  | fz =>
    exfalso
    cases (show Rp pa G _ d from r) with
    | lst h _ => rw [g] at h; cases h
    | tup h _ => exact h.there g
    | pen h => exact n ⟨_, h⟩
    | exc h => rw [g] at h; cases h
  | slot i =>
    exfalso
    obtain ⟨f, h1, h2⟩ := r
    cases f with
    | true => exact o ⟨i, d, h1, h2⟩
    | false =>
      obtain ⟨w, h3, r⟩ := S1.fz i d h1
      rw [h2] at h3; cases h3
      cases r with
      | lst h _ => rw [g] at h; cases h
      | tup h _ => exact h.there g
      | pen h => exact n ⟨_, h⟩
      | exc h => rw [g] at h; cases h

/-- several values -/
def RTs (pa : PA) (H0 G : Hp) (σ : L2.St) (H : Hp) (s : S) (Hs : Hp) : List V → List (D × Tg) → Prop
  | [], [] => True
  | v :: vs, x :: xs => RT pa H0 G σ H s v x.1 x.2 ∧ NewT Hs v x.2 ∧ (x.2 = .fresh → ∀ p ∈ vs.zip xs, p.2.2 = .fresh → p.1 ≠ v) ∧ RTs pa H0 G σ H s Hs vs xs
  | _, _ => False
theorem RTs.len : ∀ {vs : List V} {xs : List (D × Tg)} {Hs : Hp}, RTs pa H0 G σ H s Hs vs xs → vs.length = xs.length
  | [], [], _, _ => rfl
  | _ :: _, _ :: _, _, h => by simp [RTs.len h.2.2.2]
  | [], _ :: _, _, h => h.elim
  | _ :: _, [], _, h => h.elim
theorem RTs.weak {Hs Hs' : Hp} (k : ∀ a, Hs' a = none → Hs a = none) : ∀ {vs : List V} {xs : List (D × Tg)}, RTs pa H0 G σ H s Hs' vs xs → RTs pa H0 G σ H s Hs vs xs
  | [], [], _ => trivial
  | _ :: _, _ :: _, h => ⟨h.1, fun z a e => k a (h.2.1 z a e), h.2.2.1, RTs.weak k h.2.2.2⟩
  | [], _ :: _, h => h.elim
  | _ :: _, [], h => h.elim
theorem RTs.tops (S1 : Sim pa H0 G0 G σ H s) : ∀ {vs : List V} {xs : List (D × Tg)} {Hs : Hp}, RTs pa H0 G σ H s Hs vs xs → RpTs pa G H vs (xs.map (·.1))
  | [], [], _, _ => trivial
  | _ :: _, _ :: _, _, h => ⟨h.1.top S1, RTs.tops S1 h.2.2.2⟩
  | [], _ :: _, _, h => h.elim
  | _ :: _, [], _, h => h.elim
theorem RTs.new : ∀ {vs : List V} {xs : List (D × Tg)} {Hs : Hp}, RTs pa H0 G σ H s Hs vs xs → ∀ p ∈ vs.zip xs, NewT Hs p.1 p.2.2 ∧ RT pa H0 G σ H s p.1 p.2.1 p.2.2
  | [], [], _, _, p, hp => by simp at hp
  | v :: vs, x :: xs, _, h, p, hp => by
    rcases List.mem_cons.mp hp with rfl | hp
    · exact ⟨h.2.1, h.1⟩
    · exact RTs.new h.2.2.2 p hp
  | [], _ :: _, _, h, _, _ => h.elim
  | _ :: _, [], _, h, _, _ => h.elim
theorem keep_ext (t : Tg) : Ext pa G G H H σ s (s.keep t) := by
  cases t with
  | fz => exact .refl
  | fresh => exact .refl
  | slot i => exact freeze_ext i (fun _ _ h => .inl h) .refl
theorem keep_pn (t : Tg) : (s.keep t).pn = s.pn := by cases t <;> rfl
theorem keeps_pn : ∀ (ts : List Tg) (s : S), (s.keeps ts).pn = s.pn
  | [], _ => rfl
  | t :: ts, s => (keeps_pn ts _).trans (keep_pn t)
/-- another value, behind the keeping of one -/
theorem RT.other {G' : Hp} {t' : Tg} (S1 : Sim pa H0 G0 G σ H s) (k : Sub G G') (nk : ∀ b o, G' b = some o → G b = some o ∨ v = .ref b) (rv : RT pa H0 G σ H s v d t) {w : V} {e : D}
    (ap : t = .fresh → t' = .fresh → w ≠ v) (r : RT pa H0 G σ H s w e t') : RT pa H0 G' σ H (s.keep t) w e t' := by
  have E : Ext pa G G H H σ s (s.keep t) := keep_ext t
  cases t' with
  | fz => exact Rp.mono k r
  | fresh =>
    obtain ⟨a, xs, ds, rfl, rfl, h, r, g, h0, n, o⟩ := r
    refine ⟨a, xs, ds, rfl, rfl, h, r.mono k, ?_, h0, n, fun z => o (E.own z)⟩
    cases q : G' a with
    | none => rfl
    | some u =>
      rcases nk a u q with z | z
      · rw [g] at z; cases z
      · have tf := rv.apart S1 g n o z
        exact (ap tf rfl z.symm).elim
  | slot i =>
    obtain ⟨f, h1, h2⟩ := r
    obtain ⟨f', h3, _⟩ := E.sl i e f h1
    exact ⟨f', h3, h2⟩
theorem RTs.other {G' : Hp} {Hs : Hp} (S1 : Sim pa H0 G0 G σ H s) (k : Sub G G') (nk : ∀ b o, G' b = some o → G b = some o ∨ v = .ref b) (rv : RT pa H0 G σ H s v d t) :
    ∀ {vs : List V} {xs : List (D × Tg)}, (t = .fresh → ∀ p ∈ vs.zip xs, p.2.2 = .fresh → p.1 ≠ v) → RTs pa H0 G σ H s Hs vs xs → RTs pa H0 G' σ H (s.keep t) Hs vs xs
  | [], [], _, _ => trivial
  | w :: vs, x :: xs, ap, h =>
    ⟨RT.other S1 k nk rv (fun z1 z2 => ap z1 (w, x) (by simp) z2) h.1, h.2.1, h.2.2.1, RTs.other S1 k nk rv (fun z p hp => ap z p (List.mem_cons_of_mem _ hp)) h.2.2.2⟩
  | [], _ :: _, _, h => h.elim
  | _ :: _, [], _, h => h.elim
/-- all values are kept for good -/
theorem RTs.keep {Hs Gs : Hp} {ss : S} : ∀ {vs : List V} {xs : List (D × Tg)} {G : Hp} {s : S}, Sim pa H0 G0 G σ H s → Ext pa Gs G Hs H σ ss s → RTs pa H0 G σ H s Hs vs xs →
    ∃ G', Sim pa H0 G0 G' σ H (s.keeps (xs.map (·.2))) ∧ Ext pa Gs G' Hs H σ ss (s.keeps (xs.map (·.2))) ∧ Sub G G' ∧ Rps pa G' vs (xs.map (·.1))
  | [], [], G, s, S1, E, _ => ⟨G, S1, E, .refl, .nil⟩
  | v :: vs, x :: xs, G, s, S1, E, h => by
    obtain ⟨r, nw, ap, rs⟩ := h
    obtain ⟨G1, S2, E2, k1, nk, rp⟩ := r.keep S1 E nw
    obtain ⟨G2, S3, E3, k2, rps⟩ := RTs.keep S2 E2 (rs.other S1 k1 nk r ap)
    exact ⟨G2, S3, E3, k1.trans k2, .cons (rp.mono k2) rps⟩
  | [], _ :: _, _, _, _, _, h => h.elim
  | _ :: _, [], _, _, _, _, h => h.elim

/-- behind a call -/
theorem Sim.call {p : Option Pn} (S1 : Sim pa H0 G0 G σ H s) (kept : ∀ a o, H a = some o → ¬ pen1 pa a → H2 a = some o) (k : Sub G G2) (u : Sub G2 H2) (nw : ∀ a o, G2 a = some o → G a = some o ∨ H a = none) (hp : PenAt pa G2 H2 p) :
    Sim pa H0 G0 G2 σ H2 { s with pn := p } ∧ Ext pa G G2 H H2 σ s { s with pn := p } := by
  refine ⟨⟨S1.len, u, S1.base.trans k, fun a o h => ?_, fun a o h n => kept a o (S1.kee a o h n) n, hp, fun i d h => ?_, fun i d h => ?_, S1.dis⟩, ⟨kept, k, fun a o h => ?_, rfl, fun _ h => h, fun _ _ f h => ⟨f, h, fun z => z⟩⟩⟩
  · rcases nw a o h with z | z
    · exact S1.new a o z
    · exact .inr (S1.none0 z).1
  · obtain ⟨v, e1, e2⟩ := S1.fz i d h
    exact ⟨v, e1, e2.mono k⟩
  · obtain ⟨a, xs, ds, e1, e2, e3, e4, e5, e6, e7⟩ := S1.ow i d h
    refine ⟨a, xs, ds, e1, e2, kept _ _ e3 e7, e4.mono k, ?_, e6, e7⟩
    cases q : G2 a with
    | none => rfl
    | some o =>
      rcases nw a o q with z | z
      · rw [e5] at z; cases z
      · rw [e3] at z; cases z
  · rcases nw a o h with z | z
    · exact .inl z
    · exact .inr (.inl z)
theorem PenAt.back {p q : Option Pn} (h2 : PenAt pa G2 H2 q) (h1 : PenAt pa G1 H1 p) (k : Sub G1 G2) : PenAt pa G1 H2 q := by
  cases pa with
  | none => cases q with
    | none => trivial
    | some q => exact h2.elim
  | some x =>
    obtain ⟨a, c⟩ := x
    cases q with
    | none => exact h2.elim
    | some q =>
      cases p with
      | none => exact h1.elim
      | some p =>
        refine ⟨h2.1, h2.2.1, ?_, h1.2.2.2⟩
        have e1 := h1.2.2.1
        have e2 := k _ _ e1
        rw [h2.2.2.1] at e2
        rw [e1, e2]
theorem Rp.scal_mono (z : scal d = true) (r : Rp pa G v d) : Rp pa G1 v d := by
  cases r with
  | non => exact .non
  | bl b => exact .bl b
  | int i => exact .int i
  | str x => exact .str x
  | lst h r => cases z
  | tup h r => cases z
  | pen h => cases z
  | exc h => cases z
theorem Sub.keptPen (S1 : Sim pa H0 G0 G σ H s) (kept : ∀ a o, H a = some o → ¬ pen1 pa a → H2 a = some o) : Sub G H2 := fun a o h => by
  refine kept a o (S1.sub a o h) fun n => ?_
  rw [S1.pen.free n] at h; cases h
end

/-- a def does what F says -/
def spF (F : Fn) (n : Nat) : GSp := fun vs H Q => ∃ pa G ds p d fr p1, ds.length = n ∧ Sub G H ∧ PenAt pa G H p ∧ Rps pa G vs ds ∧ F ds p = some ((d, fr), p1) ∧
  ∀ v H1 G1, (∀ a o, H a = some o → ¬ pen1 pa a → H1 a = some o) → Sub G G1 → Sub G1 H1 → (∀ a o, G1 a = some o → G a = some o ∨ H a = none) → PenAt pa G1 H1 p1 →
    (if fr = true then ∃ a xs es, v = .ref a ∧ d = .list es ∧ H a = none ∧ H1 a = some (.lst xs) ∧ Rps pa G1 xs es ∧ G1 a = none else Rp pa G1 v d) → Q v H1
/-- the drawing of an item -/
def spOne : GSp := fun vs H Q => ∃ pa G v w x y p d p1, vs = [v, w] ∧ Sub G H ∧ PenAt pa G H p ∧ RpT pa G H v x ∧ RpT pa G H w y ∧ (∀ b, w = .ref b → ¬ pen1 pa b) ∧ oneF x y p = some (d, p1) ∧
  ∀ u H1, (∀ a o, H a = some o → ¬ pen1 pa a → H1 a = some o) → PenAt pa G H1 p1 → Rp pa G u d → Q u H1
structure Call1 (W : Wd) (k : Nat) (x : Str) (n : Nat) (sp : GSp) : Prop where
  of : ∃ f fd ps, GFn W k f fd ps sp ∧ W.mg x = some (.ref f) ∧ PySem.W.keepIn W.K (.ref f) = true ∧ L2.Binds W.K fd ps []
/-- a table of the module -/
def TabR (P : Params) : List DictEntry → List (Str × Int) → Prop
  | [], [] => True
  | e :: r, (k, v) :: l => (∃ t, e.key = .str k t) ∧ e.hash = PyData.keyHash P k ∧ (∃ t, e.val = .int v t) ∧ TabR P r l
  | _, _ => False
theorem TabR.lit {P : Params} : ∀ {es : List DictEntry} {tb : List (Str × Int)}, TabR P es tb → PySem.W.KeysLit P es
  | [], _, _ => trivial
  | _ :: _, (_, _) :: _, ⟨⟨t, h⟩, hh, _, r⟩ => ⟨⟨_, t, h, hh⟩, r.lit⟩
theorem TabR.ref {P : Params} : ∀ {es : List DictEntry} {tb : List (Str × Int)}, TabR P es tb → es.any (·.refKey) = false
  | [], _, _ => rfl
  | e :: _, (_, _) :: _, ⟨⟨t, h⟩, _, _, r⟩ => by
    rw [List.any_cons, r.ref]
    unfold DictEntry.refKey
    rw [h]; rfl
/-- what stands at a key -/
def TabV (r : Option Value) (v : Option Int) : Prop := match r, v with
  | none, none => True
  | some u, some n => ∃ t, u = .int n t
  | _, _ => False
theorem TabR.find {P : Params} (z : Str) : ∀ {es : List DictEntry} {tb : List (Str × Int)}, TabR P es tb → TabV ((es.find? (·.key.isStr z)).map (·.val)) (tbl tb z)
  | [], [], _ => trivial
  | e :: r, (k, v) :: l, ⟨⟨t, h⟩, _, ⟨t2, h2⟩, hr⟩ => by
    rw [List.find?_cons, tbl]
    have e1 : e.key.isStr z = (k == z) := by rw [h]; rfl
    rw [e1]
    by_cases q : k = z
    · rw [if_pos q, beq_iff_eq.mpr q]
      exact ⟨t2, h2⟩
    · rw [if_neg q]
      have q2 : (k == z) = false := by
        cases y : k == z with
        | false => rfl
        | true => exact absurd (beq_iff_eq.mp y) q
      rw [q2]
      exact hr.find z
structure TabAt (W : Wd) (x : Str) (tb : List (Str × Int)) : Prop where
  of : ∃ d es n, W.mg x = some (.ref d) ∧ L2.KDict W.K W.w d es n ∧ TabR W.w.params es.toList tb
theorem TabR.ns {K : PySem.W.Frag} {w : World} {d : Addr} {es : Array DictEntry} {n : Nat} {tb : List (Str × Int)} (D : L2.KDict K w d es n) (h : TabR w.params es.toList tb) (z : Str) :
    ∃ r, PySem.W.nsIn K d z = some r ∧ TabV r (tbl tb z) := by
  have f := h.find z
  unfold PySem.W.nsIn
  rw [D.at_]
  dsimp only
  cases q : es.toList.find? (·.key.isStr z) with
  | some e => rw [q] at f; exact ⟨_, rfl, f⟩
  | none =>
    rw [q] at f
    rw [h.ref]
    exact ⟨none, rfl, f⟩
def askOf (W : Wd) (k : Nat) : Ask where
  glob x d := ∃ v u, W.mg x = some u ∧ RelV v u ∧ Rp none (fun _ => none) v d
  call x F n := Call1 W k x n (spF F n)
  one x := Call1 W k x 2 spOne
  isx x adr names sub := ∃ v cv, (W.mg x = some cv ∨ (W.mg x = none ∧ bootBuiltins x = some cv ∧ x ≠ "__name__")) ∧ RelV v cv ∧ (∀ u, RelV v u → u = cv) ∧
    ∀ c, c ∈ names → L2.ExcC W.K (adr c) ∧ PySem.W.kitOne W.K (.ref (adr c)) cv = some (sub c)
  tab x tb := TabAt W x tb

def bnames : List Str := ["len", "all", "any", "sum", "max", "min", "tuple", "list", "repr", "int", "sorted", "set", "range", "enumerate", "zip", "isinstance", "bool", "str"]
/-- the context of a text -/
structure Cd (X : Cx) (N : List Str) (sc : Scope) (k : Nat) : Prop where
  hN : X.N = N
  nd : N.Nodup
  hs : X.env.scope = sc
  calm : X.calm = true
  room : Room k X.A
  gd : X.A.guards = some []
  bl : ∀ x, x ∈ bnames → X.mg x = none
theorem Cd.un {X : Cx} {N : List Str} {sc : Scope} {k : Nat} (C : Cd X N sc k) : X.A.units + 65 < cLine := by have := C.room.un; omega

abbrev Ev := S → Option ((D × Tg) × S)
def tV (f : Ev) : TE := fun σ H Q => ∃ pa H0 G0 G s d t s1, Sim pa H0 G0 G σ H s ∧ f s = some ((d, t), s1) ∧
  ∀ v H1 G1, Sim pa H0 G0 G1 σ H1 s1 → Ext pa G G1 H H1 σ s s1 → RT pa H0 G1 σ H1 s1 v d t → NewT H v t → Q v H1
abbrev tI (e : IE) : TE := tV (evalE e)
def tQ (f : S → Option (Bool × S)) : TT := fun σ H Q => ∃ pa H0 G0 G s b s1, Sim pa H0 G0 G σ H s ∧ f s = some (b, s1) ∧ ∀ H1 G1, Sim pa H0 G0 G1 σ H1 s1 → Ext pa G G1 H H1 σ s s1 → Q b H1
def tAs (es : IEs) : TA := fun σ H Q => ∃ pa H0 G0 G s xs s1, Sim pa H0 G0 G σ H s ∧ evalEs es s = some (xs, s1) ∧
  ∀ vs H1 G1, Sim pa H0 G0 G1 σ H1 s1 → Ext pa G G1 H H1 σ s s1 → RTs pa H0 G1 σ H1 s1 H vs xs → Q vs H1
def tOo (o : IO) : TO := fun σ H Q => ∃ pa H0 G0 G s r s1, Sim pa H0 G0 G σ H s ∧ evalO o s = some (r, s1) ∧ ∃ i, optI r = some i ∧ ∀ H1 G1, Sim pa H0 G0 G1 σ H1 s1 → Ext pa G G1 H H1 σ s s1 → Q i H1
theorem PT.imp {X : Cx} {e : Expr} {t t' : TT} (h : PT X e t) (k : ∀ σ H Q, t' σ H Q → t σ H Q) : PT X e t' := ⟨fun pins s σ H Q I q => h.run pins s σ H Q I (k σ H Q q)⟩
theorem PW.imp {X : Cx} {e : Expr} {t t' : TT} (h : PW X e t) (k : ∀ σ H Q, t' σ H Q → t σ H Q) : PW X e t' := ⟨fun wh pins s σ H Q I q => h.run wh pins s σ H Q I (k σ H Q q)⟩
theorem PA.imp {X : Cx} {es : List Expr} {t t' : TA} (h : L2.PA X es t) (k : ∀ σ H Q, t' σ H Q → t σ H Q) : L2.PA X es t' := ⟨fun pos pins s σ H Q I q => h.run pos pins s σ H Q I (k σ H Q q)⟩
theorem PO.imp {X : Cx} {e : Option Expr} {t t' : TO} (h : PO X e t) (k : ∀ σ H Q, t' σ H Q → t σ H Q) : PO X e t' := ⟨fun pins s σ H Q I q => h.run pins s σ H Q I (k σ H Q q)⟩
theorem tQ_tB {f : Ev} {σ : L2.St} {H : Hp} {Q : Bool → Hp → Prop} (h : tQ (fun s => boolD (f s)) σ H Q) : tB (tV f) σ H Q := by
  obtain ⟨pa, H0, G0, G, s, b, s1, S1, e, k⟩ := h
  unfold boolD at e
  obtain ⟨⟨⟨d, t⟩, s2⟩, e1, e2⟩ := Option.bind_eq_some_iff.mp e
  dsimp only at e2
  split at e2
  · rename_i c
    cases e2
    refine ⟨pa, H0, G0, G, s, _, t, _, S1, e1, fun v H1 G1 S2 E2 R2 _ => ⟨b, (R2.top S2).bl, k H1 G1 S2 E2⟩⟩
  · cases e2
end Fs

set_option Elab.async false
set_option linter.all false
set_option maxRecDepth 100000
set_option maxHeartbeats 4000000
namespace Fs
open PySem L2

theorem obind {α β : Type} {o : Option α} {f : α → Option β} {b : β} (h : (o >>= f) = some b) : ∃ a, o = some a ∧ f a = some b := Option.bind_eq_some_iff.mp h

def plX : Expr → Bool
  | .Starred _ _ => false
  | .Slice _ _ _ _ => false
  | .Set _ _ _ => false
  | _ => true
def tsX : Expr → Bool
  | .UnaryOp .Not _ _ => false
  | .BoolOp _ _ _ => false
  | .IfExp _ _ _ _ => false
  | .Compare _ _ _ _ => false
  | _ => true
theorem em_pl (N : List Str) (e : IE) (E : Em) : plX (emE N e E).1 = true := by
  cases e <;> first | rfl | (rename_i f _; cases f <;> rfl) | (rename_i m _ _ _; cases m <;> rfl)
theorem star_pl {e : Expr} {es : List Expr} {env : Env} (h : plX e = true) : starEach (e :: es) env = (false, eval e env) :: starEach es env := by
  cases e <;> first | rfl | cases h
theorem ix_pl {e : Expr} (h : plX e = true) : PlainIx e := by
  cases e <;> first | (intro o i; rfl) | cases h
theorem mark_pl {e : Expr} {op : CmpOp} (h : plX e = true) : behindInMarks op e = false := by
  cases e <;> first | rfl | cases h
theorem fold_pl {e : Expr} {env : Env} (h : plX e = true) : ∀ x, foldedSetIterable e env x = pure x := by
  cases e <;> first | (intro x; rfl) | cases h
theorem true_pl {e : Expr} {env : Env} (h : tsX e = true) : ∀ whole, isTrue e env whole = (do let v ← whole; standAt e.pos; holding [v] (truthy v)) := by
  intro whole
  cases e with
  | UnaryOp op x p => cases op <;> first | rfl | cases h
  | _ => first | rfl | cases h
theorem stars (N : List Str) (env : Env) (pos : Pos) : ∀ (es : IEs) (E : Em), (backTo pos (starEach (emEs N es E).1 env)).any (·.1) = false
  | .nil, _ => rfl
  | .cons e es, E => by
    show (backTo pos (starEach ((emE N e E).1 :: (emEs N es (emE N e E).2).1) env)).any (·.1) = false
    rw [star_pl (em_pl N e E)]
    exact stars N env pos es (emE N e E).2
theorem em_len (N : List Str) : ∀ (es : IEs) (E : Em), (emEs N es E).1.length = es.len
  | .nil, _ => rfl
  | .cons e es, E => by
    show ((emE N e E).1 :: (emEs N es (emE N e E).2).1).length = es.len + 1
    rw [List.length_cons, em_len N es]
theorem ev_len : ∀ (es : IEs) {s s1 : S} {xs : List (D × Tg)}, evalEs es s = some (xs, s1) → xs.length = es.len
  | .nil, s, s1, xs, h => by
    rw [evalEs] at h; cases h; rfl
  | .cons e es, s, s1, xs, h => by
    rw [evalEs] at h
    obtain ⟨⟨x, s2⟩, e1, h⟩ := obind h
    obtain ⟨⟨ys, s3⟩, e2, h⟩ := obind h
    cases h
    rw [List.length_cons, ev_len es e2]; rfl

theorem vis_of {N : List Str} {sc : Scope} {i : Nat} (h : visB N sc i = true) : N[i]? = some (nm N i) ∧ Vis sc (nm N i) ∧ (nm N i == ("__debug__" : Str)) = false ∧ (nm N i == ("__classdict__" : Str)) = false := by
  unfold visB at h
  split at h
  · rename_i x hx
    have e : nm N i = x := by unfold nm; rw [List.getD_eq_getElem?_getD, hx]; rfl
    rw [e]
    simp only [Bool.and_eq_true, Bool.not_eq_true'] at h
    refine ⟨hx, ?_, h.1.2, h.2⟩
    have h1 := h.1.1
    split at h1
    · exact .inl (by assumption)
    · exact .inr (.inl (by assumption))
    · exact .inr (.inr (by assumption))
    · cases h1
  · cases h
theorem loc_of {N : List Str} {sc : Scope} {i : Nat} (h : locB N sc i = true) : N[i]? = some (nm N i) ∧ Loc sc (nm N i) := by
  unfold locB at h
  split at h
  · rename_i x hx
    have e : nm N i = x := by unfold nm; rw [List.getD_eq_getElem?_getD, hx]; rfl
    rw [e]
    refine ⟨hx, ?_⟩
    split at h
    · exact .inl (by assumption)
    · exact .inr (by assumption)
    · cases h
  · cases h
theorem gl_of {X : Cx} {N : List Str} {sc : Scope} {k : Nat} {x : Str} (C : Cd X N sc k) (h : glB sc x = true) : Gl X x ∧ (x == ("__debug__" : Str)) = false := by
  unfold glB at h
  simp only [Bool.and_eq_true, Bool.not_eq_true'] at h
  refine ⟨?_, h.2⟩
  show X.env.scope.names.lookup x = _
  rw [C.hs]
  have h1 := h.1
  split at h1
  · assumption
  · cases h1

section
variable {pa : PA} {H0 G0 G G1 G2 H H1 H2 : Hp} {σ : L2.St} {s s1 s2 : S} {d d1 d2 : D} {t t1 t2 : Tg}
theorem two {f g : Ev} (S0 : Sim pa H0 G0 G σ H s) (e1 : f s = some ((d1, t1), s1)) (e2 : g s1 = some ((d2, t2), s2)) {R : V → V → Hp → Prop}
    (k : ∀ v w H2 G2, Sim pa H0 G0 G2 σ H2 s2 → Ext pa G G2 H H2 σ s s2 → RT pa H0 G2 σ H2 s2 v d1 t1 → NewT H v t1 → RT pa H0 G2 σ H2 s2 w d2 t2 → NewT H w t2 → R v w H2) : tV f σ H fun x H1 => tV g σ H1 fun y H2 => R x y H2 :=
  ⟨pa, H0, G0, G, s, d1, t1, s1, S0, e1, fun v H1 G1 S1 E1 R1 N1 => ⟨pa, H0, G0, G1, s1, d2, t2, s2, S1, e2, fun w H2 G2 S2 E2 R2 N2 =>
    k v w H2 G2 S2 (E1.trans S2 E2) (R1.ext S2 E2) N1 R2 fun z a e => E1.back (N2 z a e) S1⟩⟩
theorem fin {fr : Bool} {Q : VK} (S2 : Sim pa H0 G0 G2 σ H2 s2) (E2 : Ext pa G G2 H H2 σ s s2)
    (k : ∀ v H1 G1, Sim pa H0 G0 G1 σ H1 s2 → Ext pa G G1 H H1 σ s s2 → RT pa H0 G1 σ H1 s2 v d (if fr then .fresh else .fz) → NewT H v (if fr then .fresh else .fz) → Q v H1) : ∀ v H3, Res pa G2 H2 v d fr H3 → Q v H3 := fun v H3 r => by
  obtain ⟨G3, S3, E3, R3, N3⟩ := S2.res r
  exact k v H3 G3 S3 (E2.trans S3 E3) R3 fun z a e => E2.back (N3 z a e) S2
theorem tQ_of {f : S → Option (Bool × S)} {b : Bool} {Q : Bool → Hp → Prop} (S0 : Sim pa H0 G0 G σ H s) (e : f s = some (b, s1)) (k : ∀ H1 G1, Sim pa H0 G0 G1 σ H1 s1 → Ext pa G G1 H H1 σ s s1 → Q b H1) : tQ f σ H Q :=
  ⟨pa, H0, G0, G, s, b, s1, S0, e, k⟩
theorem tV_of {f : Ev} {Q : VK} (S0 : Sim pa H0 G0 G σ H s) (e : f s = some ((d, t), s1)) (k : ∀ v H1 G1, Sim pa H0 G0 G1 σ H1 s1 → Ext pa G G1 H H1 σ s s1 → RT pa H0 G1 σ H1 s1 v d t → NewT H v t → Q v H1) : tV f σ H Q :=
  ⟨pa, H0, G0, G, s, d, t, s1, S0, e, k⟩
end

/-- a text's expressions -/
structure Sd (X : Cx) (N : List Str) (k : Nat) (e : IE) (E : Em) : Prop where
  pe : PE X (emE N e E).1 (tI e)
  pt : PT X (emE N e E).1 (tQ fun s => boolD (evalE e s))
theorem Sd.val {X : Cx} {N : List Str} {k : Nat} {e : IE} {E : Em} (h : PE X (emE N e E).1 (tI e)) (z : tsX (emE N e E).1 = true) : Sd X N k e E :=
  ⟨h, PT.imp (pt_val h (true_pl z)) fun σ H Q q => tQ_tB q⟩
structure Sd2 (X : Cx) (op : BoolOp) (es : List Expr) (f : Ev) : Prop where
  pe : ∀ pos, PE X (.BoolOp op es pos) (tV f)
  pw : ∀ pos, PW X (.BoolOp op es pos) (tQ fun s => boolD (f s))
end Fs

set_option Elab.async false
set_option linter.all false
set_option maxRecDepth 100000
set_option maxHeartbeats 4000000
namespace Fs
open PySem L2

theorem put_len (s : S) (i : Nat) (x : D × Bool) : (s.put i x).sl.length = s.sl.length := by simp [S.put]
theorem put_at {s : S} {i : Nat} {x : D × Bool} (h : i < s.sl.length) : (s.put i x).sl[i]? = some (some x) := by
  show (s.sl.set i (some x))[i]? = _
  rw [List.getElem?_set_self h]
theorem put_ne {s : S} {i j : Nat} {x : D × Bool} (h : i ≠ j) : (s.put i x).sl[j]? = s.sl[j]? := by
  show (s.sl.set i (some x))[j]? = _
  rw [List.getElem?_set_ne h]
theorem set_at {σ : L2.St} {i : Nat} {v : Option V} (h : i < σ.length) : (σ.set i v)[i]? = some v := List.getElem?_set_self h
theorem set_ne {σ : L2.St} {i j : Nat} {v : Option V} (h : i ≠ j) : (σ.set i v)[j]? = σ[j]? := List.getElem?_set_ne h

theorem wipe_len (s : S) : ∀ vs : List Nat, (s.wipe vs).sl.length = s.sl.length
  | [] => rfl
  | i :: is => by
    show ((s.wipe is).sl.set i none).length = _
    rw [List.length_set, wipe_len s is]
theorem wipe_pn (s : S) : ∀ vs : List Nat, (s.wipe vs).pn = s.pn
  | [] => rfl
  | i :: is => wipe_pn s is
theorem wipe_not {s : S} {j : Nat} : ∀ {vs : List Nat}, j ∉ vs → (s.wipe vs).sl[j]? = s.sl[j]?
  | [], _ => rfl
  | i :: is, h => by
    show ((s.wipe is).sl.set i none)[j]? = _
    rw [List.getElem?_set_ne (fun z => h (by simp [z]))]
    exact wipe_not fun z => h (List.mem_cons_of_mem _ z)
theorem wipe_mem {s : S} {j : Nat} {p : D × Bool} : ∀ {vs : List Nat}, j ∈ vs → (s.wipe vs).sl[j]? ≠ some (some p)
  | i :: is, h, e => by
    have e : ((s.wipe is).sl.set i none)[j]? = some (some p) := e
    by_cases z : i = j
    · subst z
      by_cases l : i < (s.wipe is).sl.length
      · rw [List.getElem?_set_self l] at e; cases e
      · rw [List.getElem?_eq_none (by simpa using l)] at e; cases e
    · rw [List.getElem?_set_ne z] at e
      rcases List.mem_cons.mp h with q | q
      · exact z q.symm
      · exact wipe_mem q e
theorem wipe_mem2 {s : S} {j : Nat} : ∀ {vs : List Nat}, j ∈ vs → j < s.sl.length → (s.wipe vs).sl[j]? = some none
  | i :: is, h, l => by
    show ((s.wipe is).sl.set i none)[j]? = _
    by_cases z : i = j
    · subst z
      rw [List.getElem?_set_self (by rw [wipe_len]; exact l)]
    · rw [List.getElem?_set_ne z]
      rcases List.mem_cons.mp h with q | q
      · exact absurd q.symm z
      · exact wipe_mem2 q l
theorem wipeV_not {σ : L2.St} {j : Nat} : ∀ {vs : List Nat}, j ∉ vs → (L2.wipe σ vs)[j]? = σ[j]?
  | [], _ => rfl
  | i :: is, h => by
    show ((L2.wipe σ is).set i none)[j]? = _
    rw [List.getElem?_set_ne (fun z => h (by simp [z]))]
    exact wipeV_not fun z => h (List.mem_cons_of_mem _ z)
theorem wipeV_mem {σ : L2.St} {j : Nat} : ∀ {vs : List Nat}, j ∈ vs → j < σ.length → (L2.wipe σ vs)[j]? = some none
  | i :: is, h, l => by
    show ((L2.wipe σ is).set i none)[j]? = _
    by_cases z : i = j
    · subst z
      rw [List.getElem?_set_self (by rw [L2.wipe_length]; exact l)]
    · rw [List.getElem?_set_ne z]
      rcases List.mem_cons.mp h with q | q
      · exact absurd q.symm z
      · exact wipeV_mem q l
theorem wipeV_eq {σ σ2 : L2.St} {vs : List Nat} (l : σ2.length = σ.length) (h : ∀ j, j ∉ vs → σ2[j]? = σ[j]?) : L2.wipe σ2 vs = L2.wipe σ vs := by
  apply List.ext_getElem?
  intro j
  by_cases z : j ∈ vs
  · by_cases q : j < σ.length
    · rw [wipeV_mem z (by omega), wipeV_mem z q]
    · rw [List.getElem?_eq_none (by rw [L2.wipe_length]; omega), List.getElem?_eq_none (by rw [L2.wipe_length]; omega)]
  · rw [wipeV_not z, wipeV_not z, h j z]
theorem rest_len (s o : S) : ∀ vs : List Nat, (s.restore o vs).sl.length = s.sl.length
  | [] => rfl
  | i :: is => by
    show ((s.restore o is).sl.set i _).length = _
    rw [List.length_set, rest_len s o is]
theorem rest_pn (s o : S) : ∀ vs : List Nat, (s.restore o vs).pn = s.pn
  | [] => rfl
  | i :: is => rest_pn s o is
theorem rest_not {s o : S} {j : Nat} : ∀ {vs : List Nat}, j ∉ vs → (s.restore o vs).sl[j]? = s.sl[j]?
  | [], _ => rfl
  | i :: is, h => by
    show ((s.restore o is).sl.set i _)[j]? = _
    rw [List.getElem?_set_ne (fun z => h (by simp [z]))]
    exact rest_not fun z => h (List.mem_cons_of_mem _ z)
theorem rest_mem {s o : S} {j : Nat} : ∀ {vs : List Nat}, j ∈ vs → s.sl.length = o.sl.length → (s.restore o vs).sl[j]? = o.sl[j]?
  | i :: is, h, l => by
    show ((s.restore o is).sl.set i ((o.sl[i]?).bind id))[j]? = _
    by_cases z : i = j
    · subst z
      by_cases q : i < o.sl.length
      · rw [List.getElem?_set_self (by rw [rest_len, l]; exact q), List.getElem?_eq_getElem q]; rfl
      · rw [List.getElem?_eq_none (by simp only [List.length_set, rest_len, l]; omega), List.getElem?_eq_none (by omega)]
    · rw [List.getElem?_set_ne z]
      rcases List.mem_cons.mp h with q | q
      · exact absurd q.symm z
      · exact rest_mem q l
theorem unown_of {s : S} {vs : List Nat} (h : s.unowned vs = true) {j : Nat} (hj : j ∈ vs) {d : D} : s.sl[j]? ≠ some (some (d, true)) := fun e => by
  have q := List.all_eq_true.mp h j hj
  have : rd s j = some (d, true) := by unfold rd; rw [e]; rfl
  rw [this] at q; cases q

section
variable {pa : PA} {H0 G0 G G1 G2 H H1 H2 : Hp} {σ σ2 : L2.St} {s s1 s2 : S} {v : V} {d : D}
/-- a kept value is stored -/
theorem Sim.put (S1 : Sim pa H0 G0 G σ H s) {i : Nat} (hi : i < s.sl.length) (r : Rp pa G v d) : Sim pa H0 G0 G (σ.set i (some v)) H (s.put i (d, false)) := by
  have hσ : i < σ.length := by rw [S1.len]; exact hi
  refine ⟨by rw [List.length_set, put_len]; exact S1.len, S1.sub, S1.base, S1.new, S1.kee, S1.pen, fun j e h => ?_, fun j e h => ?_, fun j k e e' a h h' g g' => ?_⟩
  · by_cases z : i = j
    · subst z
      rw [put_at hi] at h; cases h
      exact ⟨v, set_at hσ, r⟩
    · rw [put_ne z] at h; rw [set_ne z]; exact S1.fz j e h
  · by_cases z : i = j
    · subst z; rw [put_at hi] at h; cases h
    · rw [put_ne z] at h; rw [set_ne z]; exact S1.ow j e h
  · by_cases z : i = j
    · subst z; rw [put_at hi] at h; cases h
    · by_cases z' : i = k
      · subst z'; rw [put_at hi] at h'; cases h'
      · rw [put_ne z] at h; rw [put_ne z'] at h'; rw [set_ne z] at g; rw [set_ne z'] at g'; exact S1.dis j k e e' a h h' g g'
/-- a list of our own is stored -/
theorem Sim.putOwn (S1 : Sim pa H0 G0 G σ H s) {i : Nat} (hi : i < s.sl.length) {a : Addr} {xs : List V} {ds : List D} (h : H a = some (.lst xs)) (r : Rps pa G xs ds) (g : G a = none) (h0 : H0 a = none) (n : ¬ pen1 pa a)
    (o : ∀ (j : Nat) (e : D), j ≠ i → s.sl[j]? = some (some (e, true)) → σ[j]? ≠ some (some (V.ref a))) : Sim pa H0 G0 G (σ.set i (some (.ref a))) H (s.put i (.list ds, true)) := by
  have hσ : i < σ.length := by rw [S1.len]; exact hi
  refine ⟨by rw [List.length_set, put_len]; exact S1.len, S1.sub, S1.base, S1.new, S1.kee, S1.pen, fun j e h => ?_, fun j e q => ?_, fun j k e e' b q q' p p' => ?_⟩
  · by_cases z : i = j
    · subst z; rw [put_at hi] at h; cases h
    · rw [put_ne z] at h; rw [set_ne z]; exact S1.fz j e h
  · by_cases z : i = j
    · subst z
      rw [put_at hi] at q; cases q
      exact ⟨a, xs, ds, set_at hσ, rfl, h, r, g, h0, n⟩
    · rw [put_ne z] at q; rw [set_ne z]; exact S1.ow j e q
  · by_cases z : i = j
    · by_cases z' : i = k
      · rw [← z, ← z']
      · subst z
        rw [set_at hσ] at p; cases p
        rw [put_ne z'] at q'; rw [set_ne z'] at p'
        exact absurd p' (o k e' (Ne.symm z') q')
    · by_cases z' : i = k
      · subst z'
        rw [set_at hσ] at p'; cases p'
        rw [put_ne z] at q; rw [set_ne z] at p
        exact absurd p (o j e (Ne.symm z) q)
      · rw [put_ne z] at q; rw [put_ne z'] at q'; rw [set_ne z] at p; rw [set_ne z'] at p'; exact S1.dis j k e e' b q q' p p'
/-- an object that is no one's is written -/
theorem Sim.write (S1 : Sim pa H0 G0 G σ H s) {a : Addr} {o : HO} (g : G a = none) (h0 : H0 a = none) (n : ¬ pen1 pa a) (no : ¬ OwnAt σ s a) : Sim pa H0 G0 G σ (upd H a o) s := by
  refine ⟨S1.len, fun b u h => ?_, S1.base, S1.new, fun b u h m => ?_, ?_, S1.fz, fun i d h => ?_, S1.dis⟩
  · rw [upd_ne]
    · exact S1.sub b u h
    · rintro rfl; rw [g] at h; cases h
  · rw [upd_ne]
    · exact S1.kee b u h m
    · rintro rfl; rw [h0] at h; cases h
  · have p := S1.pen
    cases pa with
    | none =>
      cases q : s.pn with
      | none => trivial
      | some y => rw [q] at p; exact p.elim
    | some x =>
      obtain ⟨b, c⟩ := x
      cases q : s.pn with
      | none => rw [q] at p; exact p.elim
      | some y =>
        rw [q] at p
        refine ⟨p.1, ?_, p.2.2⟩
        rw [upd_ne]
        · exact p.2.1
        · rintro rfl; exact n ⟨c, rfl⟩
  · obtain ⟨b, xs, ds, e1, e2, e3, e4⟩ := S1.ow i d h
    refine ⟨b, xs, ds, e1, e2, ?_, e4⟩
    rw [upd_ne]
    · exact e3
    · rintro rfl; exact no ⟨i, d, h, e1⟩
/-- slots are forgotten -/
theorem Sim.wipe (S1 : Sim pa H0 G0 G σ H s) (vs : List Nat) : Sim pa H0 G0 G (L2.wipe σ vs) H (s.wipe vs) := by
  have nm : ∀ {j : Nat} {p : D × Bool}, (s.wipe vs).sl[j]? = some (some p) → j ∉ vs := fun h m => wipe_mem m h
  refine ⟨by rw [L2.wipe_length, wipe_len]; exact S1.len, S1.sub, S1.base, S1.new, S1.kee, by rw [wipe_pn]; exact S1.pen, fun j e h => ?_, fun j e h => ?_, fun j k e e' a h h' g g' => ?_⟩
  · have m := nm h
    rw [wipe_not m] at h; rw [wipeV_not m]; exact S1.fz j e h
  · have m := nm h
    rw [wipe_not m] at h; rw [wipeV_not m]; exact S1.ow j e h
  · have m := nm h
    have m' := nm h'
    rw [wipe_not m] at h; rw [wipe_not m'] at h'; rw [wipeV_not m] at g; rw [wipeV_not m'] at g'; exact S1.dis j k e e' a h h' g g'
/-- a turn of a comprehension, told without its own slots -/
theorem Ext.scope {vs : List Nat} (ln : s1.sl.length = s.sl.length) (out : ∀ j, j ∉ vs → s1.sl[j]? = s.sl[j]? ∧ σ2[j]? = σ[j]?) (inn : ∀ j, j ∈ vs → ∀ d, s1.sl[j]? ≠ some (some (d, true))) (was : ∀ j, j ∈ vs → ∀ p, s.sl[j]? ≠ some (some p))
    (E : Ext pa G G1 H H1 σ2 s1 s2) : Ext pa G G1 H H1 σ s (s2.wipe vs) where
  hk := E.hk
  gk := E.gk
  gn := fun a o h => by
    rcases E.gn a o h with z | z | ⟨j, d, e1, e2⟩
    · exact .inl z
    · exact .inr (.inl z)
    · by_cases m : j ∈ vs
      · exact absurd e1 (inn j m d)
      · obtain ⟨o1, o2⟩ := out j m
        exact .inr (.inr ⟨j, d, by rw [← o1]; exact e1, by rw [← o2]; exact e2⟩)
  ln := by rw [wipe_len, E.ln, ln]
  sn := fun j h => by
    by_cases m : j ∈ vs
    · have l : j < s.sl.length := by
        rcases Nat.lt_or_ge j s.sl.length with q | q
        · exact q
        · rw [List.getElem?_eq_none q] at h; cases h
      exact wipe_mem2 m (by rw [E.ln, ln]; exact l)
    · rw [wipe_not m]; exact E.sn j (by rw [(out j m).1]; exact h)
  sl := fun j d f h => by
    by_cases m : j ∈ vs
    · exact absurd h (was j m _)
    · rw [wipe_not m]; exact E.sl j d f (by rw [(out j m).1]; exact h)
/-- behind a comprehension: its own slots are what they were -/
theorem Sim.restore {vs : List Nat} (S0 : Sim pa H0 G0 G σ H s) (un : s.unowned vs = true) (E : Ext pa G G1 H H1 (L2.wipe σ vs) (s.wipe vs) s1) (S1 : Sim pa H0 G0 G1 (L2.wipe σ vs) H1 s1) :
    Sim pa H0 G0 G1 σ H1 (s1.restore s vs) ∧ Ext pa G G1 H H1 σ s (s1.restore s vs) := by
  have ln : s1.sl.length = s.sl.length := by rw [E.ln, wipe_len]
  have at_in : ∀ {j}, j ∈ vs → (s1.restore s vs).sl[j]? = s.sl[j]? := fun m => rest_mem m ln
  have at_out : ∀ {j}, j ∉ vs → (s1.restore s vs).sl[j]? = s1.sl[j]? := fun m => rest_not m
  have own_out : ∀ {j : Nat} {d : D}, (s1.restore s vs).sl[j]? = some (some (d, true)) → j ∉ vs := fun {j d} h m => by
    rw [at_in m] at h
    exact unown_of un m h
  refine ⟨⟨by rw [rest_len, ln]; exact S0.len, S1.sub, S1.base, S1.new, S1.kee, by rw [rest_pn]; exact S1.pen, fun j e h => ?_, fun j e h => ?_, fun j k e e' a h h' g g' => ?_⟩, ⟨E.hk, E.gk, fun a o h => ?_, by rw [rest_len, ln], fun j h => ?_, fun j e f h => ?_⟩⟩
  · by_cases m : j ∈ vs
    · rw [at_in m] at h
      obtain ⟨v, e1, e2⟩ := S0.fz j e h
      exact ⟨v, e1, e2.mono E.gk⟩
    · rw [at_out m] at h
      obtain ⟨v, e1, e2⟩ := S1.fz j e h
      rw [wipeV_not m] at e1
      exact ⟨v, e1, e2⟩
  · have m := own_out h
    rw [at_out m] at h
    have q := S1.ow j e h
    rw [wipeV_not m] at q
    exact q
  · have m := own_out h
    have m' := own_out h'
    rw [at_out m] at h; rw [at_out m'] at h'
    exact S1.dis j k e e' a h h' (by rw [wipeV_not m]; exact g) (by rw [wipeV_not m']; exact g')
  · rcases E.gn a o h with z | z | ⟨j, d, e1, e2⟩
    · exact .inl z
    · exact .inr (.inl z)
    · have m : j ∉ vs := fun m => wipe_mem m e1
      rw [wipe_not m] at e1
      rw [wipeV_not m] at e2
      exact .inr (.inr ⟨j, d, e1, e2⟩)
  · by_cases m : j ∈ vs
    · rw [at_in m]; exact h
    · rw [at_out m]; exact E.sn j (by rw [wipe_not m]; exact h)
  · by_cases m : j ∈ vs
    · rw [at_in m]; exact ⟨f, h, fun z => z⟩
    · rw [at_out m]; exact E.sl j e f (by rw [wipe_not m]; exact h)
end

def gNames : List Nat → TGs
  | [] => gNil
  | i :: is => gCons (gName i) (gNames is)
def tTr (K : PySem.W.Frag) : Tr → TG
  | .v i => gName i
  | .t is => gTup K is.length (gNames is)
theorem asg_names (N : List Str) (env : Env) : ∀ (is : List Nat) (E : Em), (assignEach (emNames N is E).1 env).length = is.length ∧ (assignEach (emNames N is E).1 env).findIdx? (·.1) = none
  | [], _ => ⟨rfl, rfl⟩
  | i :: is, E => by
    obtain ⟨h1, h2⟩ := asg_names N env is E.np
    constructor
    · show (assignEach (.Name (nm N i) E.p :: (emNames N is E.np).1) env).length = _
      show (_ :: assignEach (emNames N is E.np).1 env).length = _
      rw [List.length_cons, List.length_cons, h1]
    · show (_ :: assignEach (emNames N is E.np).1 env).findIdx? _ = _
      rw [List.findIdx?_cons]
      show (if false = true then _ else _) = _
      rw [h2]; rfl
theorem pgs_names {X : Cx} (hN : X.N.Nodup) : ∀ (is : List Nat) (E : Em), (∀ i ∈ is, X.N[i]? = some (nm X.N i) ∧ Loc X.env.scope (nm X.N i) ∧ (X.fn (nm X.N i) = true ∨ X.env.scope.names.lookup (nm X.N i) = some .local)) → PGs X (emNames X.N is E).1 (gNames is)
  | [], _, _ => pgs_nil
  | i :: is, E, h => by
    obtain ⟨h1, h2, h3⟩ := h i (by simp)
    exact pgs_cons (pg_name hN h1 h2 h3) (pgs_names hN is E.np fun j hj => h j (List.mem_cons_of_mem _ hj))
theorem pg_tr {X : Cx} (hN : X.N.Nodup) (hc : X.calm = true) (tg : Tr) (E : Em) (h : ∀ i ∈ tg.slots, X.N[i]? = some (nm X.N i) ∧ Loc X.env.scope (nm X.N i) ∧ (X.fn (nm X.N i) = true ∨ X.env.scope.names.lookup (nm X.N i) = some .local)) : PG X (emTr X.N tg E).1 (tTr X.K tg) := by
  cases tg with
  | v i =>
    obtain ⟨h1, h2, h3⟩ := h i (by simp [Tr.slots])
    exact pg_name hN h1 h2 h3
  | t is =>
    obtain ⟨a1, a2⟩ := asg_names X.N X.env is E.np
    exact pg_tup hc (pgs_names hN is E.np h) a1 a2

section
variable {pa : PA} {H0 G0 G H : Hp} {σ : L2.St} {s s1 : S} {v : V} {d : D}
def putsF (s : S) (l : List (Nat × D)) : S := l.foldl (fun s p => s.put p.1 (p.2, false)) s
theorem bind_names : ∀ (is : List Nat) {vs : List V} {ds : List D} {σ : L2.St} {s : S}, Sim pa H0 G0 G σ H s → is.length = ds.length → (is.all fun i => decide (i < s.sl.length)) = true → Rps pa G vs ds → ∀ {Q : L2.St → Hp → Prop},
    (∀ σ2, Sim pa H0 G0 G σ2 H (putsF s (is.zip ds)) → σ2.length = σ.length → (∀ j, j ∉ is → σ2[j]? = σ[j]? ∧ (putsF s (is.zip ds)).sl[j]? = s.sl[j]?) → (∀ j, j ∈ is → ∀ d, (putsF s (is.zip ds)).sl[j]? ≠ some (some (d, true))) → (putsF s (is.zip ds)).sl.length = s.sl.length → Q σ2 H) → gNames is vs σ H Q
  | [], [], [], σ, s, S0, _, _, _, Q, k => ⟨rfl, k σ S0 rfl (fun j _ => ⟨rfl, rfl⟩) (fun j h => by simp at h) rfl⟩
  | i :: is, v :: vs, d :: ds, σ, s, S0, l, hb, r, Q, k => by
    cases r with
    | cons r rs =>
      simp only [List.all_cons, Bool.and_eq_true, decide_eq_true_eq] at hb
      refine ⟨v, vs, rfl, ?_⟩
      have S1 := S0.put hb.1 r
      refine bind_names is S1 (by simpa using l) ?_ rs fun σ2 S2 l2 o2 n2 ln2 => ?_
      · rw [put_len]; exact hb.2
      · refine k σ2 S2 (by rw [l2, List.length_set]) (fun j hj => ?_) (fun j hj e => ?_) (ln2.trans (put_len ..))
        · have hj1 : i ≠ j := fun z => hj (by simp [z])
          have hj2 : j ∉ is := fun z => hj (List.mem_cons_of_mem _ z)
          obtain ⟨o3, o4⟩ := o2 j hj2
          exact ⟨by rw [o3, set_ne hj1], o4.trans (put_ne hj1)⟩
        · by_cases z : j ∈ is
          · exact n2 j z e
          · have e2 := (o2 j z).2
            have z2 : j = i := by
              rcases List.mem_cons.mp hj with q | q
              · exact q
              · exact absurd q z
            subst z2
            rw [put_at hb.1] at e2
            intro q
            have q2 : (putsF (s.put j (d, false)) (is.zip ds)).sl[j]? = some (some (e, true)) := q
            rw [e2] at q2; cases q2
  | [], _ :: _, [], _, _, _, _, _, r, _, _ => by cases r
  | [], _ :: _, _ :: _, _, _, _, l, _, _, _, _ => by simp at l
  | _ :: _, [], _, _, _, _, l, _, r, _, _ => by cases r; simp at l
  | [], [], _ :: _, _, _, _, l, _, _, _, _ => by simp at l
  | _ :: _, _ :: _, [], _, _, _, l, _, _, _, _ => by simp at l
/-- a value (kept) is bound -/
theorem bind_ok (K : PySem.W.Frag) {tg : Tr} (S0 : Sim pa H0 G0 G σ H s) (r : Rp pa G v d) (e : s.bindT tg d = some s1) {Q : L2.St → Hp → Prop}
    (k : ∀ σ2, Sim pa H0 G0 G σ2 H s1 → σ2.length = σ.length → (∀ j, j ∉ tg.slots → σ2[j]? = σ[j]? ∧ s1.sl[j]? = s.sl[j]?) → (∀ j, j ∈ tg.slots → ∀ d, s1.sl[j]? ≠ some (some (d, true))) → s1.sl.length = s.sl.length → Q σ2 H) : tTr K tg v σ H Q := by
  cases tg with
  | v i =>
    simp only [S.bindT] at e
    split at e
    · rename_i hi
      cases e
      refine k _ (S0.put hi r) (by rw [List.length_set]) (fun j hj => ?_) (fun j hj d' q => ?_) (put_len ..)
      · have : i ≠ j := fun z => hj (by simp [Tr.slots, z])
        exact ⟨set_ne this, put_ne this⟩
      · obtain rfl : j = i := by simpa [Tr.slots] using hj
        rw [put_at hi] at q; cases q
    · cases e
  | t is =>
    cases d with
    | tuple ds =>
      simp only [S.bindT] at e
      split at e
      · rename_i hi
        cases e
        obtain ⟨hl, hb⟩ := hi
        cases r with
        | tup h rs =>
          rename_i a xs
          exact ⟨a, xs, rfl, (h.up S0.sub).sq, by rw [rs.len, hl], bind_names is S0 hl hb rs k⟩
      · cases e
    | _ => simp only [S.bindT] at e; cases e
end
end Fs

set_option Elab.async false
set_option linter.all false
set_option maxRecDepth 100000
set_option maxHeartbeats 4000000
namespace Fs
open PySem L2

/-- an item: a value, or a new pair that is taken apart at once -/
def ResI (b : Bool) (pa : PA) (G H : Hp) (v : V) (d : D) (H1 : Hp) : Prop := Res pa G H v d false H1 ∨ (b = true ∧ Sub H H1 ∧ ∃ a xs ds, v = .ref a ∧ d = .tuple ds ∧ H1 a = some (.tup xs) ∧ Rps pa G xs ds)
/-- the iterator gives these items -/
def SrOk (b : Bool) (pa : PA) (G H1 : Hp) (items : List D) (J : It) : Prop := ∃ (Gd : Hp → Prop) (Y : Nat → Hp → V → Hp → Prop), Walk J items.length Gd Y ∧
  (∀ H', (∀ a o, H1 a = some o → ¬ pen1 pa a → H' a = some o) → Gd H') ∧ ∀ i H v H', i < items.length → Gd H → Y i H v H' → ∃ d, items[i]? = some d ∧ ResI b pa G H v d H'
/-- .. also while the body works, where the value is kept -/
def SrF (b : Bool) (pa : PA) (G : Hp) (items : List D) (J : It) : Prop := ∃ (Gd : Hp → Prop) (Y : Nat → Hp → V → Hp → Prop), Walk J items.length Gd Y ∧
  (∀ H', Sub G H' → Gd H') ∧ ∀ i H v H', i < items.length → Gd H → Y i H v H' → ∃ d, items[i]? = some d ∧ ResI b pa G H v d H'
def SrB (b : Bool) (pa : PA) (G H1 : Hp) (items : List D) (J : It) (v : V) (d : D) : Prop := SrOk b pa G H1 items J ∧ ∀ G2, Sub G G2 → Rp pa G2 v d → SrF b pa G2 items J
def tSr (src : Sr) : TI := fun σ H R => ∃ pa H0 G0 G s items t s1, Sim pa H0 G0 G σ H s ∧ evalSr src s = some ((items, t), s1) ∧
  ∀ J H1 G1 v d, Sim pa H0 G0 G1 σ H1 s1 → Ext pa G G1 H H1 σ s s1 → RT pa H0 G1 σ H1 s1 v d t → NewT H v t → SrB src.pairs pa G1 H1 items J v d → R J H1
def tTs : IEs → TT
  | .nil => tYes
  | .cons e _ => tQ fun s => boolD (evalE e s)

section
variable {pa : PA} {H0 G0 G G1 G2 H H1 H2 : Hp} {σ σ2 : L2.St} {s s1 s2 : S} {v : V} {d : D} {t : Tg} {pr : Bool}
theorem Res.mono {fr : Bool} (k : Sub G G2) (h : Res pa G H v d fr H1) : Res pa G2 H v d fr H1 := by
  obtain ⟨u, r⟩ := h
  refine ⟨u, ?_⟩
  rcases r with ⟨q, r | ⟨a, xs, ds, e1, e2, e3, e4, r⟩⟩ | ⟨q, a, xs, ds, e1, e2, e3, e4, r⟩
  · exact .inl ⟨q, .inl (r.mono k)⟩
  · exact .inl ⟨q, .inr ⟨a, xs, ds, e1, e2, e3, e4, r.mono k⟩⟩
  · exact .inr ⟨q, a, xs, ds, e1, e2, e3, e4, r.mono k⟩
theorem ResI.mono (k : Sub G G2) (h : ResI pr pa G H v d H1) : ResI pr pa G2 H v d H1 := by
  rcases h with h | ⟨q, u, a, xs, ds, e1, e2, e3, r⟩
  · exact .inl (h.mono k)
  · exact .inr ⟨q, u, a, xs, ds, e1, e2, e3, r.mono k⟩
theorem ResI.old (r : Rp pa G v d) : ResI pr pa G H v d H := .inl (.old r)
theorem ResI.pair {a : Addr} {xs : List V} {ds : List D} (n : H a = none) (r : Rps pa G xs ds) : ResI true pa G H (.ref a) (.tuple ds) (upd H a (.tup xs)) := .inr ⟨rfl, .upd n, a, xs, ds, rfl, rfl, upd_same, r⟩
theorem SrOk.mono {items : List D} {J : It} (k : Sub G G2) (h : SrOk pr pa G H1 items J) : SrOk pr pa G2 H1 items J := by
  obtain ⟨Gd, Y, w, g, y⟩ := h
  refine ⟨Gd, Y, w, g, fun i H v H' hi hg hy => ?_⟩
  obtain ⟨d, e, r⟩ := y i H v H' hi hg hy
  exact ⟨d, e, r.mono k⟩
theorem SrF.mono {items : List D} {J : It} (k : Sub G G2) (h : SrF pr pa G items J) : SrF pr pa G2 items J := by
  obtain ⟨Gd, Y, w, g, y⟩ := h
  refine ⟨Gd, Y, w, fun H' z => g H' (k.trans z), fun i H v H' hi hg hy => ?_⟩
  obtain ⟨d, e, r⟩ := y i H v H' hi hg hy
  exact ⟨d, e, r.mono k⟩
/-- where all stands in G, it stands for good -/
theorem SrF.of {items : List D} {J : It} {Gd : Hp → Prop} {Y : Nat → Hp → V → Hp → Prop} (w : Walk J items.length Gd Y) (g : ∀ H', Sub G H' → Gd H') (y : ∀ i H v H', i < items.length → Gd H → Y i H v H' → ∃ d, items[i]? = some d ∧ ResI pr pa G H v d H') : SrF pr pa G items J := ⟨Gd, Y, w, g, y⟩
theorem Rps.at {xs : List V} {ds : List D} (r : Rps pa G xs ds) {i : Nat} {x : V} (h : xs[i]? = some x) : ∃ d, ds[i]? = some d ∧ Rp pa G x d := r.getV h
theorem sr_list (K : PySem.W.Frag) {a : Addr} {xs : List V} {ds : List D} (h : H1 a = some (.lst xs)) (n : ¬ pen1 pa a) (r : Rps pa G xs ds) : SrOk pr pa G H1 ds (Itl K a) := by
  refine ⟨fun H => SqL K H a xs, YAt xs, (by rw [← r.len]; exact walk_list), fun H' k => .of (k a _ h n), fun i H v H' _ _ y => ?_⟩
  obtain ⟨rfl, hv⟩ := y
  obtain ⟨d, e, q⟩ := r.getV hv
  exact ⟨d, e, .old q⟩
theorem sr_tup (K : PySem.W.Frag) {a : Addr} {xs : List V} {ds : List D} (h : TupAt H1 a xs) (n : ¬ pen1 pa a) (r : Rps pa G xs ds) : SrOk pr pa G H1 ds (Itt K a) := by
  refine ⟨fun H => SqT K H a xs, YAt xs, (by rw [← r.len]; exact walk_tup), fun H' k => (h.at1 fun o e => k a o e n).sq, fun i H v H' _ _ y => ?_⟩
  obtain ⟨rfl, hv⟩ := y
  obtain ⟨d, e, q⟩ := r.getV hv
  exact ⟨d, e, .old q⟩
theorem en_at {ds : List D} {i : Nat} {d : D} (h : ds[i]? = some d) : (ds.zipIdx.map fun p => PyData.tuple [.int (p.2 : Nat), p.1])[i]? = some (PyData.tuple [.int (i : Nat), d]) := by
  rw [List.getElem?_map, List.getElem?_zipIdx, h]; simp
theorem sr_en (K : PySem.W.Frag) {a : Addr} {xs : List V} {ds : List D} (h : H1 a = some (.lst xs)) (n : ¬ pen1 pa a) (r : Rps pa G xs ds) : SrOk true pa G H1 (ds.zipIdx.map fun p => PyData.tuple [.int (p.2 : Nat), p.1]) (Ite K a) := by
  refine ⟨fun H => SqL K H a xs, YPair (fun i => some (.int (i : Nat))) (fun i => xs[i]?), (by rw [List.length_map, List.length_zipIdx, ← r.len]; exact walk_enum), fun H' k => .of (k a _ h n), fun i H v H' _ _ y => ?_⟩
  obtain ⟨T, x, z, rfl, hT, rfl, e1, hv⟩ := y
  cases e1
  obtain ⟨d, e, q⟩ := r.getV hv
  exact ⟨_, en_at e, .pair hT (.cons (.int _) (.cons q .nil))⟩
theorem sr_enT (K : PySem.W.Frag) {a : Addr} {xs : List V} {ds : List D} (h : TupAt H1 a xs) (n : ¬ pen1 pa a) (r : Rps pa G xs ds) : SrOk true pa G H1 (ds.zipIdx.map fun p => PyData.tuple [.int (p.2 : Nat), p.1]) (ItE K a) := by
  refine ⟨fun H => SqT K H a xs, YPair (fun i => some (.int (i : Nat))) (fun i => xs[i]?), (by rw [List.length_map, List.length_zipIdx, ← r.len]; exact walk_enumT), fun H' k => (h.at1 fun o e => k a o e n).sq, fun i H v H' _ _ y => ?_⟩
  obtain ⟨T, x, z, rfl, hT, rfl, e1, hv⟩ := y
  cases e1
  obtain ⟨d, e, q⟩ := r.getV hv
  exact ⟨_, en_at e, .pair hT (.cons (.int _) (.cons q .nil))⟩
theorem zip_at {ds es : List D} {i : Nat} {d e : D} (h : ds[i]? = some d) (h2 : es[i]? = some e) : (List.zipWith (fun u v => PyData.tuple [u, v]) ds es)[i]? = some (PyData.tuple [d, e]) := by
  rw [List.getElem?_zipWith, h, h2]
theorem sr_zip (K : PySem.W.Frag) {a b : Addr} {xs ys : List V} {ds es : List D} (h : H1 a = some (.lst xs)) (n : ¬ pen1 pa a) (r : Rps pa G xs ds) (h2 : H1 b = some (.lst ys)) (n2 : ¬ pen1 pa b) (r2 : Rps pa G ys es) :
    SrOk true pa G H1 (List.zipWith (fun u v => PyData.tuple [u, v]) ds es) (Itz K a b) := by
  refine ⟨fun H => SqL K H a xs ∧ SqL K H b ys, YPair (fun i => xs[i]?) (fun i => ys[i]?), (by rw [List.length_zipWith, ← r.len, ← r2.len]; exact walk_zip rfl), fun H' k => ⟨.of (k a _ h n), .of (k b _ h2 n2)⟩, fun i H v H' _ _ y => ?_⟩
  obtain ⟨T, x, z, rfl, hT, rfl, hx, hz⟩ := y
  obtain ⟨d, e, q⟩ := r.getV hx
  obtain ⟨d2, e2, q2⟩ := r2.getV hz
  exact ⟨_, zip_at e e2, .pair hT (.cons q (.cons q2 .nil))⟩
theorem sr_zipT (K : PySem.W.Frag) {a b : Addr} {xs ys : List V} {ds es : List D} (h : TupAt H1 a xs) (n : ¬ pen1 pa a) (r : Rps pa G xs ds) (h2 : TupAt H1 b ys) (n2 : ¬ pen1 pa b) (r2 : Rps pa G ys es) :
    SrOk true pa G H1 (List.zipWith (fun u v => PyData.tuple [u, v]) ds es) (RZ.ItzT K a b) := by
  refine ⟨fun H => SqT K H a xs ∧ SqT K H b ys, YPair (fun i => xs[i]?) (fun i => ys[i]?), (by rw [List.length_zipWith, ← r.len, ← r2.len]; exact walk_zipT rfl), fun H' k => ⟨(h.at1 fun o e => k a o e n).sq, (h2.at1 fun o e => k b o e n2).sq⟩, fun i H v H' _ _ y => ?_⟩
  obtain ⟨T, x, z, rfl, hT, rfl, hx, hz⟩ := y
  obtain ⟨d, e, q⟩ := r.getV hx
  obtain ⟨d2, e2, q2⟩ := r2.getV hz
  exact ⟨_, zip_at e e2, .pair hT (.cons q (.cons q2 .nil))⟩
theorem sr_rng {lo : Int} {n : Nat} : SrOk pr pa G H1 ((List.range n).map fun i => .int (lo + (i : Nat))) (Itr lo n) := by
  refine ⟨fun _ => True, YFn fun i => .int (lo + i), (by rw [List.length_map, List.length_range]; exact walk_range), fun _ _ => trivial, fun i H v H' hi _ y => ?_⟩
  obtain ⟨rfl, rfl⟩ := y
  rw [List.length_map, List.length_range] at hi
  exact ⟨.int (lo + (i : Nat)), by rw [List.getElem?_map, List.getElem?_range hi]; rfl, .old (.int _)⟩
theorem sr_rngC {lo c : Int} {n : Nat} : SrOk pr pa G H1 ((List.range n).map fun i => .int (lo + (i : Nat) * c)) (Itc lo c n) := by
  refine ⟨fun _ => True, YFn fun i => .int (lo + (i : Nat) * c), (by rw [List.length_map, List.length_range]; exact walk_rangeC), fun _ _ => trivial, fun i H v H' hi _ y => ?_⟩
  obtain ⟨rfl, rfl⟩ := y
  rw [List.length_map, List.length_range] at hi
  exact ⟨.int (lo + (i : Nat) * c), by rw [List.getElem?_map, List.getElem?_range hi]; rfl, .old (.int _)⟩
theorem fsr_rngC {lo c : Int} {n : Nat} : SrF pr pa G ((List.range n).map fun i => .int (lo + (i : Nat) * c)) (Itc lo c n) := by
  refine ⟨fun _ => True, YFn fun i => .int (lo + (i : Nat) * c), (by rw [List.length_map, List.length_range]; exact walk_rangeC), fun _ _ => trivial, fun i H v H' hi _ y => ?_⟩
  obtain ⟨rfl, rfl⟩ := y
  rw [List.length_map, List.length_range] at hi
  exact ⟨.int (lo + (i : Nat) * c), by rw [List.getElem?_map, List.getElem?_range hi]; rfl, .old (.int _)⟩
theorem fsr_list (K : PySem.W.Frag) {a : Addr} {xs : List V} {ds : List D} (h : G a = some (.lst xs)) (r : Rps pa G xs ds) : SrF pr pa G ds (Itl K a) := by
  refine ⟨fun H => SqL K H a xs, YAt xs, (by rw [← r.len]; exact walk_list), fun H' k => .of (k a _ h), fun i H v H' _ _ y => ?_⟩
  obtain ⟨rfl, hv⟩ := y
  obtain ⟨d, e, q⟩ := r.getV hv
  exact ⟨d, e, .old q⟩
theorem fsr_tup (K : PySem.W.Frag) {a : Addr} {xs : List V} {ds : List D} (h : TupAt G a xs) (r : Rps pa G xs ds) : SrF pr pa G ds (Itt K a) := by
  refine ⟨fun H => SqT K H a xs, YAt xs, (by rw [← r.len]; exact walk_tup), fun H' k => (h.at1 fun o e => k a o e).sq, fun i H v H' _ _ y => ?_⟩
  obtain ⟨rfl, hv⟩ := y
  obtain ⟨d, e, q⟩ := r.getV hv
  exact ⟨d, e, .old q⟩
theorem fsr_en (K : PySem.W.Frag) {a : Addr} {xs : List V} {ds : List D} (h : G a = some (.lst xs)) (r : Rps pa G xs ds) : SrF true pa G (ds.zipIdx.map fun p => PyData.tuple [.int (p.2 : Nat), p.1]) (Ite K a) := by
  refine ⟨fun H => SqL K H a xs, YPair (fun i => some (.int (i : Nat))) (fun i => xs[i]?), (by rw [List.length_map, List.length_zipIdx, ← r.len]; exact walk_enum), fun H' k => .of (k a _ h), fun i H v H' _ _ y => ?_⟩
  obtain ⟨T, x, z, rfl, hT, rfl, e1, hv⟩ := y
  cases e1
  obtain ⟨d, e, q⟩ := r.getV hv
  exact ⟨_, en_at e, .pair hT (.cons (.int _) (.cons q .nil))⟩
theorem fsr_enT (K : PySem.W.Frag) {a : Addr} {xs : List V} {ds : List D} (h : TupAt G a xs) (r : Rps pa G xs ds) : SrF true pa G (ds.zipIdx.map fun p => PyData.tuple [.int (p.2 : Nat), p.1]) (ItE K a) := by
  refine ⟨fun H => SqT K H a xs, YPair (fun i => some (.int (i : Nat))) (fun i => xs[i]?), (by rw [List.length_map, List.length_zipIdx, ← r.len]; exact walk_enumT), fun H' k => (h.at1 fun o e => k a o e).sq, fun i H v H' _ _ y => ?_⟩
  obtain ⟨T, x, z, rfl, hT, rfl, e1, hv⟩ := y
  cases e1
  obtain ⟨d, e, q⟩ := r.getV hv
  exact ⟨_, en_at e, .pair hT (.cons (.int _) (.cons q .nil))⟩
theorem fsr_zip (K : PySem.W.Frag) {a b : Addr} {xs ys : List V} {ds es : List D} (h : G a = some (.lst xs)) (r : Rps pa G xs ds) (h2 : G b = some (.lst ys)) (r2 : Rps pa G ys es) :
    SrF true pa G (List.zipWith (fun u v => PyData.tuple [u, v]) ds es) (Itz K a b) := by
  refine ⟨fun H => SqL K H a xs ∧ SqL K H b ys, YPair (fun i => xs[i]?) (fun i => ys[i]?), (by rw [List.length_zipWith, ← r.len, ← r2.len]; exact walk_zip rfl), fun H' k => ⟨.of (k a _ h), .of (k b _ h2)⟩, fun i H v H' _ _ y => ?_⟩
  obtain ⟨T, x, z, rfl, hT, rfl, hx, hz⟩ := y
  obtain ⟨d, e, q⟩ := r.getV hx
  obtain ⟨d2, e2, q2⟩ := r2.getV hz
  exact ⟨_, zip_at e e2, .pair hT (.cons q (.cons q2 .nil))⟩
theorem fsr_zipT (K : PySem.W.Frag) {a b : Addr} {xs ys : List V} {ds es : List D} (h : TupAt G a xs) (r : Rps pa G xs ds) (h2 : TupAt G b ys) (r2 : Rps pa G ys es) :
    SrF true pa G (List.zipWith (fun u v => PyData.tuple [u, v]) ds es) (RZ.ItzT K a b) := by
  refine ⟨fun H => SqT K H a xs ∧ SqT K H b ys, YPair (fun i => xs[i]?) (fun i => ys[i]?), (by rw [List.length_zipWith, ← r.len, ← r2.len]; exact walk_zipT rfl), fun H' k => ⟨(h.at1 fun o e => k a o e).sq, (h2.at1 fun o e => k b o e).sq⟩, fun i H v H' _ _ y => ?_⟩
  obtain ⟨T, x, z, rfl, hT, rfl, hx, hz⟩ := y
  obtain ⟨d, e, q⟩ := r.getV hx
  obtain ⟨d2, e2, q2⟩ := r2.getV hz
  exact ⟨_, zip_at e e2, .pair hT (.cons q (.cons q2 .nil))⟩
theorem fsr_rng {lo : Int} {n : Nat} : SrF pr pa G ((List.range n).map fun i => .int (lo + (i : Nat))) (Itr lo n) := by
  refine ⟨fun _ => True, YFn fun i => .int (lo + i), (by rw [List.length_map, List.length_range]; exact walk_range), fun _ _ => trivial, fun i H v H' hi _ y => ?_⟩
  obtain ⟨rfl, rfl⟩ := y
  rw [List.length_map, List.length_range] at hi
  exact ⟨.int (lo + (i : Nat)), by rw [List.getElem?_map, List.getElem?_range hi]; rfl, .old (.int _)⟩
/-- a list, a tuple is not the pen -/
theorem RT.npen (S1 : Sim pa H0 G0 G σ H s) (r : RT pa H0 G σ H s v d t) {a : Addr} (e : v = .ref a) {ds : List D} (hd : d = .list ds ∨ d = .tuple ds) : ¬ pen1 pa a := by
  subst e
  have fz : Rp pa G (.ref a) d → ¬ pen1 pa a := fun r n => by
    have g := S1.pen.free n
    rcases hd with rfl | rfl
    · cases r with | lst h _ => rw [g] at h; cases h
    · cases r with | tup h _ => exact h.there g
  cases t with
  | fz => exact fz r
  | fresh =>
    obtain ⟨b, xs, es, e1, _, _, _, _, _, n, _⟩ := r
    cases e1; exact n
  | slot i =>
    obtain ⟨f, h1, h2⟩ := r
    cases f with
    | true =>
      obtain ⟨b, _, _, e1, _, _, _, _, _, n⟩ := S1.ow i d h1
      rw [h2] at e1; cases e1; exact n
    | false =>
      obtain ⟨w, h3, r⟩ := S1.fz i d h1
      rw [h2] at h3; cases h3
      exact fz r

theorem Ext.grow (k : Sub H H1) : Ext pa G G H H1 σ s s := ⟨fun a o h _ => k a o h, .refl, fun _ _ h => .inl h, rfl, fun _ h => h, fun _ _ f h => ⟨f, h, fun z => z⟩⟩
/-- an item is bound -/
theorem item_ok (K : PySem.W.Frag) {tg : Tr} (hb : pr = true → tg.isT = true) (S0 : Sim pa H0 G0 G σ H s) (r : ResI pr pa G H v d H1) (e : s.bindT tg d = some s1) {Q : L2.St → Hp → Prop}
    (k : ∀ Gb σ2, Ext pa G Gb H H1 σ s s → Sim pa H0 G0 Gb σ2 H1 s1 → σ2.length = σ.length → (∀ j, j ∉ tg.slots → σ2[j]? = σ[j]? ∧ s1.sl[j]? = s.sl[j]?) → (∀ j, j ∈ tg.slots → ∀ d, s1.sl[j]? ≠ some (some (d, true))) → s1.sl.length = s.sl.length → Q σ2 H1) : tTr K tg v σ H1 Q := by
  rcases r with r | ⟨yes, u, a, xs, ds, rfl, rfl, ha, rs⟩
  · obtain ⟨Gb, Sb, Eb, Rb, _⟩ := S0.res r
    exact bind_ok K Sb (show Rp pa Gb v d from Rb) e fun σ2 S2 l2 out inn ln => k Gb σ2 Eb S2 l2 out inn ln
  · cases tg with
    | v i => cases hb yes
    | t is =>
      simp only [S.bindT] at e
      split at e
      · rename_i hi
        cases e
        exact ⟨a, xs, rfl, .of ha, by rw [rs.len, hi.1], bind_names is (S0.grow u) hi.1 hi.2 rs fun σ2 S2 l2 out inn ln => k G σ2 (Ext.grow u) S2 l2 out inn ln⟩
      · cases e
theorem Ext.updNew (E : Ext pa G G1 H H1 σ s s1) {a : Addr} {o : HO} (h : H a = none) : Ext pa G G1 H (upd H1 a o) σ s s1 :=
  ⟨fun b u e n => by rw [upd_ne (ne_of_none e h)]; exact E.hk b u e n, E.gk, E.gn, E.ln, E.sn, E.sl⟩
theorem Ext.off (E : Ext pa G G1 H H1 σ s s1) {a : Addr} {o : HO} (g : G a = none) (h : H a = some o) (n : ¬ OwnAt σ s a) : G1 a = none := by
  cases z : G1 a with
  | none => rfl
  | some u =>
    rcases E.gn a u z with q | q | q
    · rw [g] at q; cases q
    · rw [h] at q; cases q
    · exact (n q).elim
theorem own_wipe {vs : List Nat} {a : Addr} (h : OwnAt (L2.wipe σ vs) (s.wipe vs) a) : OwnAt σ s a := by
  obtain ⟨j, d, e1, e2⟩ := h
  have m : j ∉ vs := fun m => wipe_mem m e1
  rw [wipe_not m] at e1
  rw [wipeV_not m] at e2
  exact ⟨j, d, e1, e2⟩
theorem tTs_of {ifs : IEs} {b : Bool} {Q : Bool → Hp → Prop} (S0 : Sim pa H0 G0 G σ H s) (e : evalAll ifs s = some (b, s1)) (k : ∀ H1 G1, Sim pa H0 G0 G1 σ H1 s1 → Ext pa G G1 H H1 σ s s1 → Q b H1) : tTs ifs σ H Q := by
  cases ifs with
  | nil =>
    rw [evalAll] at e; cases e
    exact k H G S0 .refl
  | cons e1 es =>
    rw [evalAll] at e
    exact tQ_of S0 e k
end

theorem lc_ok (K : PySem.W.Frag) (elt : IE) (tg : Tr) (src : Sr) (ifs : IEs) (hb : src.pairs = true → tg.isT = true) {σ : L2.St} {H : Hp} {Q : VK} (h : tI (.lc elt tg src ifs) σ H Q) :
    tLc (tSr src) (tTr K tg) (tTs ifs) (tI elt) tg.slots σ H Q := by
  obtain ⟨pa, H0, G0, G, s, d, t, s2, S0, e, k⟩ := h
  rw [evalE] at e
  obtain ⟨⟨⟨items, t0⟩, s1⟩, es, e⟩ := obind e
  obtain ⟨⟨ds, s3⟩, el, e⟩ := obind e
  cases e
  unfold lcRun at el
  split at el
  case isFalse => cases el
  rename_i cond
  obtain ⟨un, lenb⟩ := cond
  obtain ⟨⟨ds', sE⟩, eg, e⟩ := obind el
  cases e
  refine ⟨pa, H0, G0, G, s, items, t0, s1, S0, es, fun J H1 G1 v d S1 E1 R1 N1 ok D hD => ?_⟩
  obtain ⟨Gd, Y, w, hg, hy⟩ := ok.1
  obtain ⟨n1, n2, n3, n4⟩ := S1.none0 hD
  refine lc_it w (fun i H' => ∃ G' acc done rest s', Sim pa H0 G0 G' (L2.wipe σ tg.slots) H' s' ∧ Ext pa G1 G' H1 H' (L2.wipe σ tg.slots) (s1.wipe tg.slots) s' ∧ H' D = some (.lst acc) ∧ Rps pa G' acc done ∧ G' D = none ∧
    lcGo (evalAll ifs) (evalE elt) tg (items.drop i) s' = some (rest, sE) ∧ done ++ rest = ds ∧ done.length ≤ i ∧ ∀ j, j ∈ tg.slots → ∀ p, s'.sl[j]? ≠ some (some p)) ?_ ?_ ?_ ?_
  · refine ⟨G1, [], [], ds, s1.wipe tg.slots, (S1.wipe _).write n2 n1 n3 (fun z => n4 (own_wipe z)), Ext.grow (.upd hD), upd_same, .nil, n2, eg, rfl, Nat.le_refl _, fun j hj p => wipe_mem hj⟩
  · rintro i H' _ ⟨G', acc, done, rest, s', S', E', _⟩
    exact hg H' E'.hk
  · rintro i x H' H'' hi ⟨G', acc, done, rest, s', S', E', hacc, ra, gD, ego, hds, hl, hin⟩ y
    have noOwn : ¬ OwnAt (L2.wipe σ tg.slots) s' D := fun z => n4 (own_wipe (E'.own z))
    obtain ⟨d, hd, res⟩ := hy i H' x H'' hi (hg H' E'.hk) y
    have edrop : items.drop i = d :: items.drop (i + 1) := by
      obtain ⟨hlt, e⟩ := List.getElem?_eq_some_iff.mp hd
      rw [List.drop_eq_getElem_cons hlt, e]
    rw [edrop, lcGo] at ego
    obtain ⟨sb, eb, ego⟩ := obind ego
    obtain ⟨⟨b, sc⟩, ec, ego⟩ := obind ego
    dsimp only at ego
    refine item_ok K hb S' (res.mono E'.gk) eb fun Gb σ2 Eb S2 l2 out inn ln => ?_
    have hw : L2.wipe σ2 tg.slots = L2.wipe σ tg.slots := wipeV_eq (by rw [l2, L2.wipe_length]) fun j hj => (out j hj).1.trans (wipeV_not hj)
    refine ⟨hw, tTs_of S2 ec fun H3 Gc Sc Ec => ?_⟩
    cases b with
    | false =>
      rw [if_neg (by decide)] at ego ⊢
      have Sw := Sc.wipe tg.slots
      rw [hw] at Sw
      have Es := Ec.scope ln (fun j hj => ⟨(out j hj).2, (out j hj).1⟩) inn hin
      have Et := Eb.trans Sw Es
      refine ⟨Gc, acc, done, rest, sc.wipe tg.slots, Sw, E'.trans Sw Et, Et.hk D _ hacc n3, ra.mono Et.gk, Et.off gD hacc noOwn, ego, hds, by omega, fun j hj p => wipe_mem hj⟩
    | true =>
      rw [if_pos rfl] at ego ⊢
      obtain ⟨⟨⟨d2, t2⟩, sd⟩, ed, ego⟩ := obind ego
      obtain ⟨⟨ds2, s4⟩, e4, ego⟩ := obind ego
      cases ego
      refine tV_of Sc ed fun y2 H4 Gd2 Sd Ed Rd Nd => ?_
      obtain ⟨Gk, Sk, Ek, _, _, rp⟩ := Rd.keep Sd Ed Nd
      have Sw := Sk.wipe tg.slots
      rw [hw] at Sw
      have Es := (Ec.trans Sk Ek).scope ln (fun j hj => ⟨(out j hj).2, (out j hj).1⟩) inn hin
      have Et := Eb.trans Sw Es
      have hacc4 := Et.hk D _ hacc n3
      have noOwn4 : ¬ OwnAt (L2.wipe σ tg.slots) ((sd.keep t2).wipe tg.slots) D := fun z => noOwn (Et.own z)
      have gD4 := Et.off gD hacc noOwn
      refine ⟨acc, hacc4, by rw [ra.len]; omega, Gk, acc ++ [y2], done ++ [d2], ds2, (sd.keep t2).wipe tg.slots, Sw.write gD4 n1 n3 noOwn4, (E'.trans Sw Et).updNew hD, upd_same, (ra.mono Et.gk).app (.cons rp .nil), gD4, e4, by rw [List.append_assoc]; exact hds, by rw [List.length_append]; simp; omega, fun j hj p => wipe_mem hj⟩
  · rintro H' ⟨G', acc, done, rest, s', S', E', hacc, ra, gD, ego, hds, hl, hin⟩
    rw [List.drop_length, lcGo] at ego
    cases ego
    rw [List.append_nil] at hds
    subst hds
    obtain ⟨Sr, Er⟩ := S1.restore un E' S'
    exact k (.ref D) H' G' Sr (E1.trans Sr Er) ⟨D, acc, done, rfl, rfl, hacc, ra, gD, n1, n3, fun z => n4 (Er.own z)⟩ fun _ a e => by
      cases e
      exact E1.back hD S1
end Fs

set_option Elab.async false
set_option linter.all false
set_option maxRecDepth 100000
set_option maxHeartbeats 4000000
namespace Fs
open PySem L2

def isn : D → Bool
  | .none => true
  | _ => false
theorem isnon {pa : PA} {G H : Hp} {v : V} {d : D} (r : RpT pa G H v d) : decide (v = .non) = isn d := by
  cases d with
  | none => rw [r.non]; rfl
  | bool b => rw [r.bl]; rfl
  | int b => rw [r.int]; rfl
  | str b => rw [r.str]; rfl
  | list b => obtain ⟨a, xs, rfl, _⟩ := r.lst; rfl
  | tuple b => obtain ⟨a, xs, rfl, _⟩ := r.tup; rfl
  | dict b => obtain ⟨a, rfl⟩ := r.dicR; rfl
theorem never {X : Cx} {e : Expr} {t : TE} (h : ∀ σ H Q, ¬ t σ H Q) : PE X e t := ⟨fun _ _ _ _ _ _ q => (h _ _ _ q).elim⟩
theorem neverV {X : Cx} {e : Expr} {f : Ev} (h : ∀ s, f s = none) : PE X e (tV f) := never fun σ H Q q => by
  obtain ⟨_, _, _, _, s, _, _, _, _, e, _⟩ := q
  rw [h s] at e; cases e
theorem neverW {X : Cx} {e : Expr} {f : S → Option (Bool × S)} (h : ∀ s, f s = none) : PW X e (tQ f) := ⟨fun _ _ _ σ H Q _ q => by
  obtain ⟨_, _, _, _, s, _, _, _, e, _⟩ := q
  rw [h s] at e; cases e⟩
theorem boolD_some {x : Option ((D × Tg) × S)} {b : Bool} {s : S} (h : boolD x = some (b, s)) : ∃ t, x = some ((.bool b, t), s) := by
  unfold boolD at h
  obtain ⟨⟨⟨d, t⟩, s2⟩, e1, e2⟩ := Option.bind_eq_some_iff.mp h
  dsimp only at e2
  split at e2
  · cases e2; exact ⟨t, e1⟩
  · cases e2
theorem optI_inv {o : Option D} {i : Option Int} (h : optI o = some i) : o = i.map .int := by
  unfold optI at h
  split at h
  · cases h; rfl
  · cases h; rfl
  · cases h
theorem own_snd (N : List Str) (is : List Nat) : (ownOf N is).map (·.2) = is := by
  unfold ownOf
  rw [List.map_map]
  exact List.map_id is

section
variable {pa : PA} {H0 G0 G G1 G2 H H1 H2 : Hp} {σ : L2.St} {s s1 s2 : S} {d d1 d2 : D} {t t1 t2 : Tg}
theorem nofz {v : V} : NewT H v .fz := fun z => by cases z
end

theorem pt_ifE {X : Cx} {c a b : Expr} {pos : Pos} {tc ta tb : TT} (hc : PT X c tc) (ha : PT X a ta) (hb : PT X b tb) :
    PT X (.IfExp c a b pos) (fun σ H Q => tc σ H fun k H1 => if k = true then ta σ H1 Q else tb σ H1 Q) := by
  refine ⟨fun pins s σ H Q I h => ?_⟩
  refine PyProof.Rows.isTrue_IfExp (thn (hc.run pins s σ H _ I h) fun d s1 ⟨H1, I1, q1⟩ => ?_)
  cases d with
  | true => exact ha.run pins s1 σ H1 Q I1 q1
  | false => exact hb.run pins s1 σ H1 Q I1 q1

section
variable {X : Cx} {N : List Str} {sc : Scope} {k : Nat}
theorem Sd.cmpLike {e : IE} {E : Em} {t : TE} (pe : PE X (emE N e E).1 t) (pt : PT X (emE N e E).1 (tB t)) (key : ∀ σ H Q, tI e σ H Q → t σ H Q) : Sd X N k e E :=
  ⟨imp pe key, PT.imp pt fun σ H Q q => key _ _ _ (tQ_tB q)⟩
theorem Cd.blk (C : Cd X N sc k) (sp : Scope) (s : Shared) (H : Hp) (A : Addr) (cl : List (Str × Addr)) (fp : List Addr) : Cd (X.blk s H sp (compEnvC sp cl A X.env) fp) N (relS sp sc) k :=
  ⟨C.hN, C.nd, by show relS sp X.env.scope = _; rw [C.hs], C.calm, C.room, C.gd, C.bl⟩

theorem key_call {x : Str} {F : Fn} {es : IEs} {σ : L2.St} {H : Hp} {Q : VK} (h : tI (.call x F es) σ H Q) : tAs es σ H fun vs H1 => spF F es.len vs H1 Q := by
  obtain ⟨pa, H0, G0, G, s, d, t, s2, S0, e, kk⟩ := h
  rw [evalE] at e
  obtain ⟨⟨xs, s1⟩, e1, e⟩ := obind e
  obtain ⟨⟨⟨d', fr⟩, pn⟩, e2, e⟩ := obind e
  dsimp only at e e2
  refine ⟨pa, H0, G0, G, s, xs, s1, S0, e1, fun vs H1 G1 S1 E1 Rs => ?_⟩
  obtain ⟨G', S', E', k', rps⟩ := Rs.keep S1 E1
  have pn' : PenAt pa G' H1 s1.pn := by have := S'.pen; rw [keeps_pn] at this; exact this
  refine ⟨pa, G', xs.map (·.1), s1.pn, d', fr, pn, by rw [List.length_map]; exact ev_len es e1, S'.sub, pn', rps, e2, fun v H2 G2 kept g1 g2 nw hp res => ?_⟩
  by_cases z : scal d' = true
  · rw [if_pos z] at e
    cases e
    have fr0 : fr = false := by
      cases fr with
      | false => rfl
      | true =>
        rw [if_pos rfl] at res
        obtain ⟨_, _, _, _, rfl, _⟩ := res
        cases z
    subst fr0
    rw [if_neg (by decide)] at res
    obtain ⟨S2, E2⟩ := S1.call kept .refl (Sub.keptPen S1 kept) (fun _ _ h => .inl h) (hp.back S1.pen (k'.trans g1))
    exact kk v H2 G1 S2 (E1.trans S2 E2) (Rp.scal_mono z res) nofz
  · rw [if_neg z] at e
    cases e
    obtain ⟨S2, E2⟩ := S'.call kept g1 g2 nw hp
    refine kk v H2 G2 S2 (E'.trans S2 E2) ?_ ?_
    · cases fr with
      | false => rw [if_neg (by decide)] at res; exact res
      | true =>
        rw [if_pos rfl] at res
        obtain ⟨a, ys, es', rfl, rfl, ha, ha2, r, g⟩ := res
        obtain ⟨n1, n2, n3, n4⟩ := S'.none0 ha
        exact ⟨a, ys, es', rfl, rfl, ha2, r, g, n1, n3, n4⟩
    · cases fr with
      | false => exact nofz
      | true =>
        rw [if_pos rfl] at res
        obtain ⟨a, ys, es', rfl, rfl, ha, ha2, r, g⟩ := res
        intro _ b e
        cases e
        exact E1.back ha S1
theorem one_items {x y : D} {p : Option Pn} {r : D × Option Pn} (h : oneF x y p = some r) : ∃ ys, y = .list ys ∨ y = .tuple ys := by
  unfold oneF at h
  split at h
  · obtain ⟨ys, h1, _⟩ := Option.bind_eq_some_iff.mp h
    unfold itemsD at h1
    split at h1
    · exact ⟨_, .inl rfl⟩
    · exact ⟨_, .inr rfl⟩
    · cases h1
  · cases h
theorem RT.npen0 {pa : PA} {H0 G0 G H : Hp} {σ : L2.St} {s : S} {v : V} {d : D} {t : Tg} (S1 : Sim pa H0 G0 G σ H s) (r : RT pa H0 G σ H s v d t) {a : Addr} (e : v = .ref a) (hd : ∃ ds, d = .list ds ∨ d = .tuple ds) : ¬ pen1 pa a := by
  obtain ⟨ds, hd⟩ := hd
  exact RT.npen S1 r e hd
theorem key_one {x : Str} {a b : IE} {σ : L2.St} {H : Hp} {Q : VK} (h : tI (.one x a b) σ H Q) : tI a σ H fun v H1 => tI b σ H1 fun w H2 => spOne [v, w] H2 Q := by
  obtain ⟨pa, H0, G0, G, s, d, t, s3, S0, e, kk⟩ := h
  rw [evalE] at e
  obtain ⟨⟨⟨d1, t1⟩, s1⟩, e1, e⟩ := obind e
  obtain ⟨⟨⟨d2, t2⟩, s2⟩, e2, e⟩ := obind e
  obtain ⟨⟨d3, pn⟩, e3, e⟩ := obind e
  cases e
  refine two S0 e1 e2 fun v w H2 G2 S2 E2 R1 N1 R2 N2 => ⟨pa, G2, v, w, d1, d2, s2.pn, _, pn, rfl, S2.sub, S2.pen, R1.top S2, R2.top S2, fun b eb => RT.npen0 S2 R2 eb (one_items e3), e3, fun u H3 kept hp r => ?_⟩
  obtain ⟨S3, E3⟩ := S2.call kept .refl (Sub.keptPen S2 kept) (fun _ _ h => .inl h) hp
  exact kk u H3 G2 S3 (E2.trans S3 E3) r nofz
theorem key_blt {f : Bf} {es : IEs} {σ : L2.St} {H : Hp} {Q : VK} (h : tI (.blt f es) σ H Q) : tAs es σ H fun vs H1 => rBlt f vs H1 Q := by
  obtain ⟨pa, H0, G0, G, s, d, t, s2, S0, e, kk⟩ := h
  rw [evalE] at e
  obtain ⟨⟨xs, s1⟩, e1, e⟩ := obind e
  obtain ⟨⟨d', fr⟩, e2, e⟩ := obind e
  cases e
  exact ⟨pa, H0, G0, G, s, xs, _, S0, e1, fun vs H1 G1 S1 E1 Rs => ⟨pa, G1, xs.map (·.1), _, fr, S1.sub, Rs.tops S1, e2, fin S1 E1 kk⟩⟩
/-- the single argument of a call -/
theorem as_one {a : IE} {σ : L2.St} {H : Hp} {R : List V → Hp → Prop} (h : tAs (.cons a .nil) σ H R) : tI a σ H fun v H1 => R [v] H1 := by
  obtain ⟨pa, H0, G0, G, s, xs, s1, S0, e, kk⟩ := h
  rw [evalEs] at e
  obtain ⟨⟨x, s2⟩, e1, e⟩ := obind e
  obtain ⟨⟨xs', s3⟩, e2, e⟩ := obind e
  rw [evalEs] at e2
  cases e2
  cases e
  exact tV_of S0 e1 fun v H1 G1 S1 E1 R1 N1 => kk [v] H1 G1 S1 E1 ⟨R1, N1, fun _ p hp => by simp at hp, trivial⟩
theorem key_and {e : IE} {es : IEs} (hn : es ≠ .nil) {σ : L2.St} {H : Hp} {Q : VK} (h : tV (evalAnd (.cons e es)) σ H Q) : tAndV (tI e) (tV (evalAnd es)) σ H Q := by
  obtain ⟨pa, H0, G0, G, s, d, t, s2, S0, ev, kk⟩ := h
  rw [evalAnd] at ev
  obtain ⟨⟨b, s1⟩, e1, ev⟩ := obind ev
  obtain ⟨t1, e1⟩ := boolD_some e1
  dsimp only at ev
  refine tV_of S0 e1 fun v H1 G1 S1 E1 R1 N1 => ⟨b, (R1.top S1).bl, ?_⟩
  cases es with
  | nil => exact absurd rfl hn
  | cons e2 es2 =>
    dsimp only at ev
    cases b with
    | true =>
      rw [if_pos rfl] at ev ⊢
      exact tV_of S1 ev fun w H2 G2 S2 E2 R2 N2 => kk w H2 G2 S2 (E1.trans S2 E2) R2 fun z a e => E1.back (N2 z a e) S1
    | false =>
      rw [if_neg (by decide)] at ev ⊢
      cases ev
      exact kk (.bl false) H1 G1 S1 E1 (.bl false) nofz
theorem key_or {e : IE} {es : IEs} (hn : es ≠ .nil) {σ : L2.St} {H : Hp} {Q : VK} (h : tV (evalOr (.cons e es)) σ H Q) : tOrV (tI e) (tV (evalOr es)) σ H Q := by
  obtain ⟨pa, H0, G0, G, s, d, t, s2, S0, ev, kk⟩ := h
  rw [evalOr] at ev
  obtain ⟨⟨b, s1⟩, e1, ev⟩ := obind ev
  obtain ⟨t1, e1⟩ := boolD_some e1
  dsimp only at ev
  refine tV_of S0 e1 fun v H1 G1 S1 E1 R1 N1 => ⟨b, (R1.top S1).bl, ?_⟩
  cases es with
  | nil => exact absurd rfl hn
  | cons e2 es2 =>
    dsimp only at ev
    cases b with
    | false =>
      rw [if_neg (by decide)] at ev ⊢
      exact tV_of S1 ev fun w H2 G2 S2 E2 R2 N2 => kk w H2 G2 S2 (E1.trans S2 E2) R2 fun z a e => E1.back (N2 z a e) S1
    | true =>
      rw [if_pos rfl] at ev ⊢
      cases ev
      exact kk (.bl true) H1 G1 S1 E1 (.bl true) nofz
theorem key_andQ {e : IE} {es : IEs} (hn : es ≠ .nil) {σ : L2.St} {H : Hp} {Q : Bool → Hp → Prop} (h : tQ (fun s => boolD (evalAnd (.cons e es) s)) σ H Q) : tAnd (tQ fun s => boolD (evalE e s)) (tQ fun s => boolD (evalAnd es s)) σ H Q := by
  obtain ⟨pa, H0, G0, G, s, b2, s2, S0, ev, kk⟩ := h
  obtain ⟨t2, ev⟩ := boolD_some ev
  rw [evalAnd] at ev
  obtain ⟨⟨b, s1⟩, e1, ev⟩ := obind ev
  dsimp only at ev
  refine tQ_of S0 e1 fun H1 G1 S1 E1 => ?_
  cases es with
  | nil => exact absurd rfl hn
  | cons e2 es2 =>
    dsimp only at ev
    cases b with
    | true =>
      rw [if_pos rfl] at ev ⊢
      exact tQ_of S1 (by rw [ev]; rfl) fun H2 G2 S2 E2 => kk H2 G2 S2 (E1.trans S2 E2)
    | false =>
      rw [if_neg (by decide)] at ev ⊢
      cases ev
      exact kk H1 G1 S1 E1
theorem key_orQ {e : IE} {es : IEs} (hn : es ≠ .nil) {σ : L2.St} {H : Hp} {Q : Bool → Hp → Prop} (h : tQ (fun s => boolD (evalOr (.cons e es) s)) σ H Q) : tOr (tQ fun s => boolD (evalE e s)) (tQ fun s => boolD (evalOr es s)) σ H Q := by
  obtain ⟨pa, H0, G0, G, s, b2, s2, S0, ev, kk⟩ := h
  obtain ⟨t2, ev⟩ := boolD_some ev
  rw [evalOr] at ev
  obtain ⟨⟨b, s1⟩, e1, ev⟩ := obind ev
  dsimp only at ev
  refine tQ_of S0 e1 fun H1 G1 S1 E1 => ?_
  cases es with
  | nil => exact absurd rfl hn
  | cons e2 es2 =>
    dsimp only at ev
    cases b with
    | false =>
      rw [if_neg (by decide)] at ev ⊢
      exact tQ_of S1 (by rw [ev]; rfl) fun H2 G2 S2 E2 => kk H2 G2 S2 (E1.trans S2 E2)
    | true =>
      rw [if_pos rfl] at ev ⊢
      cases ev
      exact kk H1 G1 S1 E1
theorem key_and1 {e : IE} {σ : L2.St} {H : Hp} {Q : VK} (h : tV (evalAnd (.cons e .nil)) σ H Q) : tI e σ H Q := by
  obtain ⟨pa, H0, G0, G, s, d, t, s2, S0, ev, kk⟩ := h
  rw [evalAnd] at ev
  obtain ⟨⟨b, s1⟩, e1, ev⟩ := obind ev
  obtain ⟨t1, e1⟩ := boolD_some e1
  cases ev
  exact tV_of S0 e1 fun v H1 G1 S1 E1 R1 N1 => kk v H1 G1 S1 E1 (by rw [(R1.top S1).bl]; exact .bl b) nofz
theorem key_or1 {e : IE} {σ : L2.St} {H : Hp} {Q : VK} (h : tV (evalOr (.cons e .nil)) σ H Q) : tI e σ H Q := by
  obtain ⟨pa, H0, G0, G, s, d, t, s2, S0, ev, kk⟩ := h
  rw [evalOr] at ev
  obtain ⟨⟨b, s1⟩, e1, ev⟩ := obind ev
  obtain ⟨t1, e1⟩ := boolD_some e1
  cases ev
  exact tV_of S0 e1 fun v H1 G1 S1 E1 R1 N1 => kk v H1 G1 S1 E1 (by rw [(R1.top S1).bl]; exact .bl b) nofz
theorem key_and1Q {e : IE} {σ : L2.St} {H : Hp} {Q : Bool → Hp → Prop} (h : tQ (fun s => boolD (evalAnd (.cons e .nil) s)) σ H Q) : tQ (fun s => boolD (evalE e s)) σ H Q := by
  obtain ⟨pa, H0, G0, G, s, b2, s2, S0, ev, kk⟩ := h
  obtain ⟨t2, ev⟩ := boolD_some ev
  rw [evalAnd] at ev
  obtain ⟨⟨b, s1⟩, e1, ev⟩ := obind ev
  cases ev
  exact tQ_of S0 e1 kk
theorem key_or1Q {e : IE} {σ : L2.St} {H : Hp} {Q : Bool → Hp → Prop} (h : tQ (fun s => boolD (evalOr (.cons e .nil) s)) σ H Q) : tQ (fun s => boolD (evalE e s)) σ H Q := by
  obtain ⟨pa, H0, G0, G, s, b2, s2, S0, ev, kk⟩ := h
  obtain ⟨t2, ev⟩ := boolD_some ev
  rw [evalOr] at ev
  obtain ⟨⟨b, s1⟩, e1, ev⟩ := obind ev
  cases ev
  exact tQ_of S0 e1 kk
end
end Fs

set_option Elab.async false
set_option linter.all false
set_option maxRecDepth 100000
set_option maxHeartbeats 4000000
namespace Fs
open PySem L2
section
variable {σ : L2.St} {H : Hp} {Q : VK}
theorem key_bin {op : Operator} {a b : IE} (h : tI (.bin op a b) σ H Q) : tOp (rD2 op) (tI a) (tI b) σ H Q := by
  obtain ⟨pa, H0, G0, G, s, d, t, s3, S0, e, kk⟩ := h
  rw [evalE] at e
  obtain ⟨⟨⟨d1, t1⟩, s1⟩, e1, e⟩ := obind e
  obtain ⟨⟨⟨d2, t2⟩, s2⟩, e2, e⟩ := obind e
  obtain ⟨⟨d3, fr⟩, e3, e⟩ := obind e
  cases e
  exact two S0 e1 e2 fun v w H2 G2 S2 E2 R1 N1 R2 N2 => ⟨pa, G2, d1, d2, _, fr, S2.sub, R1.top S2, R2.top S2, e3, fin S2 E2 kk⟩
theorem key_cmp {op : CmpOp} {a b : IE} (h : tI (.cmp op a b) σ H Q) : tOp (rC2 op) (tI a) (tI b) σ H Q := by
  obtain ⟨pa, H0, G0, G, s, d, t, s3, S0, e, kk⟩ := h
  rw [evalE] at e
  obtain ⟨⟨⟨d1, t1⟩, s1⟩, e1, e⟩ := obind e
  obtain ⟨⟨⟨d2, t2⟩, s2⟩, e2, e⟩ := obind e
  obtain ⟨c, e3, e⟩ := obind e
  cases e
  exact two S0 e1 e2 fun v w H2 G2 S2 E2 R1 N1 R2 N2 => ⟨pa, G2, d1, d2, c, S2.sub, R1.top S2, R2.top S2, e3, kk _ H2 G2 S2 E2 (.bl c) nofz⟩
theorem key_cmp2 {o p : CmpOp} {a b c : IE} (h : tI (.cmp2 o p a b c) σ H Q) : tChain (rC2 o) (rC2 p) (tI a) (tI b) (tI c) σ H Q := by
  obtain ⟨pa, H0, G0, G, s, d, t, s3, S0, e, kk⟩ := h
  rw [evalE] at e
  obtain ⟨⟨⟨d1, t1⟩, s1⟩, e1, e⟩ := obind e
  obtain ⟨⟨⟨d2, t2⟩, s2⟩, e2, e⟩ := obind e
  obtain ⟨b1, e3, e⟩ := obind e
  refine two S0 e1 e2 fun v w H2 G2 S2 E2 R1 N1 R2 N2 => ⟨pa, G2, d1, d2, b1, S2.sub, R1.top S2, R2.top S2, e3, b1, rfl, ?_⟩
  cases b1 with
  | true =>
    rw [if_pos rfl] at e ⊢
    obtain ⟨⟨⟨d3, t3⟩, s4⟩, e4, e⟩ := obind e
    obtain ⟨m, e5, e⟩ := obind e
    cases e
    exact tV_of S2 e4 fun z H3 G3 S3 E3 R3 N3 => ⟨pa, G3, d2, d3, m, S3.sub, (R2.ext S3 E3).top S3, R3.top S3, e5, kk _ H3 G3 S3 (E2.trans S3 E3) (.bl m) nofz⟩
  | false =>
    rw [if_neg (by decide)] at e ⊢
    cases e
    exact kk _ H2 G2 S2 E2 (.bl false) nofz
theorem key_isN {a : IE} (h : tI (.isN a) σ H Q) : tIsN (tI a) σ H Q := by
  obtain ⟨pa, H0, G0, G, s, d, t, s3, S0, e, kk⟩ := h
  rw [evalE] at e
  obtain ⟨⟨⟨d1, t1⟩, s1⟩, e1, e⟩ := obind e
  cases e
  refine tV_of S0 e1 fun v H1 G1 S1 E1 R1 N1 => ?_
  rw [isnon (R1.top S1)]
  cases d1 <;> exact kk _ H1 G1 S1 E1 (.bl _) nofz
theorem key_notN {a : IE} (h : tI (.notN a) σ H Q) : tNotN (tI a) σ H Q := by
  obtain ⟨pa, H0, G0, G, s, d, t, s3, S0, e, kk⟩ := h
  rw [evalE] at e
  obtain ⟨⟨⟨d1, t1⟩, s1⟩, e1, e⟩ := obind e
  cases e
  refine tV_of S0 e1 fun v H1 G1 S1 E1 R1 N1 => ?_
  rw [isnon (R1.top S1)]
  cases d1 <;> exact kk _ H1 G1 S1 E1 (.bl _) nofz
theorem key_neg {a : IE} (h : tI (.neg a) σ H Q) : tUn (rU fun i => .int (-i)) (tI a) σ H Q := by
  obtain ⟨pa, H0, G0, G, s, d, t, s3, S0, e, kk⟩ := h
  rw [evalE] at e
  obtain ⟨⟨⟨d1, t1⟩, s1⟩, e1, e⟩ := obind e
  dsimp only at e
  split at e
  · cases e
    exact tV_of S0 e1 fun v H1 G1 S1 E1 R1 N1 => ⟨_, (R1.top S1).int, kk _ H1 G1 S1 E1 (.int _) nofz⟩
  · cases e
theorem key_not {a : IE} (h : tI (.not a) σ H Q) : tNotV (tI a) σ H Q := by
  obtain ⟨pa, H0, G0, G, s, d, t, s3, S0, e, kk⟩ := h
  rw [evalE] at e
  obtain ⟨⟨b, s1⟩, e1, e⟩ := obind e
  obtain ⟨t1, e1⟩ := boolD_some e1
  cases e
  exact tV_of S0 e1 fun v H1 G1 S1 E1 R1 N1 => ⟨b, (R1.top S1).bl, kk _ H1 G1 S1 E1 (.bl _) nofz⟩
theorem key_notQ {a : IE} {Q : Bool → Hp → Prop} (h : tQ (fun s => boolD (evalE (.not a) s)) σ H Q) : tNot (tQ fun s => boolD (evalE a s)) σ H Q := by
  obtain ⟨pa, H0, G0, G, s, c, s3, S0, e, kk⟩ := h
  obtain ⟨t, e⟩ := boolD_some e
  rw [evalE] at e
  obtain ⟨⟨b, s1⟩, e1, e⟩ := obind e
  cases e
  exact tQ_of S0 e1 kk
theorem key_ite {c a b : IE} (h : tI (.ite c a b) σ H Q) : tIf (tQ fun s => boolD (evalE c s)) (tI a) (tI b) σ H Q := by
  obtain ⟨pa, H0, G0, G, s, d, t, s3, S0, e, kk⟩ := h
  rw [evalE] at e
  obtain ⟨⟨k, s1⟩, e1, e⟩ := obind e
  dsimp only at e
  refine tQ_of S0 e1 fun H1 G1 S1 E1 => ?_
  cases k with
  | true =>
    rw [if_pos rfl] at e ⊢
    exact tV_of S1 e fun w H2 G2 S2 E2 R2 N2 => kk w H2 G2 S2 (E1.trans S2 E2) R2 fun z a e => E1.back (N2 z a e) S1
  | false =>
    rw [if_neg (by decide)] at e ⊢
    exact tV_of S1 e fun w H2 G2 S2 E2 R2 N2 => kk w H2 G2 S2 (E1.trans S2 E2) R2 fun z a e => E1.back (N2 z a e) S1
theorem key_iteQ {c a b : IE} {Q : Bool → Hp → Prop} (h : tQ (fun s => boolD (evalE (.ite c a b) s)) σ H Q) :
    (tQ fun s => boolD (evalE c s)) σ H fun k H1 => if k = true then (tQ fun s => boolD (evalE a s)) σ H1 Q else (tQ fun s => boolD (evalE b s)) σ H1 Q := by
  obtain ⟨pa, H0, G0, G, s, c, s3, S0, e, kk⟩ := h
  obtain ⟨t, e⟩ := boolD_some e
  rw [evalE] at e
  obtain ⟨⟨k, s1⟩, e1, e⟩ := obind e
  dsimp only at e
  refine tQ_of S0 e1 fun H1 G1 S1 E1 => ?_
  cases k with
  | true =>
    rw [if_pos rfl] at e ⊢
    exact tQ_of S1 (by rw [e]; rfl) fun H2 G2 S2 E2 => kk H2 G2 S2 (E1.trans S2 E2)
  | false =>
    rw [if_neg (by decide)] at e ⊢
    exact tQ_of S1 (by rw [e]; rfl) fun H2 G2 S2 E2 => kk H2 G2 S2 (E1.trans S2 E2)
theorem line1k {n : Nat} (h : n ≤ 1000) : n ≤ sizeLine := Nat.le_trans h (by decide)
theorem key_tup {es : IEs} (hl : es.len ≤ 1000) (h : tI (.tup es) σ H Q) : tTupF (tAs es) σ H Q := by
  obtain ⟨pa, H0, G0, G, s, d, t, s3, S0, e, kk⟩ := h
  rw [evalE] at e
  obtain ⟨⟨xs, s1⟩, e1, e⟩ := obind e
  cases e
  refine ⟨pa, H0, G0, G, s, xs, s1, S0, e1, fun vs H1 G1 S1 E1 Rs => ⟨by rw [Rs.len, ev_len es e1]; exact line1k hl, ?_⟩⟩
  obtain ⟨G', S', E', _, rps⟩ := Rs.keep S1 E1
  exact Res.tup (fun v H2 r => fin (fr := false) S' E' kk v H2 r) rps
theorem key_lst {es : IEs} (hl : es.len ≤ 1000) (h : tI (.lst es) σ H Q) : tLst (tAs es) σ H Q := by
  obtain ⟨pa, H0, G0, G, s, d, t, s3, S0, e, kk⟩ := h
  rw [evalE] at e
  obtain ⟨⟨xs, s1⟩, e1, e⟩ := obind e
  cases e
  refine ⟨pa, H0, G0, G, s, xs, s1, S0, e1, fun vs H1 G1 S1 E1 Rs => ⟨by rw [Rs.len, ev_len es e1]; exact line1k hl, fun p hp => ?_⟩⟩
  obtain ⟨G', S', E', _, rps⟩ := Rs.keep S1 E1
  exact fin (fr := true) S' E' kk _ _ (.lst hp rps)
theorem key_ix {a b : IE} (h : tI (.ix a b) σ H Q) : tOp rIxD (tI a) (tI b) σ H Q := by
  obtain ⟨pa, H0, G0, G, s, d, t, s3, S0, e, kk⟩ := h
  rw [evalE] at e
  obtain ⟨⟨⟨d1, t1⟩, s1⟩, e1, e⟩ := obind e
  obtain ⟨⟨⟨d2, t2⟩, s2⟩, e2, e⟩ := obind e
  obtain ⟨d3, e3, e⟩ := obind e
  cases e
  exact two S0 e1 e2 fun v w H2 G2 S2 E2 R1 N1 R2 N2 => ⟨pa, G2, d1, d2, _, S2.sub, R1.top S2, R2.top S2, e3, fun u r => kk u H2 G2 S2 E2 r nofz⟩
theorem key_sl {a : IE} {lo hi : IO} (h : tI (.sl a lo hi) σ H Q) : tSl rSlD (tI a) (tOo lo) (tOo hi) σ H Q := by
  obtain ⟨pa, H0, G0, G, s, d, t, s4, S0, e, kk⟩ := h
  rw [evalE] at e
  obtain ⟨⟨⟨d1, t1⟩, s1⟩, e1, e⟩ := obind e
  obtain ⟨⟨l, s2⟩, e2, e⟩ := obind e
  obtain ⟨⟨u, s3⟩, e3, e⟩ := obind e
  obtain ⟨⟨d2, fr⟩, e4, e⟩ := obind e
  cases e
  obtain ⟨l', h1, h2⟩ := Option.bind_eq_some_iff.mp (show ((optI l).bind fun l => _) = some (_, fr) from e4)
  obtain ⟨u', h3, h4⟩ := Option.bind_eq_some_iff.mp h2
  refine tV_of S0 e1 fun v H1 G1 S1 E1 R1 N1 => ⟨pa, H0, G0, G1, s1, l, s2, S1, e2, l', h1, fun H2 G2 S2 E2 => ⟨pa, H0, G0, G2, s2, u, _, S2, e3, u', h3, fun H3 G3 S3 E3 => ?_⟩⟩
  have E13 := E2.trans S3 E3
  refine ⟨pa, G3, d1, _, fr, S3.sub, (R1.ext S3 E13).top S3, ?_, fin S3 (E1.trans S3 E13) kk⟩
  rw [← optI_inv h1, ← optI_inv h3]
  exact e4
theorem key_isi {a : IE} {t : Ty5} (h : tI (.isi a t) σ H Q) : tI a σ H fun v H1 => rIs5 t [v, .ty t.ty] H1 Q := by
  obtain ⟨pa, H0, G0, G, s, d, t0, s3, S0, e, kk⟩ := h
  rw [evalE] at e
  obtain ⟨⟨⟨d1, t1⟩, s1⟩, e1, e⟩ := obind e
  obtain ⟨b, e2, e⟩ := obind e
  cases e
  exact tV_of S0 e1 fun v H1 G1 S1 E1 R1 N1 => ⟨pa, G1, v, d1, b, rfl, S1.sub, R1.top S1, e2, kk _ H1 G1 S1 E1 (.bl b) nofz⟩
/-- isinstance(x, C), x tracked -/
def rIsT (K : PySem.W.Frag) : List V → Hp → VK → Prop := fun xs H Q => ∃ (a D : Addr) (c : V) (cv : Value) (b : Bool), xs = [.ref a, c] ∧ H a = some (exT (.ref D) none a) ∧ L2.ExcC K D ∧ (∀ u, RelV c u → u = cv) ∧ PySem.W.kitOne K (.ref D) cv = some b ∧ Q (.bl b) H
theorem inst_of {h : Heap} {a D : Addr} {oe : Obj} {vs : Array Value} (e : h.get? a = some oe) (z : L2.Zc (.ref D) none oe) (f : oe.data = .fields vs) : PySem.W.InstAt h a oe D none := by
  cases oe with
  | mk c1 d1 t1 l1 =>
    obtain ⟨h1, h2⟩ := z
    cases h1
    cases h2
    cases f
    exact ⟨e, rfl, rfl, trivial⟩
theorem call_isT {X : Cx} : CallR X (.builtin "isinstance") (rIsT X.K) := by
  intro ps0 s σ H xs us Q I r h
  obtain ⟨a, D, c, cv, b, rfl, ha, C, hcv, e, q⟩ := h
  obtain ⟨⟨oe, vs, he, hz, hd⟩, _⟩ := I.hok a _ ha
  match us, r with
  | [u1, u2], .cons r1 (.cons r2 .nil) =>
    cases r1
    cases hcv _ r2
    exact PySem.W.kia_one (PySem.W.handS_kitx_exc C.hg C.hk C.hs C.hd C.ha C.hn C.ht C.hm) I.kIn (inst_of he hz hd) e (fun z => nomatch z) fun tk => ⟨.bl b, H, I.kept (t' := tk) fun _ _ z => z, rfl, q⟩
theorem isXD_some {adr : Str → Nat} {names : List Str} {sub : Str → Bool} {d : D} {b : Bool} (h : isXD adr names sub d = some b) : ∃ c, d = .dict [(.int (adr c : Nat), .str c)] ∧ c ∈ names ∧ b = sub c := by
  unfold isXD at h
  split at h
  · split at h
    · rename_i hz
      cases h
      exact ⟨_, by rw [hz.2], hz.1, rfl⟩
    · cases h
  · cases h
theorem key_isX {K : PySem.W.Frag} {x : Str} {adr : Str → Nat} {names : List Str} {sub : Str → Bool} {a : IE} {c : V} {cv : Value} (hcv : ∀ u, RelV c u → u = cv) (hk : ∀ n, n ∈ names → L2.ExcC K (adr n) ∧ PySem.W.kitOne K (.ref (adr n)) cv = some (sub n))
    (h : tI (.isX x adr names sub a) σ H Q) : tI a σ H fun v H1 => rIsT K [v, c] H1 Q := by
  obtain ⟨pa, H0, G0, G, s, d, t0, s3, S0, e, kk⟩ := h
  rw [evalE] at e
  obtain ⟨⟨⟨d1, t1⟩, s1⟩, e1, e⟩ := obind e
  obtain ⟨b, e2, e⟩ := obind e
  cases e
  refine tV_of S0 e1 fun v H1 G1 S1 E1 R1 N1 => ?_
  obtain ⟨n, ed, hn, rfl⟩ := isXD_some e2
  have ed : d1 = .dict [(.int (adr n : Nat), .str n)] := ed
  subst ed
  obtain ⟨p, D, rfl, hC, hp⟩ := (R1.top S1).exc
  obtain rfl : D = adr n := (Int.ofNat.inj hC).symm
  exact ⟨p, _, c, cv, _, rfl, S1.sub _ _ hp, (hk n hn).1, hcv, (hk n hn).2, kk _ H1 G1 S1 E1 (.bl _) nofz⟩
theorem key_cons {e : IE} {es : IEs} {R : List V → Hp → Prop} (h : tAs (.cons e es) σ H R) : tCons (tI e) (tAs es) σ H R := by
  obtain ⟨pa, H0, G0, G, s, xs, s3, S0, ev, kk⟩ := h
  rw [evalEs] at ev
  obtain ⟨⟨⟨d, t⟩, s1⟩, e1, ev⟩ := obind ev
  obtain ⟨⟨ys, s2⟩, e2, ev⟩ := obind ev
  cases ev
  refine tV_of S0 e1 fun v H1 G1 S1 E1 R1 N1 => ⟨pa, H0, G0, G1, s1, ys, _, S1, e2, fun vs H2 G2 S2 E2 Rs => ?_⟩
  refine kk (v :: vs) H2 G2 S2 (E1.trans S2 E2) ⟨R1.ext S2 E2, N1, fun z p hp zp ep => ?_, Rs.weak fun a z => E1.back z S1⟩
  dsimp only at z
  subst z
  obtain ⟨a, xs, ds, rfl, _, ha, _⟩ := R1
  have := (Rs.new p hp).1 zp a ep
  rw [ha] at this; cases this
theorem tV.mono {f : Ev} {Q' : VK} (h : tV f σ H Q) (k : ∀ v H1, Q v H1 → Q' v H1) : tV f σ H Q' := by
  obtain ⟨pa, H0, G0, G, s, d, t, s1, S0, e, kk⟩ := h
  exact ⟨pa, H0, G0, G, s, d, t, s1, S0, e, fun v H1 G1 S1 E1 R1 N1 => k v H1 (kk v H1 G1 S1 E1 R1 N1)⟩
theorem key_sset {a : IE} (K : PySem.W.Frag) (h : tI (.blt .sset (.cons a .nil)) σ H Q) : rSortSet K (tI a) σ H Q := by
  refine (as_one (key_blt h)).mono fun v H1 q => ?_
  obtain ⟨pa, G, ds, d, fr, gh, rs, e, k⟩ := q
  unfold bltD at e
  split at e
  all_goals try (first | (cases e; done) | (rename_i z _; cases z; done) | (rename_i z; cases z; done))
  all_goals
    obtain ⟨ns, eb, e⟩ := Option.bind_eq_some_iff.mp e
    split at e
  · rename_i hz
    cases e
    obtain ⟨v', ev, rv⟩ := rs.one
    cases ev
    obtain ⟨b, xs, rfl, hb, ra⟩ := rv.lst
    rw [ra.ints eb] at hb
    exact ⟨b, ns, rfl, .inl (.of hb), hz, fun p hp => k _ _ (.lst hp (Rps.ofInts _))⟩
  · cases e
  · rename_i hz
    cases e
    obtain ⟨v', ev, rv⟩ := rs.one
    cases ev
    obtain ⟨b, xs, rfl, hb, ra⟩ := rv.tup
    rw [ra.ints eb] at hb
    exact ⟨b, ns, rfl, .inr (hb.up gh).sq, hz, fun p hp => k _ _ (.lst hp (Rps.ofInts _))⟩
  · cases e
theorem key_lrange {a : IE} (h : tI (.blt .lrange (.cons a .nil)) σ H Q) : tLstRg (tRg1 (tI a)) σ H Q := by
  refine (as_one (key_blt h)).mono fun v H1 q => ?_
  obtain ⟨pa, G, ds, d, fr, gh, rs, e, k⟩ := q
  unfold bltD at e
  split at e
  all_goals try (first | (cases e; done) | (rename_i z _; cases z; done) | (rename_i z; cases z; done))
  rename_i n _
  split at e
  · rename_i hz
    cases e
    obtain ⟨v', ev, rv⟩ := rs.one
    cases ev
    refine ⟨n, rv.int, .of_le (by omega) hz.2 (by omega) hz.1, fun p hp => ?_⟩
    have e : ∀ n : Int, rgV 0 n = ((List.range n.toNat).map fun i => ((i : Nat) : Int)).map V.int := fun n => by
      unfold rgV
      rw [List.map_map]
      simp [Function.comp_def]
    rw [e]
    refine k _ _ (.lst hp ?_)
    have := Rps.ofInts (pa := pa) (G := G) ((List.range n.toNat).map fun i => ((i : Nat) : Int))
    rw [List.map_map (f := fun i : Nat => (i : Int)) (g := PyData.int)] at this
    exact this
  · cases e

theorem key_trange {a : IE} (h : tI (.blt .trange (.cons a .nil)) σ H Q) : tTupRgF (tRg1 (tI a)) σ H Q := by
  refine (as_one (key_blt h)).mono fun v H1 q => ?_
  obtain ⟨pa, G, ds, d, fr, gh, rs, e, k⟩ := q
  unfold bltD at e
  split at e
  all_goals try (first | (cases e; done) | (rename_i z _; cases z; done) | (rename_i z; cases z; done))
  rename_i n _
  split at e
  · rename_i hz
    cases e
    obtain ⟨v', ev, rv⟩ := rs.one
    cases ev
    refine ⟨n, rv.int, .of_le (by omega) hz.2 (by omega) hz.1, ?_⟩
    have e : ∀ n : Int, rgV 0 n = ((List.range n.toNat).map fun i => ((i : Nat) : Int)).map V.int := fun n => by
      unfold rgV
      rw [List.map_map]
      simp [Function.comp_def]
    rw [e]
    refine Res.tup k ?_
    have := Rps.ofInts (pa := pa) (G := G) ((List.range n.toNat).map fun i => ((i : Nat) : Int))
    rw [List.map_map (f := fun i : Nat => (i : Int)) (g := PyData.int)] at this
    exact this
  · cases e

theorem isPen_at {s : S} {i : Nat} (h : isPen (rd s i) = true) : s.sl[i]? = some (some (.dict [], false)) := by
  unfold isPen at h
  split at h
  · rename_i e
    unfold rd at e
    obtain ⟨o, h1, h2⟩ := Option.bind_eq_some_iff.mp e
    have h2 : o = some (.dict [], false) := h2
    rw [h1, h2]
  · cases h
theorem pen_val {pa : PA} {H0 G0 G : Hp} {s : S} (S0 : Sim pa H0 G0 G σ H s) {i : Nat} {q : Pn} (h : isPen (rd s i) = true) (hp : s.pn = some q) :
    ∃ a c, pa = some (a, c) ∧ σ[i]? = some (some (.ref a)) ∧ H a = some (.lst [.ref c, .int q.a, .int q.r]) ∧ G c = some (.lst (q.cells.map V.int)) ∧ G a = none ∧ c ≠ a := by
  obtain ⟨v, e1, r⟩ := S0.fz i _ (isPen_at h)
  cases r with
  | pen hpa =>
    rename_i a c
    have p := S0.pen
    subst hpa
    rw [hp] at p
    exact ⟨a, c, rfl, e1, p.2.1, p.2.2.1, p.2.2.2, p.1⟩
theorem at_nat {α : Type} {xs : List α} {j : Nat} {v : α} (h : xs[j]? = some v) : L2.atI xs ((j : Nat) : Int) = some v := L2.atI_nat h
theorem key_pix {i j : Nat} (K : PySem.W.Frag) (h : tI (.pix i j) σ H Q) : tOp (rIxL K) (tVar i) (tC (.int (j : Nat))) σ H Q := by
  obtain ⟨pa, H0, G0, G, s, d, t, s1, S0, e, kk⟩ := h
  rw [evalE] at e
  split at e
  case isFalse => cases e
  rename_i hi
  obtain ⟨d', e1, e2⟩ := Option.map_eq_some_iff.mp e
  cases e2
  obtain ⟨q, hq, e9⟩ := Option.bind_eq_some_iff.mp e1
  clear e1 e
  obtain ⟨a, c, hpa, hσ, ha, hc, _⟩ := pen_val S0 hi hq
  refine ⟨_, hσ, ?_⟩
  show ∃ p xs n v, V.ref a = V.ref p ∧ V.int ((j : Nat) : Int) = V.int n ∧ SqL K H p xs ∧ L2.atI xs n = some v ∧ Q v H
  refine ⟨a, [.ref c, .int q.a, .int q.r], ((j : Nat) : Int), ?_⟩
  unfold pixD at e9
  split at e9
  · rename_i hj
    subst hj
    cases e9
    exact ⟨.ref c, rfl, rfl, .of ha, at_nat rfl, kk _ H G S0 .refl (.lst hc (Rps.ofInts _)) nofz⟩
  · split at e9
    · rename_i hj
      subst hj
      cases e9
      exact ⟨.int q.a, rfl, rfl, .of ha, at_nat rfl, kk _ H G S0 .refl (.int _) nofz⟩
    · split at e9
      · rename_i hj
        subst hj
        cases e9
        exact ⟨.int q.r, rfl, rfl, .of ha, at_nat rfl, kk _ H G S0 .refl (.int _) nofz⟩
      · cases e9

theorem PI.or {X : Cx} {tg it : Expr} {a b : TI} (h1 : PI X tg it a) (h2 : PI X tg it b) : PI X tg it (fun σ H R => a σ H R ∨ b σ H R) :=
  ⟨fun pins s σ H R I h => h.elim (h1.run pins s σ H R I) (h2.run pins s σ H R I)⟩
theorem PI.imp {X : Cx} {tg it : Expr} {a b : TI} (h : PI X tg it a) (k : ∀ σ H R, b σ H R → a σ H R) : PI X tg it b := ⟨fun pins s σ H R I q => h.run pins s σ H R I (k σ H R q)⟩
variable {R : It → Hp → Prop}
theorem key_seq (K : PySem.W.Frag) {e : IE} (h : tSr (.seq e) σ H R) : iList K (tI e) σ H R ∨ iTup K (tI e) σ H R := by
  obtain ⟨pa, H0, G0, G, s, items, t, s1, S0, ev, kk⟩ := h
  rw [evalSr] at ev
  obtain ⟨⟨⟨d, t1⟩, s2⟩, e1, ev⟩ := obind ev
  obtain ⟨xs, e2, ev⟩ := obind ev
  cases ev
  cases d with
  | list ds =>
    cases e2
    refine .inl (tV_of S0 e1 fun v H1 G1 S1 E1 R1 N1 => ?_)
    obtain ⟨a, xs, ea, ha, ra⟩ := (R1.top S1).lst
    exact ⟨a, ea, ⟨xs, .of ha⟩, kk _ H1 G1 v _ S1 E1 R1 N1 ⟨sr_list K ha (R1.npen S1 ea (.inl rfl)) ra, fun G2 _ rp => by subst ea; cases rp with | lst h r => exact fsr_list K h r⟩⟩
  | tuple ds =>
    cases e2
    refine .inr (tV_of S0 e1 fun v H1 G1 S1 E1 R1 N1 => ?_)
    obtain ⟨a, xs, ea, ha, ra⟩ := (R1.top S1).tup
    exact ⟨a, ea, ⟨xs, (ha.up S1.sub).sq⟩, kk _ H1 G1 v _ S1 E1 R1 N1 ⟨sr_tup K (ha.up S1.sub) (R1.npen S1 ea (.inr rfl)) ra, fun G2 _ rp => by subst ea; cases rp with | tup h r => exact fsr_tup K h r⟩⟩
  | _ => cases e2
theorem key_enum (K : PySem.W.Frag) {e : IE} (h : tSr (.enum e) σ H R) : iEnA K (tCons (tI e) tNil) σ H R := by
  obtain ⟨pa, H0, G0, G, s, items, t, s1, S0, ev, kk⟩ := h
  rw [evalSr] at ev
  obtain ⟨⟨⟨d, t1⟩, s2⟩, e1, ev⟩ := obind ev
  obtain ⟨xs, e2, ev⟩ := obind ev
  cases ev
  cases d with
  | list ds =>
    cases e2
    refine tV_of S0 e1 fun v H1 G1 S1 E1 R1 N1 => ?_
    obtain ⟨a, xs, ea, ha, ra⟩ := (R1.top S1).lst
    exact ⟨a, xs, by rw [ea], .inl ⟨.of ha, kk _ H1 G1 v _ S1 E1 R1 N1 ⟨sr_en K ha (R1.npen S1 ea (.inl rfl)) ra, fun G2 _ rp => by subst ea; cases rp with | lst h r => exact fsr_en K h r⟩⟩⟩
  | tuple ds =>
    cases e2
    refine tV_of S0 e1 fun v H1 G1 S1 E1 R1 N1 => ?_
    obtain ⟨a, xs, ea, ha, ra⟩ := (R1.top S1).tup
    exact ⟨a, xs, by rw [ea],   .inr ⟨(ha.up S1.sub).sq, kk _ H1 G1 v _ S1 E1 R1 N1 ⟨sr_enT K (ha.up S1.sub) (R1.npen S1 ea (.inr rfl)) ra, fun G2 _ rp => by subst ea; cases rp with | tup h r => exact fsr_enT K h r⟩⟩⟩
  | _ => cases e2
theorem key_zip (K : PySem.W.Frag) {a b : IE} (h : tSr (.zip a b) σ H R) : RZ.iZipA K (tCons (tI a) (tCons (tI b) tNil)) σ H R := by
  obtain ⟨pa, H0, G0, G, s, items, t, s1, S0, ev, kk⟩ := h
  rw [evalSr] at ev
  obtain ⟨⟨⟨d1, t1⟩, s2⟩, e1, ev⟩ := obind ev
  obtain ⟨⟨⟨d2, t2⟩, s3⟩, e2, ev⟩ := obind ev
  obtain ⟨xs, e3, ev⟩ := obind ev
  obtain ⟨ys, e4, ev⟩ := obind ev
  dsimp only at ev e3 e4
  split at ev
  case isFalse => cases ev
  rename_i hk
  cases ev
  have es : evalEs (.cons a (.cons b .nil)) s = some ([(d1, t1), (d2, t2)], s3) := by
    simp [evalEs, e1, e2]
  have go : tAs (.cons a (.cons b .nil)) σ H fun vs H1 => ∃ p q xs ys, vs = [.ref p, .ref q] ∧ ((SqL K H1 p xs ∧ SqL K H1 q ys ∧ R (Itz K p q) H1) ∨ (SqT K H1 p xs ∧ SqT K H1 q ys ∧ R (RZ.ItzT K p q) H1)) := by
    refine ⟨pa, H0, G0, G, s, _, s3, S0, es, fun vs H1 G1 S1 E1 Rs => ?_⟩
    obtain ⟨G', S', E', _, rps⟩ := Rs.keep S1 E1
    match vs, rps with
    | [v, w], .cons r1 (.cons r2 .nil) =>
      have np : ∀ {c : Addr} {o : HO}, G' c = some o → ¬ pen1 pa c := fun hc n => by
        rw [S'.pen.free n] at hc; cases hc
      cases d1 with
      | list ds =>
        cases d2 with
        | list es =>
          cases e3; cases e4
          cases r1 with
          | lst h1 ra =>
            cases r2 with
            | lst h2 rb =>
              exact ⟨_, _, _, _, rfl, .inl ⟨.of (S'.sub _ _ h1), .of (S'.sub _ _ h2), kk _ H1 G' .non .none S' E' .non nofz ⟨sr_zip K (S'.sub _ _ h1) (np h1) ra (S'.sub _ _ h2) (np h2) rb, fun G2 k _ => (fsr_zip K h1 ra h2 rb).mono k⟩⟩⟩
        | _ => cases hk
      | tuple ds =>
        cases d2 with
        | tuple es =>
          cases e3; cases e4
          cases r1 with
          | tup h1 ra =>
            cases r2 with
            | tup h2 rb =>
              exact ⟨_, _, _, _, rfl, .inr ⟨(h1.up S'.sub).sq, (h2.up S'.sub).sq, kk _ H1 G' .non .none S' E' .non nofz ⟨sr_zipT K (h1.up S'.sub) (fun n => h1.there (S'.pen.free n)) ra (h2.up S'.sub) (fun n => h2.there (S'.pen.free n)) rb, fun G2 k _ => (fsr_zipT K h1 ra h2 rb).mono k⟩⟩⟩
        | _ => cases hk
      | _ => cases e3
  refine (key_cons go).mono fun v H1 q => (key_cons q).mono fun w H2 q => ?_
  obtain ⟨pa', H0', G0', G2, s4, xs', s5, S4, e5, k5⟩ := q
  rw [evalEs] at e5
  cases e5
  exact k5 [] H2 G2 S4 .refl trivial
theorem key_rng {a : IE} (h : tSr (.rng a) σ H R) : iRng1 (tCons (tI a) tNil) σ H R := by
  obtain ⟨pa, H0, G0, G, s, items, t, s1, S0, ev, kk⟩ := h
  rw [evalSr] at ev
  obtain ⟨⟨⟨d1, t1⟩, s2⟩, e1, ev⟩ := obind ev
  dsimp only at ev
  split at ev
  · split at ev
    · rename_i n hn
      cases ev
      refine tV_of S0 e1 fun v H1 G1 S1 E1 R1 N1 => ⟨n, by rw [(R1.top S1).int], hn.1, hn.2, kk _ H1 G1 .non .none S1 E1 .non nofz ?_⟩
      have q : ∀ G, SrOk false pa G H1 ((List.range n.toNat).map fun i => .int (0 + (i : Nat))) (Itr 0 n.toNat) := fun G => sr_rng
      have q2 : ∀ G, SrF false pa G ((List.range n.toNat).map fun i => .int (0 + (i : Nat))) (Itr 0 n.toNat) := fun G => fsr_rng
      simp only [Int.zero_add] at q q2
      exact ⟨q G1, fun G2 _ _ => q2 G2⟩
    · cases ev
  · cases ev
theorem key_rng2 {a b : IE} (h : tSr (.rng2 a b) σ H R) : iRng2 (tCons (tI a) (tCons (tI b) tNil)) σ H R := by
  obtain ⟨pa, H0, G0, G, s, items, t, s1, S0, ev, kk⟩ := h
  rw [evalSr] at ev
  obtain ⟨⟨⟨d1, t1⟩, s2⟩, e1, ev⟩ := obind ev
  obtain ⟨⟨⟨d2, t2⟩, s3⟩, e2, ev⟩ := obind ev
  dsimp only at ev
  split at ev
  · rename_i m n _
    split at ev
    · rename_i hn
      cases ev
      exact two S0 e1 e2 fun v w H2 G2 S2 E2 R1 N1 R2 N2 => ⟨m, n, by rw [(R1.top S2).int, (R2.top S2).int], hn, kk _ H2 G2 .non .none S2 E2 .non nofz ⟨sr_rng, fun _ _ _ => fsr_rng⟩⟩
    · cases ev
  · cases ev
theorem key_rng3 {a b c : IE} (h : tSr (.rng3 a b c) σ H R) : iRng3 (tCons (tI a) (tCons (tI b) (tCons (tI c) tNil))) σ H R := by
  obtain ⟨pa, H0, G0, G, s, items, t, s1, S0, ev, kk⟩ := h
  rw [evalSr] at ev
  obtain ⟨⟨⟨d1, t1⟩, s2⟩, e1, ev⟩ := obind ev
  obtain ⟨⟨⟨d2, t2⟩, s3⟩, e2, ev⟩ := obind ev
  obtain ⟨⟨⟨d3, t3⟩, s4⟩, e3, ev⟩ := obind ev
  dsimp only at ev
  split at ev
  · rename_i i j k _ _
    split at ev
    · rename_i hn
      cases ev
      refine tV_of S0 e1 fun v H1 G1 S1 E1 R1 N1 => tV_of S1 e2 fun w H2 G2 S2 E2 R2 N2 => tV_of S2 e3 fun u H3 G3 S3 E3 R3 N3 => ?_
      exact ⟨i, j, k, (Builtin.Range.rangeSize i j k).toNat, by rw [(R1.top S1).int, (R2.top S2).int, (R3.top S3).int], ⟨hn.1, hn.2.1, hn.2.2.1, by have := hn.2.2.2; omega⟩, kk _ H3 G3 .non .none S3 ((E1.trans S2 E2).trans S3 E3) .non nofz ⟨sr_rngC, fun _ _ _ => fsr_rngC⟩⟩
    · cases ev
  · cases ev
end
end Fs

set_option Elab.async false
set_option linter.all false
set_option maxRecDepth 100000
set_option maxHeartbeats 8000000
namespace Fs
open PySem L2 PySem.Spec PyProof.Rows
open Builtin.Slice
theorem places_rev (n : Nat) : slicePlaces ((n : Int) - 1) (-1) (-1) = n := by
  unfold slicePlaces
  split
  · rename_i z; exact absurd z (by decide)
  · split
    · rename_i z
      rw [show (-(-1) : Int) = 1 by decide, Int.ediv_one]; omega
    · omega
/-- the bounds of [::-1] -/
theorem bounds_rev {prog : Program} {w : World} {A : Around} {E : Value → Shared → Prop} {s : Shared} {sl : Addr} {vs : Value} {n : Nat} {Q : Int × Int × Nat → Shared → Prop} (isS : s.heap.IsSliceOf sl .none .none vs) (st : IsPart vs (some (-1)))
    (fin : Q ((n : Int) - 1, -1, n) s) : wpAny (model prog w) A (sliceApplied (.ref sl) (pure (n : Int))) Q E s := by
  obtain ⟨ob, at0, -, dat⟩ := isS
  unfold sliceApplied sliceFields
  refine wpAny_bind (wpAny_bind (wpAny_field at0 dat (x := .none) rfl (wpAny_bind (wpAny_field at0 dat (x := .none) rfl (wpAny_bind (wpAny_field at0 dat (x := vs) rfl (wpAny_pure (wpAny_bind (HT.slicePart_ st ?_)))))))))
  refine wpAny_ite_false (by decide) (wpAny_bind (HT.slicePart_ .none (wpAny_bind (HT.slicePart_ .none (wpAny_bind (wpAny_pure ?_))))))
  have z : ((n : Int) - 1, (-1 : Int), slicePlaces ((n : Int) - 1) (-1) (-1)) = ((n : Int) - 1, -1, n) := by rw [places_rev]
  exact wpAny_pure (z ▸ fin)
theorem picked_rev (us : List Value) : ((List.range us.toArray.size).filterMap fun (m : Nat) => us.toArray[((us.toArray.size : Int) - 1 + (m : Int) * (-1)).toNat]?).toArray = us.reverse.toArray := by
  congr 1
  refine List.ext_getElem? fun i => ?_
  have all : ∀ m ∈ List.range us.length, us[us.length - 1 - m]? = some (us.reverse.getD m .none) := fun m hm => by
    have hm := List.mem_range.mp hm
    rw [List.getD_eq_getElem?_getD, List.getElem?_reverse hm, List.getElem?_eq_getElem (by omega)]; rfl
  have e : (fun (m : Nat) => us.toArray[((us.toArray.size : Int) - 1 + (m : Int) * (-1)).toNat]?) = fun m => us[us.length - 1 - m]? := by
    funext m
    rw [List.size_toArray, List.getElem?_toArray, show ((us.length : Int) - 1 + (m : Int) * (-1)).toNat = us.length - 1 - m by omega]
  rw [e, List.size_toArray]
  have f : (List.range us.length).filterMap (fun m => us[us.length - 1 - m]?) = (List.range us.length).map fun m => us.reverse.getD m .none := by
    have go : ∀ l : List Nat, (∀ m ∈ l, us[us.length - 1 - m]? = some (us.reverse.getD m .none)) → l.filterMap (fun m => us[us.length - 1 - m]?) = l.map fun m => us.reverse.getD m .none := by
      intro l
      induction l with
      | nil => intro _; rfl
      | cons m l ih =>
        intro h
        rw [List.filterMap_cons, List.map_cons, ih fun k hk => h k (List.mem_cons_of_mem _ hk)]
        simp only [h m (List.mem_cons_self ..)]
    exact go _ all
  rw [f]
  by_cases hi : i < us.length
  · rw [List.getElem?_map, List.getElem?_range hi, List.getElem?_eq_getElem (by rw [List.length_reverse]; exact hi), Option.map_some, List.getD_eq_getElem?_getD, List.getElem?_eq_getElem (by rw [List.length_reverse]; exact hi)]; rfl
  · rw [List.getElem?_eq_none (by simp; omega), List.getElem?_eq_none (by simp; omega)]
theorem meets_rev (t sl : Addr) (us : List Value) (vs : Value) : Meets (Builtin.«tuple.__getitem__» ⟨[.ref t, .ref sl], []⟩) (fun _ R s => PyProof.Rows.IsTup s.heap t us.toArray ∧ s.heap.IsSliceOf sl .none .none vs ∧ IsPart vs (some (-1)) ∧ us.length ≤ sizeLine ∧
    R (.ok (.ret (.ref s.heap.objs.size))) { s with heap := s.heap.push (obT us.reverse) }) := by
  refine .of_wp fun prog w A R s ⟨isT, isS, st, small, fin⟩ => ?_
  have tyS : s.TypeIs (.ref sl) "slice" := isS.imp fun _ z => ⟨z.1, z.2.1⟩
  have fits : sizeOk (obT us.reverse).data := by
    show us.reverse.toArray.size ≤ sizeLine
    simpa using small
  show wpAny _ _ (Builtin.Tuple.tupleItemsOf (.ref t) >>= _) _ _ s
  refine wpAny_bind (PyProof.Rows.tupleItemsOf_ isT (wpAny_bind (wpAny_typeOf tyS ?_)))
  refine wpAny_ite_true (by decide) (wpAny_bind (bounds_rev isS st ?_))
  refine wpAny_ite_false (by simp) ?_
  rw [picked_rev]
  exact wpAny_bind (m := Builtin.Tuple.tupleExact _) (wpAny_newObj_type (wpAny_pure ⟨_, rfl, fin⟩) fits)
/-- x[::-1] of a tuple -/
def tRevT (K : PySem.W.Frag) (te : TE) : TE := fun σ H Q => te σ H fun x H1 => ∃ a xs, x = .ref a ∧ SqT K H1 a xs ∧ mkT H1 Q xs.reverse
theorem pe_revT {X : Cx} {e : Expr} {te : TE} {k : Nat} {p1 p2 p3 pos : Pos} (he : PE X e te) : PE X (.Subscript e (.Slice none none (some (.UnaryOp .USub (.Constant (.int 1) k p1) p2)) p3) pos) (tRevT X.K te) := by
  have step : PO X (some (.UnaryOp .USub (.Constant (.int 1) k p1) p2)) (tPart (tUn (rU fun i => .int (-i)) (tC (.int 1)))) := po_some (pe_un un_neg pe_int)
  refine ⟨fun ps0 s σ H Q I h => Subscript_ (thn (he.run ps0 s σ H _ I h) fun v s1 got => ?_)⟩
  obtain ⟨_, H1, I1, rel, a, xs, rfl, ha, q⟩ := got
  cases rel
  refine wpAny_Slice (thn (po_none.run ps0 s1 σ H1 (fun o J => o = none ∧ J = H1) I1 ⟨rfl, rfl⟩) fun lo s2 got => ?_)
  obtain ⟨_, _, I2, part1, rfl, rfl⟩ := got
  refine thn (po_none.run ps0 s2 σ _ (fun o J => o = none ∧ J = _) I2 ⟨rfl, rfl⟩) fun hi s3 got => ?_
  obtain ⟨_, _, I3, part2, rfl, rfl⟩ := got
  refine thn (step.run ps0 s3 σ _ (fun o J => o = some (-1) ∧ J = _) I3 ⟨1, rfl, -1, rfl, rfl, rfl⟩) fun by_ s4 got => ?_
  obtain ⟨_, J, I4, part3, rfl, rfl⟩ := got
  cases part1
  cases part2
  have grown := I4.kept (t' := s4.toks) (h' := s4.heap.push { cls := .type "slice", data := .fields #[.none, .none, by_] }) fun b ob z => Heap.get?_push_of_some _ z
  obtain ⟨us, ru, isT, small⟩ := grown.tuple ha
  refine tail_any (ops := [.ref a, .ref s4.heap.objs.size]) isT.typeIs PyProof.Rows.slot_tuple_getitem.lookup ?_ (by with_unfolding_all rfl)
  exact getItem_meets isT.typeIs (by decide) PySem.F.slot_tuple_getitem PySem.F.entry_tuple_getitem (PySem.F.args_tuple_getitem_2 _ _) (meets_rev a s4.heap.objs.size us by_) ⟨isT, Heap.IsSliceOf.new _ _ _ by_, part3, ru.length ▸ small, tup_new grown ru.reverse (by rw [List.length_reverse]; exact small) q⟩
theorem pe_revD {X : Cx} {e : Expr} {te : TE} {k : Nat} {p1 p2 p3 pos : Pos} (he : PE X e te) : PE X (.Subscript e (.Slice none none (some (.UnaryOp .USub (.Constant (.int 1) k p1) p2)) p3) pos) (fun σ H Q => tRevL X.K te σ H Q ∨ tRevT X.K te σ H Q) :=
  ⟨fun ps0 s σ H Q I h => h.elim (fun z => (pe_revL he).run ps0 s σ H Q I z) fun z => (pe_revT he).run ps0 s σ H Q I z⟩
theorem key_rev {K : PySem.W.Frag} {a : IE} {σ : L2.St} {H : Hp} {Q : VK} (h : tI (.blt .rev1 (.cons a .nil)) σ H Q) : tRevL K (tI a) σ H Q ∨ tRevT K (tI a) σ H Q := by
  obtain ⟨pa, H0, G0, G, s, d, t, s3, S0, e, kk⟩ := h
  rw [evalE] at e
  obtain ⟨⟨xs, s2⟩, e1, e⟩ := obind e
  obtain ⟨⟨d', fr⟩, e4, e⟩ := obind e
  cases e
  rw [evalEs] at e1
  obtain ⟨⟨⟨d1, t1⟩, s1⟩, e0, e1⟩ := obind e1
  obtain ⟨⟨ys, s4⟩, e2, e1⟩ := obind e1
  cases e1
  rw [evalEs] at e2
  cases e2
  change bltD .rev1 [d1] = _ at e4
  cases d1 with
  | list ds =>
    cases e4
    refine .inl (tV_of S0 e0 fun v H1 G1 S1 E1 R1 N1 => ?_)
    obtain ⟨b, us, rfl, hb, rb⟩ := (R1.top S1).lst
    exact ⟨b, us, rfl, .of hb, fun p hp => fin (fr := true) S1 E1 kk _ _ (.lst hp rb.rev)⟩
  | tuple ds =>
    cases e4
    refine .inr (tV_of S0 e0 fun v H1 G1 S1 E1 R1 N1 => ?_)
    obtain ⟨b, us, rfl, hb, rb⟩ := (R1.top S1).tup
    exact ⟨b, us, rfl, (hb.up S1.sub).sq, Res.tup (fun v H2 r => fin (fr := false) S1 E1 kk v H2 r) rb.rev⟩
  | _ => cases e4
def rCnt (tup : Bool) : V → List V → Hp → VK → Prop := fun x vs H Q => ∃ pa G xs v y, vs = [v] ∧ Sub G H ∧ RpT pa G H x (if tup then .tuple xs else .list xs) ∧ RpT pa G H v y ∧ (good 60 (.list xs) = true ∧ good 60 y = true) ∧ Q (.int ((xs.countP fun z => PyData.eqv z y : Nat) : Int)) H
theorem mt_count {X : Cx} (hu : X.A.units + 65 < cLine) : MtR X "list.count" (rCnt false) := by
  intro ps0 s σ H x vs v us Q I rx rv ⟨pa, G, xs, w, y, ev, gh, r1, r2, ⟨g1, g2⟩, q⟩
  subst ev
  obtain ⟨u2, rfl, ru⟩ := rv.one
  obtain ⟨as, q1⟩ := Dp.reads I (.list xs) x v (RpT.dp gh _ g1 r1) rx
  obtain ⟨bs, q2⟩ := Dp.reads I y w u2 (r2.dp gh _ g2) ru
  have px := PyData.plain_of_canLay0 _ (SeqAt.canLay_of_shaped (good_shaped g1))
  have deep := SeqAt.depth_of_shaped (good_shaped g2)
  have least := Nat.min_le_right (PyData.depthAll xs) y.depth
  obtain ⟨a, ws, rfl, -, -⟩ := RpT.lst r1
  cases rx
  cases q1 with
  | list h1 h2 h3 h4 => exact SeqAt.count_list_data ⟨_, h1, h2, _, h3⟩ h4 q2 (by simpa only [PyData.plain] using px) (PyData.plain_of_canLay0 _ (SeqAt.canLay_of_shaped (good_shaped g2))) (by omega) ⟨.int _, H, I.tok _, ⟨_, rfl⟩, q⟩
theorem mt_countT {X : Cx} (hu : X.A.units + 65 < cLine) : MtR X "tuple.count" (rCnt true) := by
  intro ps0 s σ H x vs v us Q I rx rv ⟨pa, G, xs, w, y, ev, gh, r1, r2, ⟨g1, g2⟩, q⟩
  subst ev
  obtain ⟨u2, rfl, ru⟩ := rv.one
  obtain ⟨as, q1⟩ := Dp.reads I (.tuple xs) x v (RpT.dp gh _ (n := 60) (by simpa [good] using g1) r1) rx
  obtain ⟨bs, q2⟩ := Dp.reads I y w u2 (r2.dp gh _ g2) ru
  have px := PyData.plain_of_canLay0 _ (SeqAt.canLay_of_shaped (good_shaped g1))
  have deep := SeqAt.depth_of_shaped (good_shaped g2)
  have least := Nat.min_le_right (PyData.depthAll xs) y.depth
  obtain ⟨a, ws, rfl, -, -⟩ := RpT.tup r1
  cases rx
  cases q1 with
  | tuple h1 h2 h3 h4 => exact SeqAt.count_tuple_data ⟨_, h1, h2, _, h3⟩ h4 q2 (by simpa only [PyData.plain] using px) (PyData.plain_of_canLay0 _ (SeqAt.canLay_of_shaped (good_shaped g2))) (by omega) ⟨.int _, H, I.tok _, ⟨_, rfl⟩, q⟩
/-- the receiver: a list, a tuple of ours -/
def tCnt (K : PySem.W.Frag) (to : TE) (t : TA) : TE := fun σ H Q => to σ H fun x H1 => (tyV K "list" x H1 ∧ t σ H1 fun vs H2 => rCnt false x vs H2 Q) ∨ ((∃ a xs, x = .ref a ∧ TupAt H1 a xs) ∧ t σ H1 fun vs H2 => rCnt true x vs H2 Q)
theorem pe_cnt {X : Cx} {o e : Expr} {to : TE} {t : TA} {apos cpos : Pos} (hu : X.A.units + 65 < cLine) (ho : PE X o to) (ha : L2.PA X [e] t) (hbase : attributeBase o "count" X.env (eval o X.env) = eval o X.env)
    (few : ((backTo cpos (starEach [e] X.env)).all (fun x => !x.1) && (backToKw cpos (keywordEach [] X.env)).all (fun x => x.1.isSome) && decide ([e].length + ([] : List Keyword).length + (if ([] : List Keyword).isEmpty then 0 else 1) < 30)) = true)
    (hline : (apos.endLine == cpos.line) = true) (hs : starEach [e] X.env = (false, eval e X.env) :: starEach [] X.env) : PE X (.Call (.Attribute o "count" apos) [e] [] cpos) (tCnt X.K to t) := by
  refine ⟨fun ps0 s σ H Q I h => wpAny_Call_method_late hbase few hline rfl (thn (ho.run ps0 s σ H _ I h) fun v s1 got => ?_)⟩
  obtain ⟨x, H1, I1, rel, got⟩ := got
  have rest : ∀ {id : String} {r : V → List V → Hp → VK → Prop}, MtR X id r → (t σ H1 fun vs H2 => r x vs H2 Q) → wpAny (model X.prog X.w) X.A (callWith cpos (.builtin id) [v] (backTo cpos (starEach [e] X.env)) (backToKw cpos (keywordEach [] X.env))) (EP X ps0 σ Q) X.xe s1 := fun {id r} m q => by
    have args := ha.run cpos ps0 s1 σ H1 _ I1 q
    rw [hs] at args ⊢
    exact Calls.callWith_builtin rfl (Calls.evalArgs_plain (thn args fun us s2 ⟨vs, H2, I2, r2, q2⟩ => m ps0 s2 σ H2 x vs v us Q I2 rel r2 q2))
  rcases got with ⟨ty, q⟩ | ⟨⟨a, xs, rfl, hT⟩, q⟩
  · obtain ⟨h1, h2⟩ := tyV_is I1 rel ty
    exact ⟨"list", _, PySem.F.plainAttrs_list, PySem.F.slot_list_count, PySem.F.type_list_count, h1, h2, rest (mt_count hu) q⟩
  · cases rel
    obtain ⟨ob, at1, bare⟩ := hT
    obtain ⟨here, -, _, _, ob2, at2, cls, -⟩ := I1.hok a _ at1
    exact ⟨"tuple", _, PySem.F.plainAttrs_tuple, PySem.F.slot_tuple_count, PySem.F.type_tuple_count, ⟨ob2, at2, cls⟩, fun b eb => by cases eb; exact ⟨ob, here, bare⟩, rest (mt_countT hu) q⟩
theorem few_one' {e : Expr} {cpos : Pos} {env : Env} (h : plX e = true) : ((backTo cpos (starEach [e] env)).all (fun x => !x.1) && (backToKw cpos (keywordEach [] env)).all (fun x => x.1.isSome)
      && decide ([e].length + ([] : List Keyword).length + (if ([] : List Keyword).isEmpty then 0 else 1) < 30)) = true := by
  rw [star_pl h]; rfl
theorem key_cnt {K : PySem.W.Frag} {i : Nat} {b : IE} {σ : L2.St} {H : Hp} {Q : VK} (h : tI (.blt .cnt (.cons (.var i) (.cons b .nil))) σ H Q) : tCnt K (tVar i) (tCons (tI b) tNil) σ H Q := by
  obtain ⟨pa, H0, G0, G, s, d, t, s3, S0, e, kk⟩ := h
  rw [evalE] at e
  obtain ⟨⟨xs, s2⟩, e1, e⟩ := obind e
  obtain ⟨⟨d', fr⟩, e4, e⟩ := obind e
  cases e
  rw [evalEs] at e1
  obtain ⟨⟨⟨d1, t1⟩, s1⟩, e0, e1⟩ := obind e1
  obtain ⟨⟨ys, s4⟩, e2, e1⟩ := obind e1
  cases e1
  rw [evalEs] at e2
  obtain ⟨⟨⟨d2, t2⟩, s5⟩, e3, e2⟩ := obind e2
  obtain ⟨⟨zs, s6⟩, e5, e2⟩ := obind e2
  rw [evalEs] at e5
  cases e5
  cases e2
  rw [evalE] at e0
  obtain ⟨⟨dd, f⟩, hp, e0⟩ := Option.map_eq_some_iff.mp e0
  cases e0
  have at1 : s.sl[i]? = some (some (dd, f)) := by
    unfold rd at hp
    obtain ⟨o, h1, h2⟩ := Option.bind_eq_some_iff.mp hp
    have h2 : o = some (dd, f) := h2
    rw [h1, h2]
  obtain ⟨v, ev, R⟩ : ∃ v, σ[i]? = some (some v) ∧ RT pa H0 G σ H s v dd (if f = true then .slot i else .fz) := by
    cases f with
    | true =>
      obtain ⟨a, xs, ds, e1, _⟩ := S0.ow i _ at1
      exact ⟨_, e1, ⟨true, at1, e1⟩⟩
    | false =>
      obtain ⟨v, e1, r⟩ := S0.fz i _ at1
      exact ⟨v, e1, r⟩
  change bltD .cnt [dd, d2] = _ at e4
  cases dd with
  | list ls =>
    change (if (good 60 (.list ls) && good 60 d2) = true then some (PyData.int ((ls.countP fun z => PyData.eqv z d2 : Nat) : Int), false) else none) = _ at e4
    split at e4
    · rename_i hz
      rw [Bool.and_eq_true] at hz
      cases e4
      obtain ⟨a, ws, ea, ha, ra⟩ := (R.top S0).lst
      subst ea
      refine ⟨.ref a, ev, .inl ⟨.inl ⟨rfl, ws, .of ha⟩, tV_of S0 e3 fun w H1 G1 S1 E1 R1 N1 => ?_⟩⟩
      exact ⟨pa, G1, ls, w, d2, rfl, S1.sub, (R.ext S1 E1).top S1, R1.top S1, hz, fin (fr := false) S1 E1 kk _ _ (.old (.int _))⟩
    · cases e4
  | tuple ls =>
    change (if (good 60 (.list ls) && good 60 d2) = true then some (PyData.int ((ls.countP fun z => PyData.eqv z d2 : Nat) : Int), false) else none) = _ at e4
    split at e4
    · rename_i hz
      rw [Bool.and_eq_true] at hz
      cases e4
      obtain ⟨a, ws, ea, ha, ra⟩ := (R.top S0).tup
      subst ea
      refine ⟨.ref a, ev, .inr ⟨⟨a, ws, rfl, ha.up S0.sub⟩, tV_of S0 e3 fun w H1 G1 S1 E1 R1 N1 => ?_⟩⟩
      exact ⟨pa, G1, ls, w, d2, rfl, S1.sub, (R.ext S1 E1).top S1, R1.top S1, hz, fin (fr := false) S1 E1 kk _ _ (.old (.int _))⟩
    · cases e4
  | _ => cases e4
def rIdx : V → List V → Hp → VK → Prop := fun x vs H Q => ∃ (pa : PA) (G : Hp) (bs : List Bool) (b : Bool), vs = [.bl b] ∧ Sub G H ∧ RpT pa G H x (.list (bs.map .bool)) ∧ b ∈ bs ∧ Q (.int ((bs.idxOf b : Nat) : Int)) H
theorem goods_bools (n : Nat) : ∀ bs : List Bool, goods n (bs.map PyData.bool) = true
  | [] => by rw [List.map_nil, goods]
  | b :: bs => by rw [List.map_cons, goods, goods_bools n bs, good]; rfl
theorem mt_index {X : Cx} (hu : X.A.units + 65 < cLine) : MtR X "list.index" rIdx := by
  intro ps0 s σ H x vs v us Q I rx rv ⟨pa, G, bs, b, ev, gh, r1, hb, q⟩
  subst ev
  obtain ⟨u2, rfl, ru⟩ := rv.one
  cases ru
  obtain ⟨as, q1⟩ := Dp.reads I (.list (bs.map .bool)) x v (RpT.dp gh _ (n := 60) (by rw [good]; exact goods_bools _ bs) r1) rx
  obtain ⟨a, ws, rfl, ha, ra⟩ := RpT.lst r1
  obtain ⟨_, _, _, small⟩ := I.list (.of ha)
  have len2 := ra.len
  rw [List.length_map] at len2
  cases rx
  cases q1 with
  | list h1 h2 h3 h4 =>
    rename_i vs0 _ _
    refine PySem.W.index_list_datum (α := Bool) (x := b) (xs := bs) (vs := vs0.toList) ⟨_, h1, h2, _, by rw [Array.toArray_toList]; exact h3⟩ ⟨_, h4⟩ ⟨_, Reads.bool b⟩ ?_ ?_ hb ⟨.int _, H, I.tok _, ⟨_, rfl⟩, q⟩
    · show X.A.units + 1 + 0 < cLine
      omega
    · omega
theorem boolsOf_some : ∀ {ds : List D} {bs : List Bool}, boolsOf ds = some bs → ds = bs.map .bool
  | [], bs, h => by cases h; rfl
  | .bool b :: r, bs, h => by
    obtain ⟨cs, h1, rfl⟩ := Option.map_eq_some_iff.mp h
    rw [boolsOf_some h1]; rfl
  | .none :: _, _, h => by cases h
  | .int _ :: _, _, h => by cases h
  | .str _ :: _, _, h => by cases h
  | .list _ :: _, _, h => by cases h
  | .tuple _ :: _, _, h => by cases h
  | .dict _ :: _, _, h => by cases h
theorem key_idx {K : PySem.W.Frag} {i : Nat} {b : IE} {σ : L2.St} {H : Hp} {Q : VK} (h : tI (.blt .idx (.cons (.var i) (.cons b .nil))) σ H Q) : tBM K "list" rIdx (tVar i) (tCons (tI b) tNil) σ H Q := by
  obtain ⟨pa, H0, G0, G, s, d, t, s3, S0, e, kk⟩ := h
  rw [evalE] at e
  obtain ⟨⟨xs, s2⟩, e1, e⟩ := obind e
  obtain ⟨⟨d', fr⟩, e4, e⟩ := obind e
  cases e
  rw [evalEs] at e1
  obtain ⟨⟨⟨d1, t1⟩, s1⟩, e0, e1⟩ := obind e1
  obtain ⟨⟨ys, s4⟩, e2, e1⟩ := obind e1
  cases e1
  rw [evalEs] at e2
  obtain ⟨⟨⟨d2, t2⟩, s5⟩, e3, e2⟩ := obind e2
  obtain ⟨⟨zs, s6⟩, e5, e2⟩ := obind e2
  rw [evalEs] at e5
  cases e5
  cases e2
  rw [evalE] at e0
  obtain ⟨⟨dd, f⟩, hp, e0⟩ := Option.map_eq_some_iff.mp e0
  cases e0
  have at1 : s.sl[i]? = some (some (dd, f)) := by
    unfold rd at hp
    obtain ⟨o, h1, h2⟩ := Option.bind_eq_some_iff.mp hp
    have h2 : o = some (dd, f) := h2
    rw [h1, h2]
  obtain ⟨v, ev, R⟩ : ∃ v, σ[i]? = some (some v) ∧ RT pa H0 G σ H s v dd (if f = true then .slot i else .fz) := by
    cases f with
    | true =>
      obtain ⟨a, xs, ds, e1, _⟩ := S0.ow i _ at1
      exact ⟨_, e1, ⟨true, at1, e1⟩⟩
    | false =>
      obtain ⟨v, e1, r⟩ := S0.fz i _ at1
      exact ⟨v, e1, r⟩
  change bltD .idx [dd, d2] = _ at e4
  cases dd with
  | list ls =>
    cases d2 with
    | bool y =>
      change ((boolsOf ls).bind fun bs => if y ∈ bs then some (PyData.int (bs.idxOf y : Nat), false) else none) = _ at e4
      obtain ⟨bs, hbs, e4⟩ := Option.bind_eq_some_iff.mp e4
      split at e4
      · rename_i hz
        cases e4
        have el := boolsOf_some hbs
        subst el
        obtain ⟨a, ws, ea, ha, ra⟩ := (R.top S0).lst
        subst ea
        refine ⟨.ref a, ev, .inl ⟨rfl, ws, .of ha⟩, tV_of S0 e3 fun w H1 G1 S1 E1 R1 N1 => ?_⟩
        exact ⟨pa, G1, bs, y, by rw [(R1.top S1).bl], S1.sub, (R.ext S1 E1).top S1, hz, fin (fr := false) S1 E1 kk _ _ (.old (.int _))⟩
      · cases e4
    | _ => cases e4
  | _ => cases e4
theorem seq_top {K : PySem.W.Frag} {pa : PA} {H0 G0 G H : Hp} {σ : L2.St} {s : S} {v : V} {d : D} {ds : List D} (S1 : Sim pa H0 G0 G σ H s) (r : RpT pa G H v d) (h : seqD d = some ds) :
    ∃ p ws, v = V.ref p ∧ (SqT K H p ws ∨ SqL K H p ws) ∧ Rps pa G ws ds := by
  cases d with
  | tuple xs =>
    cases h
    obtain ⟨a, ws, rfl, ha, ra⟩ := RpT.tup r
    exact ⟨a, ws, rfl, .inl (ha.up S1.sub).sq, ra⟩
  | list xs =>
    cases h
    obtain ⟨a, ws, rfl, ha, ra⟩ := RpT.lst r
    exact ⟨a, ws, rfl, .inr (.of ha), ra⟩
  | _ => cases h
theorem hard_top {pa : PA} {G H : Hp} {v : V} {d : D} (r : RpT pa G H v d) (h : hardD d = true) : Rp pa G v d := by
  cases d with
  | list xs => cases h
  | dict xs => cases h
  | _ => exact r
theorem stp_some {d1 d2 d : D} {fr : Bool} (e : bltD .stp [d1, d2] = some (d, fr)) : ∃ ds, seqD d1 = some ds ∧ hardD d2 = true ∧ ds.length ≤ 1000 ∧ d = .tuple (ds ++ [d2]) ∧ fr = false := by
  have e : ((seqD d1).bind fun xs => if (hardD d2 && decide (xs.length ≤ 1000)) = true then some (PyData.tuple (xs ++ [d2]), false) else none) = some (d, fr) := e
  obtain ⟨ds, h1, h2⟩ := Option.bind_eq_some_iff.mp e
  split at h2
  · rename_i z
    rw [Bool.and_eq_true] at z
    obtain ⟨z1, z2⟩ := z
    cases h2
    exact ⟨ds, h1, z1, of_decide_eq_true z2, rfl, rfl⟩
  · cases h2
theorem stl_some {d1 d2 d : D} {fr : Bool} (e : bltD .stl [d1, d2] = some (d, fr)) : ∃ ds, seqD d1 = some ds ∧ hardD d2 = true ∧ ds.length ≤ 1000 ∧ d = .list (ds ++ [d2]) ∧ fr = true := by
  have e : ((seqD d1).bind fun xs => if (hardD d2 && decide (xs.length ≤ 1000)) = true then some (PyData.list (xs ++ [d2]), true) else none) = some (d, fr) := e
  obtain ⟨ds, h1, h2⟩ := Option.bind_eq_some_iff.mp e
  split at h2
  · rename_i z
    rw [Bool.and_eq_true] at z
    obtain ⟨z1, z2⟩ := z
    cases h2
    exact ⟨ds, h1, z1, of_decide_eq_true z2, rfl, rfl⟩
  · cases h2
theorem sth_some {d1 d2 d : D} {fr : Bool} (e : bltD .sth [d1, d2] = some (d, fr)) : ∃ ds, seqD d2 = some ds ∧ hardD d1 = true ∧ ds.length ≤ 1000 ∧ d = .list (d1 :: ds) ∧ fr = true := by
  have e : ((seqD d2).bind fun xs => if (hardD d1 && decide (xs.length ≤ 1000)) = true then some (PyData.list (d1 :: xs), true) else none) = some (d, fr) := e
  obtain ⟨ds, h1, h2⟩ := Option.bind_eq_some_iff.mp e
  split at h2
  · rename_i z
    rw [Bool.and_eq_true] at z
    obtain ⟨z1, z2⟩ := z
    cases h2
    exact ⟨ds, h1, z1, of_decide_eq_true z2, rfl, rfl⟩
  · cases h2
theorem st3_some {d1 d2 d3 d : D} {fr : Bool} (e : bltD .st3 [d1, d2, d3] = some (d, fr)) : ∃ ds zs, seqD d1 = some ds ∧ seqD d3 = some zs ∧ hardD d2 = true ∧ ds.length ≤ 1000 ∧ zs.length ≤ 1000 ∧ d = .tuple (ds ++ (d2 :: zs)) ∧ fr = false := by
  have e : ((seqD d1).bind fun xs => (seqD d3).bind fun zs => if (hardD d2 && (decide (xs.length ≤ 1000) && decide (zs.length ≤ 1000))) = true then some (PyData.tuple (xs ++ (d2 :: zs)), false) else none) = some (d, fr) := e
  obtain ⟨ds, h1, h2⟩ := Option.bind_eq_some_iff.mp e
  obtain ⟨zs, h3, h2⟩ := Option.bind_eq_some_iff.mp h2
  split at h2
  · rename_i z
    rw [Bool.and_eq_true, Bool.and_eq_true] at z
    obtain ⟨z1, z2, z3⟩ := z
    cases h2
    exact ⟨ds, zs, h1, h3, z1, of_decide_eq_true z2, of_decide_eq_true z3, rfl, rfl⟩
  · cases h2
theorem key_stp {K : PySem.W.Frag} {a b : IE} {σ : L2.St} {H : Hp} {Q : VK} (h : tI (.blt .stp (.cons a (.cons b .nil))) σ H Q) : tTupF (StX.tStar K (tI a) (tCons (tI b) tNil)) σ H Q := by
  obtain ⟨pa, H0, G0, G, s, d, t, s3, S0, e, kk⟩ := h
  rw [evalE] at e
  obtain ⟨⟨xs, s2⟩, e1, e⟩ := obind e
  obtain ⟨⟨d', fr⟩, e4, e⟩ := obind e
  cases e
  rw [evalEs] at e1
  obtain ⟨⟨⟨d1, t1⟩, s1⟩, e0, e1⟩ := obind e1
  obtain ⟨⟨ys, s4⟩, e2, e1⟩ := obind e1
  cases e1
  rw [evalEs] at e2
  obtain ⟨⟨⟨d2, t2⟩, s5⟩, e3, e2⟩ := obind e2
  obtain ⟨⟨zs, s6⟩, e5, e2⟩ := obind e2
  rw [evalEs] at e5
  cases e5
  cases e2
  obtain ⟨ds, hx, hy, hl, rfl, rfl⟩ := stp_some e4
  refine tV_of S0 e0 fun v H1 G1 S1 E1 R1 N1 => ?_
  obtain ⟨p, ws, rfl, hp, ra⟩ := seq_top (K := K) S1 (R1.top S1) hx
  refine ⟨p, ws, rfl, hp, tV_of S1 e3 fun w H2 G2 S2 E2 R2 N2 => ?_⟩
  have rps : Rps pa G2 (ws ++ [w]) (ds ++ [d2]) := (Rps.mono E2.gk ra).app (.cons (hard_top (R2.top S2) hy) .nil)
  exact ⟨by rw [rps.len, List.length_append]; exact Nat.le_trans (Nat.add_le_add_right hl 1) (by decide), Res.tup (fun v H2 r => fin (fr := false) S2 (E1.trans S2 E2) kk v H2 r) rps⟩
theorem key_stl {K : PySem.W.Frag} {a b : IE} {σ : L2.St} {H : Hp} {Q : VK} (h : tI (.blt .stl (.cons a (.cons b .nil))) σ H Q) : tLst (StX.tStar K (tI a) (tCons (tI b) tNil)) σ H Q := by
  obtain ⟨pa, H0, G0, G, s, d, t, s3, S0, e, kk⟩ := h
  rw [evalE] at e
  obtain ⟨⟨xs, s2⟩, e1, e⟩ := obind e
  obtain ⟨⟨d', fr⟩, e4, e⟩ := obind e
  cases e
  rw [evalEs] at e1
  obtain ⟨⟨⟨d1, t1⟩, s1⟩, e0, e1⟩ := obind e1
  obtain ⟨⟨ys, s4⟩, e2, e1⟩ := obind e1
  cases e1
  rw [evalEs] at e2
  obtain ⟨⟨⟨d2, t2⟩, s5⟩, e3, e2⟩ := obind e2
  obtain ⟨⟨zs, s6⟩, e5, e2⟩ := obind e2
  rw [evalEs] at e5
  cases e5
  cases e2
  obtain ⟨ds, hx, hy, hl, rfl, rfl⟩ := stl_some e4
  refine tV_of S0 e0 fun v H1 G1 S1 E1 R1 N1 => ?_
  obtain ⟨p, ws, rfl, hp, ra⟩ := seq_top (K := K) S1 (R1.top S1) hx
  refine ⟨p, ws, rfl, hp, tV_of S1 e3 fun w H2 G2 S2 E2 R2 N2 => ?_⟩
  have rps : Rps pa G2 (ws ++ [w]) (ds ++ [d2]) := (Rps.mono E2.gk ra).app (.cons (hard_top (R2.top S2) hy) .nil)
  exact ⟨by rw [rps.len, List.length_append]; exact Nat.le_trans (Nat.add_le_add_right hl 1) (by decide), fun q hq => fin (fr := true) S2 (E1.trans S2 E2) kk _ _ (.lst hq rps)⟩
theorem key_sth {K : PySem.W.Frag} {a b : IE} {σ : L2.St} {H : Hp} {Q : VK} (h : tI (.blt .sth (.cons a (.cons b .nil))) σ H Q) : tLst (tCons (tI a) (StX.tStar K (tI b) tNil)) σ H Q := by
  obtain ⟨pa, H0, G0, G, s, d, t, s3, S0, e, kk⟩ := h
  rw [evalE] at e
  obtain ⟨⟨xs, s2⟩, e1, e⟩ := obind e
  obtain ⟨⟨d', fr⟩, e4, e⟩ := obind e
  cases e
  rw [evalEs] at e1
  obtain ⟨⟨⟨d1, t1⟩, s1⟩, e0, e1⟩ := obind e1
  obtain ⟨⟨ys, s4⟩, e2, e1⟩ := obind e1
  cases e1
  rw [evalEs] at e2
  obtain ⟨⟨⟨d2, t2⟩, s5⟩, e3, e2⟩ := obind e2
  obtain ⟨⟨zs, s6⟩, e5, e2⟩ := obind e2
  rw [evalEs] at e5
  cases e5
  cases e2
  obtain ⟨ds, hx, hy, hl, rfl, rfl⟩ := sth_some e4
  refine tV_of S0 e0 fun v H1 G1 S1 E1 R1 N1 => ?_
  refine tV_of S1 e3 fun w H2 G2 S2 E2 R2 N2 => ?_
  obtain ⟨p, ws, rfl, hp, ra⟩ := seq_top (K := K) S2 (R2.top S2) hx
  refine ⟨p, ws, rfl, hp, ?_⟩
  have rps : Rps pa G2 (v :: (ws ++ [])) (d1 :: ds) := .cons ((hard_top (R1.top S1) hy).mono E2.gk) (by rw [List.append_nil]; exact ra)
  exact ⟨by rw [rps.len, List.length_cons]; exact Nat.le_trans (Nat.add_le_add_right hl 1) (by decide), fun q hq => fin (fr := true) S2 (E1.trans S2 E2) kk _ _ (.lst hq rps)⟩
theorem key_st3 {K : PySem.W.Frag} {a b c : IE} {σ : L2.St} {H : Hp} {Q : VK} (h : tI (.blt .st3 (.cons a (.cons b (.cons c .nil)))) σ H Q) : tTupF (StX.tStar K (tI a) (tCons (tI b) (StX.tStar K (tI c) tNil))) σ H Q := by
  obtain ⟨pa, H0, G0, G, s, d, t, s3, S0, e, kk⟩ := h
  rw [evalE] at e
  obtain ⟨⟨xs, s2⟩, e1, e⟩ := obind e
  obtain ⟨⟨d', fr⟩, e4, e⟩ := obind e
  cases e
  rw [evalEs] at e1
  obtain ⟨⟨⟨d1, t1⟩, s1⟩, e0, e1⟩ := obind e1
  obtain ⟨⟨ys, s4⟩, e2, e1⟩ := obind e1
  cases e1
  rw [evalEs] at e2
  obtain ⟨⟨⟨d2, t2⟩, s5⟩, e3, e2⟩ := obind e2
  obtain ⟨⟨zs, s6⟩, e5, e2⟩ := obind e2
  cases e2
  rw [evalEs] at e5
  obtain ⟨⟨⟨d3, t3⟩, s7⟩, e6, e5⟩ := obind e5
  obtain ⟨⟨us, s8⟩, e7, e5⟩ := obind e5
  rw [evalEs] at e7
  cases e7
  cases e5
  obtain ⟨ds, fs, hx, hz, hy, hl, hl2, rfl, rfl⟩ := st3_some e4
  refine tV_of S0 e0 fun v H1 G1 S1 E1 R1 N1 => ?_
  obtain ⟨p, ws, rfl, hp, ra⟩ := seq_top (K := K) S1 (R1.top S1) hx
  refine ⟨p, ws, rfl, hp, tV_of S1 e3 fun w H2 G2 S2 E2 R2 N2 => tV_of S2 e6 fun u H3 G3 S3 E3 R3 N3 => ?_⟩
  obtain ⟨q, gs, rfl, hq, rc⟩ := seq_top (K := K) S3 (R3.top S3) hz
  refine ⟨q, gs, rfl, hq, ?_⟩
  have E12 := E1.trans S2 E2
  have rps : Rps pa G3 (ws ++ (w :: (gs ++ []))) (ds ++ (d2 :: fs)) := (Rps.mono E3.gk (Rps.mono E2.gk ra)).app (.cons (Rp.mono E3.gk (hard_top (R2.top S2) hy)) (by rw [List.append_nil]; exact rc))
  refine ⟨?_, Res.tup (fun v H2 r => fin (fr := false) S3 (E12.trans S3 E3) kk v H2 r) rps⟩
  rw [rps.len, List.length_append, List.length_cons]
  exact Nat.le_trans (Nat.add_le_add hl (Nat.succ_le_succ hl2)) (by decide)
end Fs

set_option Elab.async false
set_option linter.all false
set_option maxRecDepth 100000
set_option maxHeartbeats 4000000
namespace Fs
open PySem PySem.Spec PyProof.Rows L2

section
variable {X : Cx} {a b c d : Expr} {pos : Pos} {ta tb tc td : TE}
/-- a op1 b op2 c op3 d -/
def tChain3 (r r' r'' : R2) (ta tb tc td : TE) : TE := fun σ H Q => ta σ H fun x H1 => tb σ H1 fun y H2 => r x y H2 fun z H3 => ∃ k, z = .bl k ∧
  (if k = true then tc σ H3 fun w H4 => r' y w H4 fun z2 H5 => ∃ m, z2 = .bl m ∧ (if m = true then td σ H5 fun u H6 => r'' w u H6 Q else Q (.bl false) H5) else Q (.bl false) H3)
theorem pe_chain3 {op op' op'' : CmpOp} {r r' r'' : R2} (ho : OpR X (compareOp op) r) (ho' : OpR X (compareOp op') r') (ho'' : OpR X (compareOp op'') r'') (ha : PE X a ta) (hb : PE X b tb) (hc : PE X c tc) (hd : PE X d td)
    (hm : lastMarks [op, op', op''] [b, c, d] = false) : PE X (.Compare a [op, op', op''] [b, c, d] pos) (tChain3 r r' r'' ta tb tc td) := by
  refine ⟨fun pins s σ H Q I h => ?_⟩
  refine Compare_chain (thn (ha.run pins s σ H _ I h) fun v s1 ⟨x, H1, I1, r1, q1⟩ => chain_link (thn (hb.run pins s1 σ H1 _ I1 q1) fun u s2 ⟨y, H2, I2, r2, q2⟩ =>
    thn (ho pins s2 σ H2 x y v u _ I2 r1 r2 q2) fun d' s3 ⟨z, H3, I3, r3, k, e, q3⟩ => ?_)) hm
  subst e
  cases r3
  refine wpAny_truthy_bool ?_
  cases k with
  | false => exact ite_ff ⟨.bl false, H3, I3, rfl, q3⟩
  | true =>
    refine ite_tt (chain_link (thn (hc.run pins s3 σ H3 _ I3 q3) fun w' s4 ⟨z', H4, I4, r4, q4⟩ => thn (ho' pins s4 σ H4 y z' u w' _ I4 r2 r4 q4) fun d2 s5 ⟨z2, H5, I5, r5, m, e2, q5⟩ => ?_))
    subst e2
    cases r5
    refine wpAny_truthy_bool ?_
    cases m with
    | false => exact ite_ff ⟨.bl false, H5, I5, rfl, q5⟩
    | true => exact ite_tt (chain_last (thn (hd.run pins s5 σ H5 _ I5 q5) fun u2 s6 ⟨y2, H6, I6, r6, q6⟩ => ho'' pins s6 σ H6 z' y2 w' u2 Q I6 r4 r6 q6))
theorem pt_chain3 {op op' op'' : CmpOp} {r r' r'' : R2} (ho : OpR X (compareOp op) r) (ho' : OpR X (compareOp op') r') (ho'' : OpR X (compareOp op'') r'') (ha : PE X a ta) (hb : PE X b tb) (hc : PE X c tc) (hd : PE X d td)
    (hm : lastMarks [op, op', op''] [b, c, d] = false) : PT X (.Compare a [op, op', op''] [b, c, d] pos) (tTest (tChain3 r r' r'' ta tb tc td)) := by
  refine ⟨fun pins s σ H Q I h => ?_⟩
  refine isTrue_chain (thn (ha.run pins s σ H _ I h) fun v s1 ⟨x, H1, I1, r1, q1⟩ => test_link (thn (hb.run pins s1 σ H1 _ I1 q1) fun u s2 ⟨y, H2, I2, r2, q2⟩ =>
    thn (ho pins s2 σ H2 x y v u _ I2 r1 r2 q2) fun d' s3 ⟨z, H3, I3, r3, k, e, q3⟩ => ?_)) hm
  subst e
  cases r3
  refine wpAny_truthy_bool ?_
  cases k with
  | false =>
    obtain ⟨k', e', q'⟩ := q3
    cases e'
    exact ite_ff ⟨H3, I3, q'⟩
  | true =>
    refine ite_tt (test_link (thn (hc.run pins s3 σ H3 _ I3 q3) fun w' s4 ⟨z', H4, I4, r4, q4⟩ => thn (ho' pins s4 σ H4 y z' u w' _ I4 r2 r4 q4) fun d2 s5 ⟨z2, H5, I5, r5, m, e2, q5⟩ => ?_))
    subst e2
    cases r5
    refine wpAny_truthy_bool ?_
    cases m with
    | false =>
      obtain ⟨k', e', q'⟩ := q5
      cases e'
      exact ite_ff ⟨H5, I5, q'⟩
    | true =>
      refine ite_tt (test_last (thn (hd.run pins s5 σ H5 _ I5 q5) fun u2 s6 ⟨y2, H6, I6, r6, q6⟩ => thn (ho'' pins s6 σ H6 z' y2 w' u2 _ I6 r4 r6 q6) fun d3 s7 ⟨z3, H7, I7, r7, k3, e3, q7⟩ => ?_))
      subst e3
      cases r7
      exact wpAny_truthy_bool ⟨H7, I7, q7⟩
theorem lastMarks3 {o p q : CmpOp} {b c d : Expr} (h : plX d = true) : lastMarks [o, p, q] [b, c, d] = false := mark_pl h
end

/-- f(*e) -/
theorem pe_gcallS {X : Cx} {k : Nat} {f : Addr} {fd : FuncData} {ps : List Str} {sp : GSp} {x : Str} {p pos sp_ : Pos} {e : Expr} {te : TE}
    (F : GFn (wdOf X) k f fd ps sp) (hr : Room k X.A) (hgd : X.A.guards = some []) (hg : Gl X x) (hm : X.mg x = some (.ref f)) (hk : PySem.W.keepIn X.K (.ref f) = true) (hb : Binds X.K fd ps []) (he : PE X e te)
    (hdb : (x == ("__debug__" : Str)) = false) (hst : starEach [.Starred e sp_] X.env = [(true, eval e X.env)] := by rfl) :
    PE X (.Call (.Name x p) [.Starred e sp_] [] pos) (fun σ H Q => te σ H fun y H1 => ∃ a xs, y = V.ref a ∧ (SqT X.K H1 a xs ∨ SqL X.K H1 a xs) ∧ sp xs H1 Q) := by
  refine ⟨fun pins s σ H Q I h => ?_⟩
  refine wpAny_Call_Name_kw (ld_glob I hg hm ?_ hdb)
  refine PySem.W.callWith_S (h₀ := X.base) I.ok.mod.kin hk (thn (he.run pins s σ H _ I h) fun v s1 ⟨y, H1, I1, ry, a, xs, ey, hxs, q⟩ => ?_) hst
  subst ey
  obtain rfl : v = Value.ref a := ry
  refine StX.star_any I1 hxs fun us s2 I2 r => ⟨I2.kIn, ?_⟩
  have n1 : (us ++ ([] : List Value)).length = ps.length := by rw [List.append_nil, ← r.length]; exact F.len _ _ _ q
  have b1 := hb s2 us I2.kIn n1
  rw [List.append_nil] at b1
  refine wpAny_call (codeAny_mono (F.run X.A X.stack s2 H1 ⟨us, []⟩ us xs Q hr hgd I2.env0 b1 r q) fun r s' got => ?_)
  match r, got with
  | .ok (.ret u), got => exact I2.after got

section
variable {X : Cx} {d : Addr} {es : Array DictEntry} {n : Nat} {o e f : Expr} {apos cpos : Pos} {ty tx : TE}
theorem ix_tab (D : KDict X.K X.w d es n) : IxR X (fun x y H Q => ∃ (z : Str) (u0 : Value) (v0 : V), x = .ref d ∧ y = .str z ∧ PySem.W.nsIn X.K d z = some (some u0) ∧ RelV v0 u0 ∧ Q v0 H) := by
  intro value slice pins s σ H x y v u Q I rx ry h hs
  have h0 := h
  obtain ⟨z, u0, v0, rfl, rfl, e, r, q⟩ := h
  have rx0 := rx
  cases rx
  exact tail_any (kd_type D I) PySem.F.slot_dict_getitem.lookup (op_item_kd D pins s σ H _ _ _ _ Q I rx0 ry h0) hs
theorem pe_tabGet (D : KDict X.K X.w d es n) (ho : PE X o (tC (.ref d))) (he : PE X e ty) (hf : PE X f tx) (m : M2 X o "get" apos e f cpos) :
    PE X (.Call (.Attribute o "get" apos) [e, f] [] cpos) (fun σ H Q => ty σ H fun y H1 => tx σ H1 fun z H2 => ∃ (t : Str) (r : Option Value) (g : V), y = .str t ∧ PySem.W.nsIn X.K d t = some r ∧ (∀ rz, RelV z rz → RelV g (r.getD rz)) ∧ Q g H2) := by
  refine ⟨fun pins s σ H Q I h => ?_⟩
  refine wpAny_Call_method m.base m.few m.line PySem.F.plainAttrs_dict PySem.F.slot_dict_get PySem.F.type_dict_get (thn (ho.run pins s σ H (fun x H1 => x = .ref d ∧ ty σ H1 fun y H2 => tx σ H2 fun z H3 => ∃ (t : Str) (r : Option Value) (g : V), y = .str t ∧ PySem.W.nsIn X.K d t = some r ∧ (∀ rz, RelV z rz → RelV g (r.getD rz)) ∧ Q g H3) I ⟨rfl, h⟩) fun u s1 ⟨x, H1, I1, rx, ex, q1⟩ => ?_)
  subst ex
  obtain rfl : u = Value.ref d := rx
  have mp := PySem.W.mapOf_K (prog := X.prog) (w := X.w) I1.kIn D.at_ D.lit
  refine ⟨mp.typeIs, mp.noDict, ?_⟩
  rw [m.trees]
  refine Calls.callWith_builtin rfl (Calls.evalArgs_plain (Calls.spliced_cons (thn (he.run pins s1 σ H1 _ I1 q1) fun iv s2 ⟨y, H2, I2, ry, q2⟩ =>
    Calls.spliced_cons (thn (hf.run pins s2 σ H2 _ I2 q2) fun fv s3 ⟨z, H3, I3, rz, t, r, g, ey, en, hg, q3⟩ => Calls.spliced_nil ?_))))
  subst ey
  obtain ⟨tk, rfl⟩ := ry
  have mp3 := PySem.W.mapOf_K (prog := X.prog) (w := X.w) I3.kIn D.at_ D.lit
  refine call_meetsIn PySem.F.slot_dict_get mp3.typeIs PySem.F.entry_dict_get (PySem.F.args_dict_get_3 _ _ _) (meets_dict_get_default (strKind X.prog X.w) d (PySem.strKind_is X.prog X.w t tk) D.low fv) ⟨_, mp3, ?_⟩
  rw [PySem.W.find_K D.at_ en]
  exact ⟨g, H3, I3.tok _, hg _ rz, q3⟩
end
section
variable {k : Nat} {X : Cx} {σ : L2.St} {H : Hp} {Q : VK}
theorem key_cmp3 {o p q : CmpOp} {a b c d : IE} (h : tI (.cmp3 o p q a b c d) σ H Q) : tChain3 (rC2 o) (rC2 p) (rC2 q) (tI a) (tI b) (tI c) (tI d) σ H Q := by
  obtain ⟨pa, H0, G0, G, s, d0, t, s3, S0, e, kk⟩ := h
  rw [evalE] at e
  obtain ⟨⟨⟨d1, t1⟩, s1⟩, e1, e⟩ := obind e
  obtain ⟨⟨⟨d2, t2⟩, s2⟩, e2, e⟩ := obind e
  obtain ⟨b1, e3, e⟩ := obind e
  refine two S0 e1 e2 fun v w H2 G2 S2 E2 R1 N1 R2 N2 => ⟨pa, G2, d1, d2, b1, S2.sub, R1.top S2, R2.top S2, e3, b1, rfl, ?_⟩
  cases b1 with
  | true =>
    rw [if_pos rfl] at e ⊢
    obtain ⟨⟨⟨d3, t3⟩, s4⟩, e4, e⟩ := obind e
    obtain ⟨m, e5, e⟩ := obind e
    refine tV_of S2 e4 fun z H3 G3 S3 E3 R3 N3 => ⟨pa, G3, d2, d3, m, S3.sub, (R2.ext S3 E3).top S3, R3.top S3, e5, m, rfl, ?_⟩
    cases m with
    | true =>
      rw [if_pos rfl] at e ⊢
      obtain ⟨⟨⟨d4, t4⟩, s5⟩, e6, e⟩ := obind e
      obtain ⟨j, e7, e⟩ := obind e
      cases e
      exact tV_of S3 e6 fun z2 H4 G4 S4 E4 R4 N4 => ⟨pa, G4, d3, d4, j, S4.sub, (R3.ext S4 E4).top S4, R4.top S4, e7, kk _ H4 G4 S4 ((E2.trans S3 E3).trans S4 E4) (.bl j) nofz⟩
    | false =>
      rw [if_neg (by decide)] at e ⊢
      cases e
      exact kk _ H3 G3 S3 (E2.trans S3 E3) (.bl false) nofz
  | false =>
    rw [if_neg (by decide)] at e ⊢
    cases e
    exact kk _ H2 G2 S2 E2 (.bl false) nofz
theorem tupD_some {d : D} {ds : List D} (h : tupD d = some ds) : d = .tuple ds := by
  unfold tupD at h
  split at h
  · cases h; rfl
  · cases h
theorem key_calS {K : PySem.W.Frag} {x : Str} {F : Fn} {n : Nat} {a : IE} (h : tI (.calS x F n a) σ H Q) : tI a σ H fun y H1 => ∃ p xs, y = V.ref p ∧ (SqT K H1 p xs ∨ SqL K H1 p xs) ∧ spF F n xs H1 Q := by
  obtain ⟨pa, H0, G0, G, s, d, t, s2, S0, e, kk⟩ := h
  rw [evalE] at e
  obtain ⟨⟨⟨d1, t1⟩, s1⟩, e1, ea⟩ := obind e
  clear e
  obtain ⟨ds, e0, e⟩ := obind ea
  clear ea
  have e0' := tupD_some e0
  dsimp only at e0'
  subst e0'
  by_cases hl : ds.length = n
  case neg =>
    rw [if_neg hl] at e
    cases e
  rw [if_pos hl] at e
  obtain ⟨⟨⟨d', fr⟩, pn⟩, e2, e⟩ := obind e
  dsimp only at e e2
  refine tV_of S0 e1 fun v H1 G1 S1 E1 R1 N1 => ?_
  obtain ⟨p, ws, rfl, hp, ra⟩ := seq_top (K := K) (ds := ds) S1 (R1.top S1) rfl
  refine ⟨p, ws, rfl, hp, pa, G1, ds, s1.pn, d', fr, pn, hl, S1.sub, S1.pen, ra, e2, fun v H2 G2 kept g1 g2 nw hpn res => ?_⟩
  by_cases z : scal d' = true
  · rw [if_pos z] at e
    cases e
    have fr0 : fr = false := by
      cases fr with
      | false => rfl
      | true =>
        rw [if_pos rfl] at res
        obtain ⟨_, _, _, _, rfl, _⟩ := res
        cases z
    subst fr0
    rw [if_neg (by decide)] at res
    obtain ⟨S2, E2⟩ := S1.call kept .refl (Sub.keptPen S1 kept) (fun _ _ h => .inl h) (hpn.back S1.pen g1)
    exact kk v H2 G1 S2 (E1.trans S2 E2) (Rp.scal_mono z res) nofz
  · rw [if_neg z] at e
    cases e
    obtain ⟨S2, E2⟩ := S1.call kept g1 g2 nw hpn
    refine kk v H2 G2 S2 (E1.trans S2 E2) ?_ ?_
    · cases fr with
      | false => rw [if_neg (by decide)] at res; exact res
      | true =>
        rw [if_pos rfl] at res
        obtain ⟨a, ys, es', rfl, rfl, ha, ha2, r, g⟩ := res
        obtain ⟨n1, n2, n3, n4⟩ := S1.none0 ha
        exact ⟨a, ys, es', rfl, rfl, ha2, r, g, n1, n3, n4⟩
    · cases fr with
      | false => exact nofz
      | true =>
        rw [if_pos rfl] at res
        obtain ⟨a, ys, es', rfl, rfl, ha, ha2, r, g⟩ := res
        intro _ b e
        cases e
        exact E1.back ha S1
theorem tab_str {m : TabM} {tb : List (Str × Int)} {d d2 : D} (h : tabD m tb d = some d2) : ∃ z, d = .str z := by
  unfold tabD at h
  split at h
  · exact ⟨_, rfl⟩
  · cases h
end
section
variable {X : Cx} {σ : L2.St} {H : Hp} {Q : VK} {d : Addr} {en : Array DictEntry} {n : Nat} {tb : List (Str × Int)}
theorem key_tabGet (D : KDict X.K X.w d en n) (h : TabR X.w.params en.toList tb) {i : Int} {x : Str} {a : IE} (q : tI (.tab (.get i) x tb a) σ H Q) :
    tI a σ H fun y H1 => tC (.int i) σ H1 fun z H2 => ∃ (t : Str) (r : Option Value) (g : V), y = .str t ∧ PySem.W.nsIn X.K d t = some r ∧ (∀ rz, RelV z rz → RelV g (r.getD rz)) ∧ Q g H2 := by
  obtain ⟨pa, H0, G0, G, s, d0, t, s3, S0, e, kk⟩ := q
  rw [evalE] at e
  obtain ⟨⟨⟨d1, t1⟩, s1⟩, e1, e⟩ := obind e
  obtain ⟨d2, e2, e⟩ := obind e
  cases e
  obtain ⟨z, rfl⟩ := tab_str e2
  refine tV_of S0 e1 fun v H1 G1 S1 E1 R1 N1 => ?_
  obtain ⟨r, hr, hv⟩ := h.ns D z
  cases e2
  refine ⟨z, r, .int ((tbl tb z).getD i), RpT.str (R1.top S1), hr, fun rz rel => ?_, kk _ H1 G1 S1 E1 (.int _) nofz⟩
  cases r with
  | none =>
    cases y : tbl tb z with
    | none => exact rel
    | some u => rw [y] at hv; exact hv.elim
  | some u =>
    cases y : tbl tb z with
    | none => rw [y] at hv; exact hv.elim
    | some m =>
      rw [y] at hv
      obtain ⟨tk, rfl⟩ := hv
      exact ⟨tk, rfl⟩
theorem key_tabMem (D : KDict X.K X.w d en n) (h : TabR X.w.params en.toList tb) {x : Str} {a : IE} (q : tI (.tab .mem x tb a) σ H Q) :
    tOp (fun x y H Q => ∃ (z : Str) (r : Option Value), x = .str z ∧ y = .ref d ∧ PySem.W.nsIn X.K d z = some r ∧ Q (.bl r.isSome) H) (tI a) (tC (.ref d)) σ H Q := by
  obtain ⟨pa, H0, G0, G, s, d0, t, s3, S0, e, kk⟩ := q
  rw [evalE] at e
  obtain ⟨⟨⟨d1, t1⟩, s1⟩, e1, e⟩ := obind e
  obtain ⟨d2, e2, e⟩ := obind e
  cases e
  obtain ⟨z, rfl⟩ := tab_str e2
  refine tV_of S0 e1 fun v H1 G1 S1 E1 R1 N1 => ?_
  obtain ⟨r, hr, hv⟩ := h.ns D z
  cases e2
  have e3 : r.isSome = (tbl tb z).isSome := by
    cases r with
    | none =>
      cases y : tbl tb z with
      | none => rfl
      | some u => rw [y] at hv; exact hv.elim
    | some u =>
      cases y : tbl tb z with
      | none => rw [y] at hv; exact hv.elim
      | some m => rfl
  refine ⟨z, r, RpT.str (R1.top S1), rfl, hr, ?_⟩
  rw [e3]
  exact kk _ H1 G1 S1 E1 (.bl _) nofz
theorem key_tabIx (D : KDict X.K X.w d en n) (h : TabR X.w.params en.toList tb) {x : Str} {a : IE} (q : tI (.tab .ix x tb a) σ H Q) :
    tOp (fun x y H Q => ∃ (z : Str) (u0 : Value) (v0 : V), x = .ref d ∧ y = .str z ∧ PySem.W.nsIn X.K d z = some (some u0) ∧ RelV v0 u0 ∧ Q v0 H) (tC (.ref d)) (tI a) σ H Q := by
  obtain ⟨pa, H0, G0, G, s, d0, t, s3, S0, e, kk⟩ := q
  rw [evalE] at e
  obtain ⟨⟨⟨d1, t1⟩, s1⟩, e1, e⟩ := obind e
  obtain ⟨d2, e2, e⟩ := obind e
  cases e
  obtain ⟨z, rfl⟩ := tab_str e2
  refine tV_of S0 e1 fun v H1 G1 S1 E1 R1 N1 => ?_
  obtain ⟨r, hr, hv⟩ := h.ns D z
  obtain ⟨m, e4, e5⟩ := Option.map_eq_some_iff.mp (show (tbl tb z).map PyData.int = some _ from e2)
  subst e5
  rw [e4] at hv
  cases r with
  | none => exact hv.elim
  | some u =>
    obtain ⟨tk, rfl⟩ := hv
    exact ⟨z, _, .int m, rfl, RpT.str (R1.top S1), hr, ⟨tk, rfl⟩, kk _ H1 G1 S1 E1 (.int _) nofz⟩
end
theorem few_two' {e : Expr} {i : Int} {p cpos : Pos} {env : Env} (h : plX e = true) : ((backTo cpos (starEach [e, .Constant (.int i) 0 p] env)).all (fun x => !x.1) && (backToKw cpos (keywordEach [] env)).all (fun x => x.1.isSome)
      && decide ([e, .Constant (.int i) 0 p].length + ([] : List Keyword).length + (if ([] : List Keyword).isEmpty then 0 else 1) < 30)) = true := by
  rw [star_pl h]; rfl
theorem trees_two' {e : Expr} {i : Int} {p cpos : Pos} {env : Env} (h : plX e = true) : backTo cpos (starEach [e, .Constant (.int i) 0 p] env) = [(false, eval e env), (false, eval (.Constant (.int i) 0 p) env)] := by
  rw [star_pl h]; rfl
end Fs

set_option Elab.async false
set_option linter.all false
set_option maxRecDepth 100000
set_option maxHeartbeats 8000000
namespace Fs
open PySem L2

theorem boot_isi : bootBuiltins "isinstance" = some (.builtin "isinstance") := by decide +kernel
theorem boot_ty (t : Ty5) : bootBuiltins t.name = some (.type t.ty) := by cases t <;> decide +kernel
section
variable {k : Nat}
/-- one of the builtins' names -/
theorem Cd.no {X : Cx} {N : List Str} {sc : Scope} (C : Cd X N sc k) (x : Str) (h : x ∈ bnames := by decide) : X.mg x = none := C.bl x h
theorem ty_in (t : Ty5) : t.name ∈ bnames := by cases t <;> decide
theorem ty_ne (t : Ty5) : t.name ≠ "__name__" ∧ (t.name == ("__debug__" : Str)) = false := by cases t <;> decide
theorem and1 {a b : Bool} (h : (a && b) = true) : a = true ∧ b = true := by simpa using h

theorem blt_call {X : Cx} {N : List Str} {f : Bf} {id : String} {es : IEs} {E : Em} {x : Str} {p pos : Pos} (hne : es ≠ .nil) (hc : CallR X (.builtin id) (rBlt f)) (hg : Gl X x) (hm : X.mg x = none) (hv : bootBuiltins x = some (.builtin id)) (hn : x ≠ "__name__") (hdb : (x == ("__debug__" : Str)) = false)
    (ha : L2.PA X (emEs N es E).1 (tAs es)) : PE X (.Call (.Name x p) (emEs N es E).1 [] pos) (tI (.blt f es)) := by
  cases es with
  | nil => exact absurd rfl hne
  | cons e es =>
    refine imp (pe_callB (e := (emE N e E).1) (es := (emEs N es (emE N e E).2).1) hc hg hm hv ha hn hdb (star_pl (em_pl N e E)) (stars N _ _ es _)) fun σ H Q q => key_blt q
theorem blt_callT {X : Cx} {N : List Str} {f : Bf} {T : String} {es : IEs} {E : Em} {x : Str} {p pos : Pos} (hne : es ≠ .nil) (hc : CallR X (.type T) (rBlt f)) (hg : Gl X x) (hm : X.mg x = none) (hv : bootBuiltins x = some (.type T)) (hn : x ≠ "__name__") (hdb : (x == ("__debug__" : Str)) = false)
    (ha : L2.PA X (emEs N es E).1 (tAs es)) : PE X (.Call (.Name x p) (emEs N es E).1 [] pos) (tI (.blt f es)) := by
  cases es with
  | nil => exact absurd rfl hne
  | cons e es =>
    refine imp (pe_callTy (e := (emE N e E).1) (es := (emEs N es (emE N e E).2).1) hc hg hm hv ha hn hdb (star_pl (em_pl N e E)) (stars N _ _ es _)) fun σ H Q q => key_blt q
theorem blt_nil (f : Bf) (s : S) : evalE (.blt f .nil) s = none := by
  rw [evalE, evalEs]
  cases f <;> rfl
theorem mth_none (m : Str) (es : IEs) (s : S) : evalE (.blt (.mth m) es) s = none := by
  rw [evalE]
  cases evalEs es s with
  | none => rfl
  | some r =>
    rfl
theorem sset_two {f : Bf} (hf : f = .sset ∨ f = .lrange ∨ f = .trange) (a b : IE) (es : IEs) (s : S) : evalE (.blt f (.cons a (.cons b es))) s = none := by
  rw [evalE]
  cases h : evalEs (.cons a (.cons b es)) s with
  | none => rfl
  | some r =>
    obtain ⟨xs, s1⟩ := r
    have l := ev_len _ h
    match xs, l with
    | (d, t) :: y :: zs, _ => rcases hf with rfl | rfl | rfl <;> (cases d <;> rfl)
    | [x], l => simp [IEs.len] at l
    | [], l => simp [IEs.len] at l
theorem fold_sr (N : List Str) (src : Sr) (E : Em) {env : Env} : ∀ x, foldedSetIterable (emSr N src E).1 env x = pure x := by
  cases src with
  | seq e => exact fold_pl (em_pl N e E)
  | _ => intro x; rfl
theorem scal_any {G : Hp} {pa : PA} {v : V} {d : D} (z : scal d = true) (r : Rp none (fun _ => none) v d) : Rp pa G v d := by
  cases r with
  | non => exact .non
  | bl b => exact .bl b
  | int i => exact .int i
  | str x => exact .str x
  | lst h r => cases z
  | tup h r => cases z
  | pen h => cases z
  | exc h => cases z

mutual
theorem sE : ∀ (e : IE) {X : Cx} {N : List Str} {sc : Scope} {E : Em}, Cd X N sc k → okE N sc e E = true → askE (askOf (wdOf X) k) e → Sd X N k e E
  | .var i, X, N, sc, E, C, ho, ha => by
    rw [okE] at ho
    obtain ⟨h1, h2, h3, h4⟩ := vis_of ho
    refine .val (imp (pe_var (X := X) (i := i) (by rw [C.hN]; exact h1) (by rw [C.hs]; exact h2) h3 h4) fun σ H Q q => ?_) rfl
    obtain ⟨pa, H0, G0, G, s, d, t, s1, S0, e, kk⟩ := q
    rw [evalE] at e
    obtain ⟨p, hp, e⟩ := Option.map_eq_some_iff.mp e
    obtain ⟨d', f⟩ := p
    have at1 : s.sl[i]? = some (some (d', f)) := by
      unfold rd at hp
      obtain ⟨o, h1, h2⟩ := Option.bind_eq_some_iff.mp hp
      have h2 : o = some (d', f) := h2
      rw [h1, h2]
    cases e
    cases f with
    | true =>
      obtain ⟨a, xs, ds, e1, _⟩ := S0.ow i _ at1
      exact ⟨_, e1, kk _ H G S0 .refl ⟨true, at1, e1⟩ fun z => by cases z⟩
    | false =>
      obtain ⟨v, e1, r⟩ := S0.fz i _ at1
      exact ⟨v, e1, kk _ H G S0 .refl r nofz⟩
  | .int n, X, N, sc, E, C, ho, ha => .val (imp pe_int fun σ H Q q => by
    obtain ⟨pa, H0, G0, G, s, d, t, s1, S0, e, kk⟩ := q
    rw [evalE] at e; cases e
    exact kk _ H G S0 .refl (.int n) nofz) rfl
  | .bool n, X, N, sc, E, C, ho, ha => .val (imp pe_bl fun σ H Q q => by
    obtain ⟨pa, H0, G0, G, s, d, t, s1, S0, e, kk⟩ := q
    rw [evalE] at e; cases e
    exact kk _ H G S0 .refl (.bl n) nofz) rfl
  | .non, X, N, sc, E, C, ho, ha => .val (imp pe_non fun σ H Q q => by
    obtain ⟨pa, H0, G0, G, s, d, t, s1, S0, e, kk⟩ := q
    rw [evalE] at e; cases e
    exact kk _ H G S0 .refl .non nofz) rfl
  | .str n, X, N, sc, E, C, ho, ha => .val (imp pe_str fun σ H Q q => by
    obtain ⟨pa, H0, G0, G, s, d, t, s1, S0, e, kk⟩ := q
    rw [evalE] at e; cases e
    exact kk _ H G S0 .refl (.str n) nofz) rfl
  | .glob x d, X, N, sc, E, C, ho, ha => by
    rw [okE] at ho
    obtain ⟨h1, h2⟩ := and1 ho
    obtain ⟨g1, g2⟩ := gl_of C h1
    rw [askE] at ha
    obtain ⟨v, u, m, r, rp⟩ := ha
    refine .val (imp (pe_glob g1 m r g2) fun σ H Q q => ?_) rfl
    obtain ⟨pa, H0, G0, G, s, d, t, s1, S0, e, kk⟩ := q
    rw [evalE] at e; cases e
    exact kk _ H G S0 .refl (scal_any h2 rp) nofz
  | .bin op a b, X, N, sc, E, C, ho, ha => by
    rw [okE] at ho
    rw [askE] at ha
    obtain ⟨h1, h2⟩ := and1 ho
    exact .val (imp (pe_op (op_bin op) (sE a C h1 ha.1).pe (sE b C h2 ha.2).pe) fun σ H Q q => key_bin q) rfl
  | .neg a, X, N, sc, E, C, ho, ha => by
    rw [okE] at ho
    rw [askE] at ha
    exact .val (imp (pe_un un_neg (sE a C ho ha).pe) fun σ H Q q => key_neg q) rfl
  | .not a, X, N, sc, E, C, ho, ha => by
    rw [okE] at ho
    rw [askE] at ha
    exact ⟨imp (pe_not (sE a C ho ha).pe) fun σ H Q q => key_not q, PT.imp (pt_not (sE a C ho ha).pt) fun σ H Q q => key_notQ q⟩
  | .cmp op a b, X, N, sc, E, C, ho, ha => by
    rw [okE] at ho
    rw [askE] at ha
    obtain ⟨h1, h2⟩ := and1 ho
    have pa := (sE a C h1 ha.1).pe
    have pb := (sE b C h2 ha.2).pe
    exact .cmpLike (pe_cmpR (op_cmp op C.un) pa pb (mark_pl (em_pl N b _))) (pt_cmpR (op_cmp op C.un) pa pb (mark_pl (em_pl N b _))) fun σ H Q q => key_cmp q
  | .isN a, X, N, sc, E, C, ho, ha => by
    rw [okE] at ho
    rw [askE] at ha
    have pa := (sE a C ho ha).pe
    exact .cmpLike (pe_cmp (pc_isN pa)) (pt_cmp (pc_isN pa)) fun σ H Q q => key_isN q
  | .notN a, X, N, sc, E, C, ho, ha => by
    rw [okE] at ho
    rw [askE] at ha
    have pa := (sE a C ho ha).pe
    exact .cmpLike (pe_cmp (pc_notN pa)) (pt_cmp (pc_notN pa)) fun σ H Q q => key_notN q
  | .cmp2 o p a b c, X, N, sc, E, C, ho, ha => by
    rw [okE] at ho
    rw [askE] at ha
    obtain ⟨h1, h2⟩ := and1 ho
    obtain ⟨h2, h3⟩ := and1 h2
    have pa := (sE a C h1 ha.1).pe
    have pb := (sE b C h2 ha.2.1).pe
    have pc := (sE c C h3 ha.2.2).pe
    have hm : lastMarks [o, p] [(emE N b (emE N a E.np).2).1, (emE N c (emE N b (emE N a E.np).2).2).1] = false := mark_pl (em_pl N c _)
    exact .cmpLike (pe_chain (op_cmp o C.un) (op_cmp p C.un) pa pb pc hm) (pt_chain (op_cmp o C.un) (op_cmp p C.un) pa pb pc hm) fun σ H Q q => key_cmp2 q
  | .and es, X, N, sc, E, C, ho, ha => by
    rw [okE] at ho
    rw [askE] at ha
    have h := (sB es C ho ha).1
    refine ⟨imp (h.pe E.p) fun σ H Q q => ?_, PT.imp (h.pw E.p).pt fun σ H Q q => ?_⟩
    · have e : evalE (.and es) = evalAnd es := by funext s; rw [evalE]
      rwa [tI, e] at q
    · have e : evalE (.and es) = evalAnd es := by funext s; rw [evalE]
      rwa [e] at q
  | .or es, X, N, sc, E, C, ho, ha => by
    rw [okE] at ho
    rw [askE] at ha
    have h := (sB es C ho ha).2
    refine ⟨imp (h.pe E.p) fun σ H Q q => ?_, PT.imp (h.pw E.p).pt fun σ H Q q => ?_⟩
    · have e : evalE (.or es) = evalOr es := by funext s; rw [evalE]
      rwa [tI, e] at q
    · have e : evalE (.or es) = evalOr es := by funext s; rw [evalE]
      rwa [e] at q
  | .ite c a b, X, N, sc, E, C, ho, ha => by
    rw [okE] at ho
    rw [askE] at ha
    obtain ⟨h1, h2⟩ := and1 ho
    obtain ⟨h2, h3⟩ := and1 h2
    have pc := sE c C h1 ha.1
    have pa := sE a C h2 ha.2.1
    have pb := sE b C h3 ha.2.2
    exact ⟨imp (pe_ifExp pc.pt pa.pe pb.pe) fun σ H Q q => key_ite q, PT.imp (pt_ifE pc.pt pa.pt pb.pt) fun σ H Q q => key_iteQ q⟩
  | .tup es, X, N, sc, E, C, ho, ha => by
    rw [okE] at ho
    rw [askE] at ha
    obtain ⟨h1, h2⟩ := and1 ho
    have hl : es.len ≤ 1000 := by rw [← em_len N es E.np]; exact of_decide_eq_true h2
    exact .val (imp (pe_tupF (sEs es C h1 ha)) fun σ H Q q => key_tup hl q) rfl
  | .lst es, X, N, sc, E, C, ho, ha => by
    rw [okE] at ho
    rw [askE] at ha
    obtain ⟨h1, h2⟩ := and1 ho
    have hl : es.len ≤ 1000 := by rw [← em_len N es E.np]; exact of_decide_eq_true h2
    exact .val (imp (pe_lst (sEs es C h1 ha)) fun σ H Q q => key_lst hl q) rfl
  | .ix a b, X, N, sc, E, C, ho, ha => by
    rw [okE] at ho
    rw [askE] at ha
    obtain ⟨h1, h2⟩ := and1 ho
    exact .val (imp (pe_ix ix_D (sE a C h1 ha.1).pe (sE b C h2 ha.2).pe (ix_pl (em_pl N b _))) fun σ H Q q => key_ix q) rfl
  | .sl a lo hi, X, N, sc, E, C, ho, ha => by
    rw [okE] at ho
    rw [askE] at ha
    obtain ⟨h1, h2⟩ := and1 ho
    obtain ⟨h2, h3⟩ := and1 h2
    exact .val (imp (pe_slice sl_D (sE a C h1 ha.1).pe (sO lo C h2 ha.2.1) (sO hi C h3 ha.2.2)) fun σ H Q q => key_sl q) rfl
  | .isi a t, X, N, sc, E, C, ho, ha => by
    rw [okE] at ho
    rw [askE] at ha
    obtain ⟨h1, h2⟩ := and1 ho
    obtain ⟨h2, h3⟩ := and1 h2
    obtain ⟨g1, g2⟩ := gl_of C h2
    obtain ⟨g3, g4⟩ := gl_of C h3
    have pn := pe_bltn (pos := (emE N a E.np.np).2.p) g3 (C.no _ (ty_in t)) (boot_ty t) (v := .ty t.ty) rfl (ty_ne t).1 g4
    have pas := pa_cons (sE a C h1 ha).pe (pa_cons pn pa_nil (by rfl)) (star_pl (em_pl N a _))
    exact .val (imp (pe_callB (b_isi t) g1 (C.no _) boot_isi pas (by decide) g2 (star_pl (em_pl N a _)) (by rfl)) fun σ H Q q => key_isi q) rfl
  | .isX x adr names sub a, X, N, sc, E, C, ho, ha => by
    rw [okE] at ho
    rw [askE] at ha
    obtain ⟨h1, h2⟩ := and1 ho
    obtain ⟨h2, h3⟩ := and1 h2
    obtain ⟨g1, g2⟩ := gl_of C h2
    obtain ⟨g3, g4⟩ := gl_of C h3
    obtain ⟨⟨v, cv, hm, rel, hcv, hk⟩, ha⟩ := ha
    have pn : PE X (.Name x (emE N a E.np.np).2.p) (tC v) := by
      rcases hm with hm | ⟨hm, hb, hn⟩
      · exact pe_glob g3 hm rel g4
      · exact pe_bltn g3 hm hb rel hn g4
    have pas := pa_cons (sE a C h1 ha).pe (pa_cons pn pa_nil (by rfl)) (star_pl (em_pl N a _))
    exact .val (imp (pe_callB call_isT g1 (C.no _) boot_isi pas (by decide) g2 (star_pl (em_pl N a _)) (by rfl)) fun σ H Q q => key_isX hcv hk q) rfl
  | .attr a m, X, N, sc, E, C, ho, ha => .val (neverV fun s => by rw [evalE]) rfl
  | .cmp3 o p q a b c d, X, N, sc, E, C, ho, ha => by
    rw [okE] at ho
    rw [askE] at ha
    obtain ⟨h1, h2⟩ := and1 ho
    obtain ⟨h2, h3⟩ := and1 h2
    obtain ⟨h3, h4⟩ := and1 h3
    have pa := (sE a C h1 ha.1).pe
    have pb := (sE b C h2 ha.2.1).pe
    have pc := (sE c C h3 ha.2.2.1).pe
    have pd := (sE d C h4 ha.2.2.2).pe
    exact .cmpLike (pe_chain3 (op_cmp o C.un) (op_cmp p C.un) (op_cmp q C.un) pa pb pc pd (lastMarks3 (em_pl N d _))) (pt_chain3 (op_cmp o C.un) (op_cmp p C.un) (op_cmp q C.un) pa pb pc pd (lastMarks3 (em_pl N d _))) fun σ H Q q => key_cmp3 q
  | .tab m x tb a, X, N, sc, E, C, ho, ha => by
    rw [askE] at ha
    obtain ⟨⟨⟨d, es, n, hm, D, R⟩⟩, ha⟩ := ha
    have rd : RelV (V.ref d) (Value.ref d) := rfl
    cases m with
    | get n =>
      rw [okE] at ho
      obtain ⟨h1, h2⟩ := and1 ho
      obtain ⟨h2, h3⟩ := and1 h2
      obtain ⟨g1, g2⟩ := gl_of C h2
      exact .val (imp (pe_tabGet D (pe_glob g1 hm rd g2) (sE a C h1 ha).pe pe_int ⟨by rfl, few_two' (em_pl N a _), h3, trees_two' (em_pl N a _)⟩) fun σ H Q q => key_tabGet D R q) rfl
    | mem =>
      rw [okE] at ho
      obtain ⟨h1, h2⟩ := and1 ho
      obtain ⟨g1, g2⟩ := gl_of C h2
      exact .cmpLike (pe_cmpR (op_in_kd D) (sE a C h1 ha).pe (pe_glob g1 hm rd g2) (mark_pl (by rfl))) (pt_cmpR (op_in_kd D) (sE a C h1 ha).pe (pe_glob g1 hm rd g2) (mark_pl (by rfl))) fun σ H Q q => key_tabMem D R q
    | ix =>
      rw [okE] at ho
      obtain ⟨h1, h2⟩ := and1 ho
      obtain ⟨g1, g2⟩ := gl_of C h2
      exact .val (imp (pe_ix (ix_tab D) (pe_glob g1 hm rd g2) (sE a C h1 ha).pe (ix_pl (em_pl N a _))) fun σ H Q q => key_tabIx D R q) rfl
  | .calS x F n e, X, N, sc, E, C, ho, ha => by
    rw [okE] at ho
    rw [askE] at ha
    obtain ⟨h1, h2⟩ := and1 ho
    obtain ⟨⟨f, fd, ps, Fn1, hm, hk, hb⟩⟩ := ha.1
    exact .val (imp (pe_gcallS Fn1 C.room C.gd (gl_of C h2).1 hm hk hb (sE e C h1 ha.2).pe (gl_of C h2).2) fun σ H Q q => key_calS q) rfl
  | .blt f es, X, N, sc, E, C, ho, ha => by
    rw [askE] at ha
    by_cases hne : es = .nil
    · subst hne
      refine .val (neverV (blt_nil f)) ?_
      cases f <;> rfl
    · cases f with
      | len =>
        rw [okE] at ho
        · obtain ⟨h1, h2⟩ := and1 ho
          exact .val (blt_call hne b_len (gl_of C h2).1 (C.no _) PySem.boot_len (by decide) (gl_of C h2).2 (sEs es C h1 ha)) rfl
        all_goals first | (intro z; cases z; done) | (intro m z; cases z; done)
      | all =>
        rw [okE] at ho
        · obtain ⟨h1, h2⟩ := and1 ho
          exact .val (blt_call hne (b_all C.calm) (gl_of C h2).1 (C.no _) PyProof.Rows.boot_all (by decide) (gl_of C h2).2 (sEs es C h1 ha)) rfl
        all_goals first | (intro z; cases z; done) | (intro m z; cases z; done)
      | any =>
        rw [okE] at ho
        · obtain ⟨h1, h2⟩ := and1 ho
          exact .val (blt_call hne (b_any C.calm) (gl_of C h2).1 (C.no _) PyProof.Rows.boot_any (by decide) (gl_of C h2).2 (sEs es C h1 ha)) rfl
        all_goals first | (intro z; cases z; done) | (intro m z; cases z; done)
      | sum =>
        rw [okE] at ho
        · obtain ⟨h1, h2⟩ := and1 ho
          exact .val (blt_call hne (b_sum C.calm) (gl_of C h2).1 (C.no _) PyProof.Rows.boot_sum (by decide) (gl_of C h2).2 (sEs es C h1 ha)) rfl
        all_goals first | (intro z; cases z; done) | (intro m z; cases z; done)
      | max =>
        rw [okE] at ho
        · obtain ⟨h1, h2⟩ := and1 ho
          exact .val (blt_call hne (b_max C.calm) (gl_of C h2).1 (C.no _) PyProof.Rows.boot_max (by decide) (gl_of C h2).2 (sEs es C h1 ha)) rfl
        all_goals first | (intro z; cases z; done) | (intro m z; cases z; done)
      | min =>
        rw [okE] at ho
        · obtain ⟨h1, h2⟩ := and1 ho
          exact .val (blt_call hne (b_min C.calm C.un) (gl_of C h2).1 (C.no _) PyProof.Rows.boot_min (by decide) (gl_of C h2).2 (sEs es C h1 ha)) rfl
        all_goals first | (intro z; cases z; done) | (intro m z; cases z; done)
      | repr =>
        rw [okE] at ho
        · obtain ⟨h1, h2⟩ := and1 ho
          exact .val (blt_call hne (b_repr C.un C.gd) (gl_of C h2).1 (C.no _) PyProof.Rows.boot_repr (by decide) (gl_of C h2).2 (sEs es C h1 ha)) rfl
        all_goals first | (intro z; cases z; done) | (intro m z; cases z; done)
      | srt =>
        rw [okE] at ho
        · obtain ⟨h1, h2⟩ := and1 ho
          exact .val (blt_call hne b_srt (gl_of C h2).1 (C.no _) PyProof.Rows.boot_sorted (by decide) (gl_of C h2).2 (sEs es C h1 ha)) rfl
        all_goals first | (intro z; cases z; done) | (intro m z; cases z; done)
      | mth m => exact .val (neverV (mth_none m es)) rfl
      | dnew =>
        rw [okE] at ho
        match es, hne, ho with
        | .nil, hne, _ => exact absurd rfl hne
        | .cons _ _, _, ho => cases ho
      | tuple =>
        rw [okE] at ho
        · obtain ⟨h1, h2⟩ := and1 ho
          exact .val (blt_callT hne b_tuple (gl_of C h2).1 (C.no _) PyProof.Rows.boot_tuple (by decide) (gl_of C h2).2 (sEs es C h1 ha)) rfl
        all_goals first | (intro z; cases z; done) | (intro m z; cases z; done)
      | list =>
        rw [okE] at ho
        · obtain ⟨h1, h2⟩ := and1 ho
          exact .val (blt_callT hne b_list (gl_of C h2).1 (C.no _) PyProof.Rows.boot_list (by decide) (gl_of C h2).2 (sEs es C h1 ha)) rfl
        all_goals first | (intro z; cases z; done) | (intro m z; cases z; done)
      | int =>
        rw [okE] at ho
        · obtain ⟨h1, h2⟩ := and1 ho
          exact .val (blt_callT hne b_int (gl_of C h2).1 (C.no _) PyProof.Rows.boot_int (by decide) (gl_of C h2).2 (sEs es C h1 ha)) rfl
        all_goals first | (intro z; cases z; done) | (intro m z; cases z; done)
      | rev1 =>
        rw [okE] at ho
        obtain ⟨h1, h2⟩ := and1 ho
        match es, h1, h2, ha with
        | .cons a .nil, h1, _, ha =>
          rw [okEs] at h1
          rw [askEs] at ha
          exact .val (imp (pe_revD (sE a C (and1 h1).1 ha.1).pe) fun σ H Q q => key_rev q) rfl
        | .nil, _, h2, _ => cases h2
        | .cons a (.cons b es), _, h2, _ => cases h2
      | cnt =>
        rw [okE] at ho
        obtain ⟨h1, h2⟩ := and1 ho
        obtain ⟨h2, h3⟩ := and1 h2
        match es, h1, h2, ha with
        | .cons (.var i) (.cons b .nil), h1, _, ha =>
          rw [okEs, okE, okEs] at h1
          obtain ⟨g1, h1⟩ := and1 h1
          obtain ⟨g2, _⟩ := and1 h1
          rw [askEs, askEs] at ha
          obtain ⟨w1, w2, w3, w4⟩ := vis_of g1
          refine .val (imp (pe_cnt C.un (pe_var (X := X) (i := i) (by rw [C.hN]; exact w1) (by rw [C.hs]; exact w2) w3 w4) (pa_cons (sE b C g2 ha.2.1).pe pa_nil (star_pl (em_pl N b _))) (by rfl) (few_one' (em_pl N b _)) h3 (star_pl (em_pl N b _))) fun σ H Q q => key_cnt q) rfl
        | .nil, _, h2, _ => cases h2
        | .cons (.var i) .nil, _, h2, _ => cases h2
      | idx =>
        rw [okE] at ho
        obtain ⟨h1, h2⟩ := and1 ho
        obtain ⟨h2, h3⟩ := and1 h2
        match es, h1, h2, ha with
        | .cons (.var i) (.cons b .nil), h1, _, ha =>
          rw [okEs, okE, okEs] at h1
          obtain ⟨g1, h1⟩ := and1 h1
          obtain ⟨g2, _⟩ := and1 h1
          rw [askEs, askEs] at ha
          obtain ⟨w1, w2, w3, w4⟩ := vis_of g1
          refine .val (imp (pe_bm (T := "list") PySem.F.plainAttrs_list PySem.F.slot_list_index PySem.F.type_list_index (mt_index C.un) (pe_var (X := X) (i := i) (by rw [C.hN]; exact w1) (by rw [C.hs]; exact w2) w3 w4) (pa_cons (sE b C g2 ha.2.1).pe pa_nil (star_pl (em_pl N b _))) (by rfl) (few_one' (em_pl N b _)) h3 (star_pl (em_pl N b _)) (by rfl)) fun σ H Q q => key_idx q) rfl
        | .nil, _, h2, _ => cases h2
        | .cons (.var i) .nil, _, h2, _ => cases h2
      | stp =>
        rw [okE] at ho
        obtain ⟨h1, h2⟩ := and1 ho
        match es, h1, h2, ha with
        | .cons a (.cons b .nil), h1, _, ha =>
          rw [okEs, okEs] at h1
          rw [askEs, askEs] at ha
          exact .val (imp (pe_tupF (StX.pa_star (sE a C (and1 h1).1 ha.1).pe (pa_cons (sE b C (and1 (and1 h1).2).1 ha.2.1).pe pa_nil (star_pl (em_pl N b _))) rfl)) fun σ H Q q => key_stp q) rfl
        | .nil, _, h2, _ => cases h2
        | .cons a .nil, _, h2, _ => cases h2
        | .cons a (.cons b (.cons c es)), _, h2, _ => cases h2
      | stl =>
        rw [okE] at ho
        obtain ⟨h1, h2⟩ := and1 ho
        match es, h1, h2, ha with
        | .cons a (.cons b .nil), h1, _, ha =>
          rw [okEs, okEs] at h1
          rw [askEs, askEs] at ha
          exact .val (imp (pe_lst (StX.pa_star (sE a C (and1 h1).1 ha.1).pe (pa_cons (sE b C (and1 (and1 h1).2).1 ha.2.1).pe pa_nil (star_pl (em_pl N b _))) rfl)) fun σ H Q q => key_stl q) rfl
        | .nil, _, h2, _ => cases h2
        | .cons a .nil, _, h2, _ => cases h2
        | .cons a (.cons b (.cons c es)), _, h2, _ => cases h2
      | sth =>
        rw [okE] at ho
        obtain ⟨h1, h2⟩ := and1 ho
        match es, h1, h2, ha with
        | .cons a (.cons b .nil), h1, _, ha =>
          rw [okEs, okEs] at h1
          rw [askEs, askEs] at ha
          exact .val (imp (pe_lst (pa_cons (sE a C (and1 h1).1 ha.1).pe (StX.pa_star (sE b C (and1 (and1 h1).2).1 ha.2.1).pe pa_nil rfl) (star_pl (em_pl N a _)))) fun σ H Q q => key_sth q) rfl
        | .nil, _, h2, _ => cases h2
        | .cons a .nil, _, h2, _ => cases h2
        | .cons a (.cons b (.cons c es)), _, h2, _ => cases h2
      | st3 =>
        rw [okE] at ho
        obtain ⟨h1, h2⟩ := and1 ho
        match es, h1, h2, ha with
        | .cons a (.cons b (.cons c .nil)), h1, _, ha =>
          rw [okEs, okEs, okEs] at h1
          rw [askEs, askEs, askEs] at ha
          exact .val (imp (pe_tupF (StX.pa_star (sE a C (and1 h1).1 ha.1).pe (pa_cons (sE b C (and1 (and1 h1).2).1 ha.2.1).pe (StX.pa_star (sE c C (and1 (and1 (and1 h1).2).2).1 ha.2.2.1).pe pa_nil rfl) (star_pl (em_pl N b _))) rfl)) fun σ H Q q => key_st3 q) rfl
        | .nil, _, h2, _ => cases h2
        | .cons a .nil, _, h2, _ => cases h2
        | .cons a (.cons b .nil), _, h2, _ => cases h2
        | .cons a (.cons b (.cons c (.cons d es))), _, h2, _ => cases h2
      | sset =>
        rw [okE] at ho
        obtain ⟨h1, h2⟩ := and1 ho
        obtain ⟨h2, h3⟩ := and1 h2
        match es, hne, h1, ha with
        | .cons a .nil, _, h1, ha =>
          rw [okEs] at h1
          rw [askEs] at ha
          exact .val (imp (pe_sortSet C.calm (gl_of C h2).1 (C.no _) (gl_of C h3).1 (C.no _) (sE a C (and1 h1).1 ha.1).pe (star_pl (em_pl N a _))) fun σ H Q q => key_sset _ q) rfl
        | .cons a (.cons b es), _, h1, ha => exact .val (neverV (sset_two (.inl rfl) a b es)) rfl
      | lrange =>
        rw [okE] at ho
        obtain ⟨h1, h2⟩ := and1 ho
        obtain ⟨h2, h3⟩ := and1 h2
        match es, hne, h1, ha with
        | .cons a .nil, _, h1, ha =>
          rw [okEs] at h1
          rw [askEs] at ha
          exact .val (imp (pe_listRg C.calm (gl_of C h2).1 (C.no _) (prg_1 (gl_of C h3).1 (C.no _) (sE a C (and1 h1).1 ha.1).pe (star_pl (em_pl N a _))) (by rfl)) fun σ H Q q => key_lrange q) rfl
        | .cons a (.cons b es), _, h1, ha => exact .val (neverV (sset_two (.inr (.inl rfl)) a b es)) rfl
      | trange =>
        rw [okE] at ho
        obtain ⟨h1, h2⟩ := and1 ho
        obtain ⟨h2, h3⟩ := and1 h2
        match es, hne, h1, ha with
        | .cons a .nil, _, h1, ha =>
          rw [okEs] at h1
          rw [askEs] at ha
          exact .val (imp (pe_tupRgF C.calm (gl_of C h2).1 (C.no _) (prg_1 (gl_of C h3).1 (C.no _) (sE a C (and1 h1).1 ha.1).pe (star_pl (em_pl N a _))) (by rfl)) fun σ H Q q => key_trange q) rfl
        | .cons a (.cons b es), _, h1, ha => exact .val (neverV (sset_two (.inr (.inr rfl)) a b es)) rfl
  | .call x F es, X, N, sc, E, C, ho, ha => by
    rw [okE] at ho
    rw [askE] at ha
    obtain ⟨h1, h2⟩ := and1 ho
    obtain ⟨h4, h3⟩ := and1 h2
    obtain ⟨⟨f, fd, ps, Fn1, hm, hk, hb⟩⟩ := ha.1
    have pas := sEs es C h1 ha.2
    match es, h3, pas with
    | .cons e es, _, pas =>
      exact .val (imp (pe_gcall (e := (emE N e E.np.np).1) (es := (emEs N es (emE N e E.np.np).2).1) Fn1 C.room C.gd (gl_of C h4).1 hm hk hb pas (gl_of C h4).2 (star_pl (em_pl N e _)) (stars N _ _ es _)) fun σ H Q q => key_call q) rfl
    | .nil, h3, _ => rw [emEs] at h3; cases h3
  | .one x a b, X, N, sc, E, C, ho, ha => by
    rw [okE] at ho
    rw [askE] at ha
    obtain ⟨h1, h2⟩ := and1 ho
    obtain ⟨h2, h3⟩ := and1 h2
    obtain ⟨⟨f, fd, ps, Fn1, hm, hk, hb⟩⟩ := ha.1
    have pas := pa_cons (sE a C h1 ha.2.1).pe (pa_cons (sE b C h2 ha.2.2).pe pa_nil (star_pl (em_pl N b _))) (star_pl (em_pl N a _))
    refine .val (imp (pe_gcall Fn1 C.room C.gd (gl_of C h3).1 hm hk hb pas (gl_of C h3).2 (star_pl (em_pl N a _)) ?_) fun σ H Q q => key_one q) rfl
    rw [star_pl (em_pl N b _)]; rfl
  | .pix i j, X, N, sc, E, C, ho, ha => by
    rw [okE] at ho
    obtain ⟨h1, h2, h3, h4⟩ := vis_of ho
    exact .val (imp (pe_ix ix_list (pe_var (X := X) (i := i) (by rw [C.hN]; exact h1) (by rw [C.hs]; exact h2) h3 h4) pe_int (fun _ _ => rfl)) fun σ H Q q => key_pix X.K q) rfl
  | .lc elt tg src ifs, X, N, sc, E, C, ho, ha => by
    rw [okE] at ho
    rw [askE] at ha
    obtain ⟨h1, ho⟩ := and1 ho
    obtain ⟨h2, ho⟩ := and1 ho
    obtain ⟨h2, h3⟩ := and1 h2
    obtain ⟨h4, h5⟩ := and1 ho
    obtain ⟨h6, h7⟩ := and1 h4
    obtain ⟨h8, h9⟩ := and1 h5
    obtain ⟨h10, h11⟩ := and1 h9
    have hN := C.hN
    subst hN
    have bk : BlkOk X.N X.env.scope E.s (ownOf X.N tg.slots) := by rw [C.hs]; exact blkOk_by h3
    have pi := sSr src (tgt := (emTr X.N tg (emE X.N elt E.np.ns).2).1) C h8 ha.2.1 fun hp => by
      rw [hp] at h2
      cases tg with
      | v i => cases h2
      | t is => exact ⟨_, _, _, rfl⟩
    have q := pe_lc (X := X) (elt := (emE X.N elt E.np.ns).1) (ifs := (emEs X.N ifs (emSr X.N src (emTr X.N tg (emE X.N elt E.np.ns).2).2).2).1) (pos := E.p) (g := tTr X.K tg) (tt := tTs ifs) (te := tI elt) C.calm C.nd pi bk ?_ ?_ ?_ (fold_sr _ src _)
    · rw [own_snd] at q
      exact .val (imp q fun σ H Q q => lc_ok X.K elt tg src ifs (fun hp => by rw [hp] at h2; cases tg with | v i => cases h2 | t is => rfl) q) rfl
    · intro s H A cl fp
      refine pg_tr (X := X.blk s H E.s (compEnvC E.s cl A X.env) fp) C.nd C.calm tg _ fun i hi => ?_
      obtain ⟨l1, l2⟩ := loc_of (List.all_eq_true.mp h6 i hi)
      refine ⟨l1, ?_, ?_⟩
      · rcases l2 with l2 | l2
        · exact .inl (lookup_relS_keep (by decide) l2)
        · exact .inr (lookup_relS_keep (by decide) l2)
      · rcases l2 with l2 | l2
        · exact .inr (lookup_relS_keep (by decide) l2)
        · refine .inl ?_
          show (E.s.names.lookup (nm X.N i) == some .cell) = true
          rw [l2]; rfl
    · intro s H A cl fp
      exact sTs ifs (C.blk E.s s H A cl fp) h10 ha.2.2 (of_decide_eq_true h11)
    · intro s H A cl fp
      exact (sE elt (C.blk E.s s H A cl fp) h1 ha.1).pe
theorem sEs : ∀ (es : IEs) {X : Cx} {N : List Str} {sc : Scope} {E : Em}, Cd X N sc k → okEs N sc es E = true → askEs (askOf (wdOf X) k) es → L2.PA X (emEs N es E).1 (tAs es)
  | .nil, X, N, sc, E, C, ho, ha => PA.imp pa_nil fun σ H Q q => by
    obtain ⟨pa, H0, G0, G, s, xs, s1, S0, e, kk⟩ := q
    rw [evalEs] at e; cases e
    exact kk [] H G S0 .refl trivial
  | .cons e es, X, N, sc, E, C, ho, ha => by
    rw [okEs] at ho
    rw [askEs] at ha
    obtain ⟨h1, h2⟩ := and1 ho
    exact PA.imp (pa_cons (sE e C h1 ha.1).pe (sEs es C h2 ha.2) (star_pl (em_pl N e E))) fun σ H Q q => key_cons q
theorem sTs : ∀ (es : IEs) {X : Cx} {N : List Str} {sc : Scope} {E : Em}, Cd X N sc k → okEs N sc es E = true → askEs (askOf (wdOf X) k) es → (emEs N es E).1.length ≤ 1 → PTs X (emEs N es E).1 (tTs es)
  | .nil, X, N, sc, E, C, ho, ha, hl => pts_nil
  | .cons e .nil, X, N, sc, E, C, ho, ha, hl => by
    rw [okEs] at ho
    rw [askEs] at ha
    exact pts_one (sE e C (and1 ho).1 ha.1).pt
  | .cons e (.cons e2 es), X, N, sc, E, C, ho, ha, hl => by
    rw [em_len] at hl
    simp [IEs.len] at hl
theorem sB : ∀ (es : IEs) {X : Cx} {N : List Str} {sc : Scope} {E : Em}, Cd X N sc k → okEs N sc es E = true → askEs (askOf (wdOf X) k) es → Sd2 X .And (emEs N es E).1 (evalAnd es) ∧ Sd2 X .Or (emEs N es E).1 (evalOr es)
  | .nil, X, N, sc, E, C, ho, ha => ⟨⟨fun _ => neverV fun s => by rw [evalAnd], fun _ => neverW fun s => by rw [evalAnd]; rfl⟩, ⟨fun _ => neverV fun s => by rw [evalOr], fun _ => neverW fun s => by rw [evalOr]; rfl⟩⟩
  | .cons e .nil, X, N, sc, E, C, ho, ha => by
    rw [okEs] at ho
    rw [askEs] at ha
    have h := sE e C (and1 ho).1 ha.1
    exact ⟨⟨fun _ => imp (pe_one h.pe) fun σ H Q q => key_and1 q, fun _ => PW.imp (pw_and1 h.pt) fun σ H Q q => key_and1Q q⟩,
      ⟨fun _ => imp (pe_one h.pe) fun σ H Q q => key_or1 q, fun _ => PW.imp (pw_or1 h.pt) fun σ H Q q => key_or1Q q⟩⟩
  | .cons e (.cons e2 es), X, N, sc, E, C, ho, ha => by
    rw [okEs] at ho
    rw [askEs] at ha
    have h := sE e C (and1 ho).1 ha.1
    have r := sB (.cons e2 es) C (and1 ho).2 ha.2
    exact ⟨⟨fun p => imp (pe_and h.pe (r.1.pe p)) fun σ H Q q => key_and (fun z => by cases z) q, fun p => PW.imp (pw_and h.pt (r.1.pw p)) fun σ H Q q => key_andQ (fun z => by cases z) q⟩,
      ⟨fun p => imp (pe_or h.pe (r.2.pe p)) fun σ H Q q => key_or (fun z => by cases z) q, fun p => PW.imp (pw_or h.pt (r.2.pw p)) fun σ H Q q => key_orQ (fun z => by cases z) q⟩⟩
theorem sO : ∀ (o : IO) {X : Cx} {N : List Str} {sc : Scope} {E : Em}, Cd X N sc k → okO N sc o E = true → askO (askOf (wdOf X) k) o → PO X (emO N o E).1 (tOo o)
  | .none, X, N, sc, E, C, ho, ha => PO.imp po_none fun σ H Q q => by
    obtain ⟨pa, H0, G0, G, s, r, s1, S0, e, i, hi, kk⟩ := q
    rw [evalO] at e; cases e
    cases hi
    exact kk H G S0 .refl
  | .some e, X, N, sc, E, C, ho, ha => by
    rw [okO] at ho
    rw [askO] at ha
    refine PO.imp (po_some (sE e C ho ha).pe) fun σ H Q q => ?_
    obtain ⟨pa, H0, G0, G, s, r, s1, S0, ev, i, hi, kk⟩ := q
    rw [evalO] at ev
    obtain ⟨⟨⟨d, t⟩, s2⟩, e1, ev⟩ := obind ev
    cases ev
    refine tV_of S0 e1 fun v H1 G1 S1 E1 R1 N1 => ?_
    unfold optI at hi
    split at hi
    · rename_i z; cases z
    · rename_i n z
      cases z
      cases hi
      exact ⟨n, (R1.top S1).int, kk H1 G1 S1 E1⟩
    · cases hi
theorem sSr : ∀ (src : Sr) {X : Cx} {N : List Str} {sc : Scope} {E : Em} {tgt : Expr}, Cd X N sc k → okSr N sc src E = true → askSr (askOf (wdOf X) k) src → (src.pairs = true → ∃ elts kk p, tgt = .Tuple elts kk p) → PI X tgt (emSr N src E).1 (tSr src)
  | .seq e, X, N, sc, E, tgt, C, ho, ha, ht => by
    rw [okSr] at ho
    rw [askSr] at ha
    have pe := (sE e C ho ha).pe
    exact PI.imp (PI.or (pi_list pe) (pi_tup pe)) fun σ H R q => key_seq X.K q
  | .enum e, X, N, sc, E, tgt, C, ho, ha, ht => by
    rw [okSr] at ho
    rw [askSr] at ha
    obtain ⟨h1, h2⟩ := and1 ho
    obtain ⟨elts, kk, p, rfl⟩ := ht rfl
    have pe := (sE e C h1 ha).pe
    exact PI.imp (pi_enA (gl_of C h2).1 (C.no _) (pa_cons pe pa_nil (star_pl (em_pl N e _))) (star_pl (em_pl N e _))) fun σ H R q => key_enum X.K q
  | .zip a b, X, N, sc, E, tgt, C, ho, ha, ht => by
    rw [okSr] at ho
    rw [askSr] at ha
    obtain ⟨h1, h2⟩ := and1 ho
    obtain ⟨h2, h3⟩ := and1 h2
    obtain ⟨elts, kk, p, rfl⟩ := ht rfl
    have pas := pa_cons (sE a C h1 ha.1).pe (pa_cons (sE b C h2 ha.2).pe pa_nil (star_pl (em_pl N b _))) (star_pl (em_pl N a _))
    exact PI.imp (RZ.pi_zipA (gl_of C h3).1 (C.no _) pas (star_pl (em_pl N a _)) (by rw [star_pl (em_pl N b _)]; rfl)) fun σ H R q => key_zip X.K q
  | .rng a, X, N, sc, E, tgt, C, ho, ha, ht => by
    rw [okSr] at ho
    rw [askSr] at ha
    obtain ⟨h1, h2⟩ := and1 ho
    exact PI.imp (pi_range1 (gl_of C h2).1 (C.no _) (pa_cons (sE a C h1 ha).pe pa_nil (star_pl (em_pl N a _))) (star_pl (em_pl N a _))) fun σ H R q => key_rng q
  | .rng2 a b, X, N, sc, E, tgt, C, ho, ha, ht => by
    rw [okSr] at ho
    rw [askSr] at ha
    obtain ⟨h1, h2⟩ := and1 ho
    obtain ⟨h2, h3⟩ := and1 h2
    have pas := pa_cons (sE a C h1 ha.1).pe (pa_cons (sE b C h2 ha.2).pe pa_nil (star_pl (em_pl N b _))) (star_pl (em_pl N a _))
    have e1 : starEach [(emE N a E.np.np).1, (emE N b (emE N a E.np.np).2).1] X.env = [(false, eval (emE N a E.np.np).1 X.env), (false, eval (emE N b (emE N a E.np.np).2).1 X.env)] := by
      rw [star_pl (em_pl N a _), star_pl (em_pl N b _)]; rfl
    exact PI.imp (pi_range2 (gl_of C h3).1 (C.no _) pas e1 (star_pl (em_pl N b _))) fun σ H R q => key_rng2 q
  | .rng3 a b c, X, N, sc, E, tgt, C, ho, ha, ht => by
    rw [okSr] at ho
    rw [askSr] at ha
    obtain ⟨h1, h2⟩ := and1 ho
    obtain ⟨h2, h3⟩ := and1 h2
    obtain ⟨h3, h4⟩ := and1 h3
    have pas := pa_cons (sE a C h1 ha.1).pe (pa_cons (sE b C h2 ha.2.1).pe (pa_cons (sE c C h3 ha.2.2).pe pa_nil (star_pl (em_pl N c _))) (star_pl (em_pl N b _))) (star_pl (em_pl N a _))
    exact PI.imp (pi_range3 (gl_of C h4).1 (C.no _) pas (star_pl (em_pl N a _)) (by rw [star_pl (em_pl N b _), star_pl (em_pl N c _)]; rfl)) fun σ H R q => key_rng3 q
end
end
end Fs

set_option Elab.async false
set_option linter.all false
set_option maxRecDepth 100000
set_option maxHeartbeats 8000000
namespace Fs
open PySem L2

def isLc : IE → Bool
  | .lc _ _ _ _ => true
  | _ => false
def isTup : IE → Bool
  | .tup _ => true
  | .blt .stp _ => true
  | .blt .st3 _ => true
  | _ => false
def celB (N : List Str) (sc : Scope) (i : Nat) : Bool := match sc.names.lookup (nm N i) with
  | some .cell => true
  | _ => false
def plB (N : List Str) (sc : Scope) (i : Nat) : Bool := match sc.names.lookup (nm N i) with
  | some .local => true
  | _ => false
def kindF (sc : Scope) : Bool := match sc.kind with
  | .function => true
  | _ => false
/-- how the stores of a tuple of targets go -/
def swC (sc : Scope) (ts vs : List Expr) : Option (Option (List Str)) :=
  if !(ts.length == 2 || ts.length == 3) || vs.length != ts.length then some none
  else if (vs.any fun | .Starred .. => true | _ => false) then some none
  else
    if (ts.filterMap fun | .Name id pos => if sc.names.lookup id == some .local && pos.line == (ts.head?.map (·.pos.line)).getD 0 then some id else none | _ => none).length != ts.length ||
        (ts.filterMap fun | .Name id pos => if sc.names.lookup id == some .local && pos.line == (ts.head?.map (·.pos.line)).getD 0 then some id else none | _ => none).eraseDups.length !=
          (ts.filterMap fun | .Name id pos => if sc.names.lookup id == some .local && pos.line == (ts.head?.map (·.pos.line)).getD 0 then some id else none | _ => none).length then some none
    else if vs.all (foldedForSure 8) then some none
    else if vs.all (constantsAlone 8) then none
    else some (some (ts.filterMap fun | .Name id pos => if sc.names.lookup id == some .local && pos.line == (ts.head?.map (·.pos.line)).getD 0 then some id else none | _ => none))
theorem swC_ok {env : Env} {sc : Scope} {ts vs : List Expr} {a b : Nat} {p q : Pos} {r : Option (List Str)} (hs : env.scope = sc) (hk : kindF sc = true) (h : swC sc ts vs = some r) :
    swappedStores [.Tuple ts a p] (.Tuple vs b q) env = pure r := by
  subst hs
  have bk : env.blockKind = .function := by
    unfold kindF at hk
    unfold Env.blockKind
    split at hk
    · rename_i e; rw [e]; rfl
    · cases hk
  have k2 : (env.blockKind != .function) = false := by rw [bk]; rfl
  unfold swC at h
  unfold swappedStores
  simp only [k2, Bool.or_false, Env.kindOf]
  split at h
  · rename_i z
    cases h
    exact if_pos z
  · rename_i z
    refine (if_neg z).trans ?_
    split at h
    · rename_i z
      cases h
      exact if_pos z
    · rename_i z
      refine (if_neg z).trans ?_
      split at h
      · rename_i z
        cases h
        exact if_pos z
      · rename_i z
        refine (if_neg z).trans ?_
        split at h
        · rename_i z
          cases h
          exact if_pos z
        · rename_i z
          refine (if_neg z).trans ?_
          split at h
          · cases h
          · rename_i z
            cases h
            exact if_neg z
/-- none: a tuple is made and taken apart; some: the names -/
def swB (N : List Str) (sc : Scope) (is : List Nat) (ts vs : List Expr) : Bool := match swC sc ts vs with
  | some none => true
  | some (some l) => match is with
    | [i, j] => decide (l = [nm N i, nm N j]) && (plB N sc i && (plB N sc j && decide (i ≠ j)))
    | [i, j, l2] => decide (l = [nm N i, nm N j, nm N l2]) && (plB N sc i && (plB N sc j && (plB N sc l2 && (decide (i ≠ j) && (decide (i ≠ l2) && decide (j ≠ l2))))))
    | _ => false
  | none => false

def tgB (N : List Str) (sc : Scope) (is : List Nat) : Bool := is.all fun i => locB N sc i
mutual
def okS (N : List Str) (sc : Scope) : IS → Em → Bool
  | .set i e, E => okE N sc e E.np.np && (locB N sc i && (!isLc e || celB N sc i))
  | .setLc i elt tg src ifs, E => okE N sc (.lc elt tg src ifs) E.np.np && (locB N sc i && (plB N sc i && (kindF sc && ((E.np.p.line == E.np.np.p.line) &&
      !(E.np.np.s.names.any fun (n, k) => n == nm N i && (k == .local || k == .cell))))))
  | .setT is e, E => okE N sc e (emTr N (.t is) E.np).2 && (tgB N sc is && !isTup e)
  | .set2 is es, E => okEs N sc es (emTr N (.t is) E.np).2.np && (tgB N sc is && (decide ((emEs N es (emTr N (.t is) E.np).2.np).1.length ≤ 1000) && (kindF sc &&
      swB N sc is (emNames N is E.np.np).1 (emEs N es (emTr N (.t is) E.np).2.np).1)))
  | .setIx i k e, E => okE N sc k E.np.np.np && (okE N sc e (emE N k E.np.np.np).2 && visB N sc i)
  | .pset i _ e, E => okE N sc e E.np.np.np.np && visB N sc i
  | .aug op i e, E => okE N sc e E.np.np && locB N sc i
  | .app i e, E => okE N sc e E.np.np.np.np && (visB N sc i && (E.np.np.p.endLine == E.np.p.line))
  | .ins i k e, E => okE N sc k E.np.np.np.np && (okE N sc e (emE N k E.np.np.np.np).2 && (visB N sc i && (E.np.np.p.endLine == E.np.p.line)))
  | .ext i e, E => okE N sc e E.np.np.np.np && (visB N sc i && (E.np.np.p.endLine == E.np.p.line))
  | .rev i, E => visB N sc i && (E.np.np.p.endLine == E.np.p.line)
  | .expr e, E => okE N sc e E.np && !isLc e
  | .ite c a b, E => okE N sc c E.np && (okSs N sc a (emE N c E.np).2 && okSs N sc b (emSs N a (emE N c E.np).2).2)
  | .for tg src body, E => okSr N sc src (emTr N tg E.np).2 && (tgB N sc tg.slots && ((!src.pairs || tg.isT) && okSs N sc body (emSr N src (emTr N tg E.np).2).2))
  | .while _ c body, E => okE N sc c E.np && okSs N sc body (emE N c E.np).2
  | .ret e, E => okE N sc e E.np
  | .retN, _ => true
  | .pass, _ => true
  | .brk, _ => true
  | .cont, _ => true
  | .never, _ => true
def okSs (N : List Str) (sc : Scope) : ISs → Em → Bool
  | .nil, _ => true
  | .cons s ss, E => okS N sc s E && okSs N sc ss (emS N s E).2
end

section
variable {pa : PA} {H0 G0 G G1 G2 H H1 H2 Hs : Hp} {σ σ2 : L2.St} {s s1 s2 : S} {v w : V} {d : D} {t : Tg}
/-- a value is stored -/
theorem Sim.store (S1 : Sim pa H0 G0 G σ H s) (r : RT pa H0 G σ H s v d t) {i : Nat} (hi : i < s.sl.length) : ∃ G', Sub G G' ∧ Sim pa H0 G0 G' (σ.set i (some v)) H ((s.keep t).put i (d, t.own)) := by
  cases t with
  | fresh =>
    obtain ⟨a, xs, ds, rfl, rfl, h, r, g, h0, n, o⟩ := r
    exact ⟨G, .refl, S1.putOwn hi h r g h0 n fun j e _ q z => o ⟨j, e, q, z⟩⟩
  | fz => exact ⟨G, .refl, S1.put hi r⟩
  | slot j =>
    obtain ⟨G', S2, _, k, _, rp⟩ := RT.keep S1 .refl r (fun z => by cases z)
    exact ⟨G', k, S2.put (by rw [show (s.keep (.slot j)).sl.length = s.sl.length from freeze_len s j]; exact hi) rp⟩
/-- the slot's own list is written -/
theorem Sim.ownUpd (S1 : Sim pa H0 G0 G σ H s) {i : Nat} {a : Addr} {ys : List V} {es : List D} (h : s.sl[i]? = some (some (d, true))) (hσ : σ[i]? = some (some (.ref a))) (r : Rps pa G ys es) :
    Sim pa H0 G0 G σ (upd H a (.lst ys)) (s.put i (.list es, true)) := by
  obtain ⟨b, xs, ds, e1, e2, e3, e4, e5, e6, e7⟩ := S1.ow i d h
  rw [hσ] at e1; cases e1
  have hi : i < s.sl.length := by
    rcases Nat.lt_or_ge i s.sl.length with q | q
    · exact q
    · rw [List.getElem?_eq_none q] at h; cases h
  refine ⟨by rw [put_len]; exact S1.len, fun b u hb => ?_, S1.base, S1.new, fun b u hb m => ?_, ?_, fun j e q => ?_, fun j e q => ?_, fun j k e e' b q q' p p' => ?_⟩
  · rw [upd_ne]
    · exact S1.sub b u hb
    · rintro rfl; rw [e5] at hb; cases hb
  · rw [upd_ne]
    · exact S1.kee b u hb m
    · rintro rfl; rw [e6] at hb; cases hb
  · have p := S1.pen
    show PenAt pa G _ s.pn
    cases pa with
    | none =>
      cases q : s.pn with
      | none => trivial
      | some y => rw [q] at p; exact p.elim
    | some x =>
      obtain ⟨b, c⟩ := x
      cases q : s.pn with
      | none => rw [q] at p; exact p.elim
      | some y =>
        rw [q] at p
        refine ⟨p.1, ?_, p.2.2⟩
        rw [upd_ne]
        · exact p.2.1
        · rintro rfl; exact e7 ⟨c, rfl⟩
  · by_cases z : i = j
    · subst z; rw [put_at hi] at q; cases q
    · rw [put_ne z] at q; exact S1.fz j e q
  · by_cases z : i = j
    · subst z
      rw [put_at hi] at q; cases q
      exact ⟨a, ys, es, hσ, rfl, upd_same, r, e5, e6, e7⟩
    · rw [put_ne z] at q
      obtain ⟨b, zs, fs, f1, f2, f3, f4⟩ := S1.ow j e q
      refine ⟨b, zs, fs, f1, f2, ?_, f4⟩
      rw [upd_ne]
      · exact f3
      · rintro rfl; exact z (S1.dis i j _ _ _ h q hσ f1)
  · by_cases z : i = j
    · subst z
      by_cases z' : i = k
      · exact z'
      · rw [put_ne z'] at q'
        exact S1.dis i k _ _ b h q' p p'
    · by_cases z' : i = k
      · subst z'
        rw [put_ne z] at q
        exact S1.dis j i _ _ b q h p p'
      · rw [put_ne z] at q; rw [put_ne z'] at q'; exact S1.dis j k e e' b q q' p p'

def Tg.top : Tg → Tg
  | .fresh => .fresh
  | _ => .fz
theorem Tg.top_own (t : Tg) : t.top.own = t.own := by cases t <;> rfl
/-- all values but the fresh lists are kept -/
theorem RTs.settle : ∀ {vs : List V} {xs : List (D × Tg)} {G : Hp} {s : S}, Sim pa H0 G0 G σ H s → RTs pa H0 G σ H s Hs vs xs →
    ∃ G', Sim pa H0 G0 G' σ H (s.keeps (xs.map (·.2))) ∧ Ext pa G G' H H σ s (s.keeps (xs.map (·.2))) ∧ RTs pa H0 G' σ H (s.keeps (xs.map (·.2))) Hs vs (xs.map fun x => (x.1, x.2.top))
  | [], [], G, s, S1, _ => ⟨G, S1, .refl, trivial⟩
  | v :: vs, x :: xs, G, s, S1, h => by
    obtain ⟨r, nw, ap, rs⟩ := h
    obtain ⟨d, t⟩ := x
    have ap2 : ∀ {ys : List (D × Tg)}, t.top = .fresh → (∀ p ∈ vs.zip xs, p.2.2 = .fresh → p.1 ≠ v) → ∀ p ∈ vs.zip (xs.map fun x => (x.1, x.2.top)), p.2.2 = .fresh → p.1 ≠ v := by
      intro _ _ q p hp z
      rw [List.zip_map_right, List.mem_map] at hp
      obtain ⟨⟨w, y⟩, hy, rfl⟩ := hp
      refine q (w, y) hy ?_
      obtain ⟨y1, y2⟩ := y
      cases y2 <;> first | rfl | cases z
    cases t with
    | fresh =>
      obtain ⟨G', S', E', rs'⟩ := RTs.settle S1 rs
      exact ⟨G', S', E', r.ext S' E', nw, fun z => ap2 (ys := []) rfl (ap rfl), rs'⟩
    | fz =>
      obtain ⟨G', S', E', rs'⟩ := RTs.settle S1 rs
      exact ⟨G', S', E', r.ext S' E', (fun z => by cases z), (fun z => by cases z), rs'⟩
    | slot i =>
      obtain ⟨G1, S2, E2, k1, nk, rp⟩ := RT.keep S1 (.refl : Ext pa G G H H σ s s) r (fun z => by cases z)
      obtain ⟨G', S', E', rs'⟩ := RTs.settle S2 (rs.other S1 k1 nk r fun z => by cases z)
      exact ⟨G', S', E2.trans S' E', rp.mono E'.gk, (fun z => by cases z), (fun z => by cases z), rs'⟩
  | [], _ :: _, _, _, _, h => h.elim
  | _ :: _, [], _, _, _, h => h.elim
def setsV : L2.St → List Nat → List V → L2.St
  | σ, i :: is, v :: vs => setsV (σ.set i (some v)) is vs
  | σ, _, _ => σ
theorem gn_sets : ∀ {is : List Nat} {vs : List V} {σ : L2.St} {H : Hp} {Q : L2.St → Hp → Prop}, is.length = vs.length → Q (setsV σ is vs) H → gNames is vs σ H Q
  | [], [], _, _, _, _, q => ⟨rfl, q⟩
  | i :: is, v :: vs, σ, H, Q, l, q => ⟨v, vs, rfl, gn_sets (σ := σ.set i (some v)) (by simpa using l) q⟩
  | [], _ :: _, _, _, _, l, _ => by simp at l
  | _ :: _, [], _, _, _, l, _ => by simp at l
/-- settled values are stored one by one -/
theorem puts_sim : ∀ {is : List Nat} {vs : List V} {xs : List (D × Tg)} {σ : L2.St} {s : S}, Sim pa H0 G0 G σ H s → is.length = xs.length → (is.all fun i => decide (i < s.sl.length)) = true → (∀ x ∈ xs, ∀ j, x.2 ≠ .slot j) → RTs pa H0 G σ H s Hs vs xs →
    Sim pa H0 G0 G (setsV σ is vs) H (s.puts is xs)
  | [], [], [], σ, s, S1, _, _, _, _ => S1
  | i :: is, v :: vs, (d, t) :: xs, σ, s, S1, l, hb, ns, h => by
    obtain ⟨r, nw, ap, rs⟩ := h
    simp only [List.all_cons, Bool.and_eq_true, decide_eq_true_eq] at hb
    show Sim pa H0 G0 G (setsV (σ.set i (some v)) is vs) H ((s.put i (d, t.own)).puts is xs)
    have hσ : i < σ.length := by rw [S1.len]; exact hb.1
    have S2 : Sim pa H0 G0 G (σ.set i (some v)) H (s.put i (d, t.own)) := by
      cases t with
      | fresh =>
        obtain ⟨a, xs, ds, rfl, rfl, h, r, g, h0, n, o⟩ := r
        exact S1.putOwn hb.1 h r g h0 n fun j e _ q z => o ⟨j, e, q, z⟩
      | fz => exact S1.put hb.1 r
      | slot j => exact absurd rfl (ns (d, .slot j) (by simp) j)
    have keep : ∀ {ws : List V} {ys : List (D × Tg)}, (t = .fresh → ∀ p ∈ ws.zip ys, p.2.2 = .fresh → p.1 ≠ v) → (∀ x ∈ ys, ∀ j, x.2 ≠ .slot j) → RTs pa H0 G σ H s Hs ws ys → RTs pa H0 G (σ.set i (some v)) H (s.put i (d, t.own)) Hs ws ys := by
      intro ws
      induction ws with
      | nil =>
        intro ys _ _ h
        cases ys with
        | nil => trivial
        | cons y ys => exact h.elim
      | cons w ws ih =>
        intro ys ap ns h
        cases ys with
        | nil => exact h.elim
        | cons y ys =>
          obtain ⟨r1, r2, r3, r4⟩ := h
          refine ⟨?_, r2, r3, ih (fun z p hp => ap z p (List.mem_cons_of_mem _ hp)) (fun x hx => ns x (List.mem_cons_of_mem _ hx)) r4⟩
          obtain ⟨e, u⟩ := y
          cases u with
          | fz => exact r1
          | slot j => exact absurd rfl (ns (e, .slot j) (by simp) j)
          | fresh =>
            obtain ⟨a, zs, ds, rfl, rfl, h, r, g, h0, n, o⟩ := r1
            refine ⟨a, zs, ds, rfl, rfl, h, r, g, h0, n, ?_⟩
            rintro ⟨j, e, q1, q2⟩
            by_cases z : i = j
            · subst z
              rw [put_at hb.1] at q1
              rw [set_at hσ] at q2
              cases q2
              have tf : t = .fresh := by
                cases t with
                | fresh => rfl
                | _ => cases q1
              exact ap tf (.ref a, (.list ds, .fresh)) (by simp) rfl rfl
            · rw [put_ne z] at q1
              rw [set_ne z] at q2
              exact o ⟨j, e, q1, q2⟩
    exact puts_sim S2 (by simpa using l) (by rw [put_len]; exact hb.2) (fun x hx => ns x (List.mem_cons_of_mem _ hx)) (keep ap (fun x hx => ns x (List.mem_cons_of_mem _ hx)) rs)
  | [], [], _ :: _, _, _, _, l, _, _, _ => by simp at l
  | _ :: _, _, [], _, _, _, l, _, _, _ => by simp at l
  | [], _ :: _, [], _, _, _, _, _, _, h => h.elim
  | _ :: _, [], _ :: _, _, _, _, _, _, _, h => h.elim
  | [], _ :: _, _ :: _, _, _, _, l, _, _, _ => by simp at l
theorem puts_top : ∀ (is : List Nat) (xs : List (D × Tg)) (s : S), s.puts is (xs.map fun x => (x.1, x.2.top)) = s.puts is xs
  | [], [], _ => rfl
  | [], _ :: _, _ => rfl
  | _ :: _, [], _ => rfl
  | i :: is, (d, t) :: xs, s => by
    show (s.put i (d, t.top.own)).puts is _ = (s.put i (d, t.own)).puts is xs
    rw [Tg.top_own, puts_top is xs]
theorem keeps_len : ∀ (ts : List Tg) (s : S), (s.keeps ts).sl.length = s.sl.length
  | [], _ => rfl
  | t :: ts, s => by
    show ((s.keep t).keeps ts).sl.length = _
    rw [keeps_len ts]
    cases t <;> first | rfl | exact freeze_len s _
theorem store_all {is : List Nat} {vs : List V} {xs : List (D × Tg)} (S1 : Sim pa H0 G0 G σ H s) (rs : RTs pa H0 G σ H s Hs vs xs) (l : is.length = xs.length) (hb : (is.all fun i => decide (i < s.sl.length)) = true) :
    ∃ G', Sub G G' ∧ Sim pa H0 G0 G' (setsV σ is vs) H ((s.keeps (xs.map (·.2))).puts is xs) := by
  obtain ⟨G', S', E', rs'⟩ := rs.settle S1
  refine ⟨G', E'.gk, ?_⟩
  rw [← puts_top]
  refine puts_sim S' (by rw [List.length_map]; exact l) ?_ (fun x hx j => ?_) rs'
  · rw [keeps_len]; exact hb
  · obtain ⟨y, _, rfl⟩ := List.mem_map.mp hx
    obtain ⟨y1, y2⟩ := y
    cases y2 <;> (intro z; cases z)
end
end Fs

set_option Elab.async false
set_option linter.all false
set_option maxRecDepth 100000
set_option maxHeartbeats 8000000
namespace Fs
open PySem L2

def Rt (pa : PA) (H0 G H : Hp) (v : V) (d : D) (fr : Bool) : Prop :=
  if fr = true then ∃ a xs es, v = .ref a ∧ d = .list es ∧ H a = some (.lst xs) ∧ Rps pa G xs es ∧ G a = none ∧ H0 a = none ∧ ¬ pen1 pa a else Rp pa G v d
def SPost (pa : PA) (H0 G0 G : Hp) (fl : Fl) (s1 : S) (Ds : Ends) : Prop :=
  match fl with
  | .nx => ∀ σ1 H1 G1, Sub G G1 → Sim pa H0 G0 G1 σ1 H1 s1 → Ds.nx σ1 H1
  | .brk => ∀ σ1 H1 G1, Sub G G1 → Sim pa H0 G0 G1 σ1 H1 s1 → Ds.bk σ1 H1
  | .cont => ∀ σ1 H1 G1, Sub G G1 → Sim pa H0 G0 G1 σ1 H1 s1 → Ds.ct σ1 H1
  | .ret d fr => ∀ v σ1 H1 G1, Sub G G1 → Sim pa H0 G0 G1 σ1 H1 s1 → Rt pa H0 G1 H1 v d fr → Ds.rt v H1
theorem SPost.up {pa : PA} {H0 G0 G G2 : Hp} {fl : Fl} {s1 : S} {Ds : Ends} (k : Sub G G2) (h : SPost pa H0 G0 G fl s1 Ds) : SPost pa H0 G0 G2 fl s1 Ds := by
  cases fl with
  | nx => exact fun σ1 H1 G1 u => h σ1 H1 G1 (k.trans u)
  | brk => exact fun σ1 H1 G1 u => h σ1 H1 G1 (k.trans u)
  | cont => exact fun σ1 H1 G1 u => h σ1 H1 G1 (k.trans u)
  | ret d fr => exact fun v σ1 H1 G1 u => h v σ1 H1 G1 (k.trans u)
abbrev Sv := S → Option (Fl × S)
def tF (f : Sv) : TS := fun Ds σ H => ∃ pa H0 G0 G s fl s1, Sim pa H0 G0 G σ H s ∧ f s = some (fl, s1) ∧ SPost pa H0 G0 G fl s1 Ds
theorem PS.imp {X : Cx} {st : Stmt} {t t' : TS} (h : PS X st t) (k : ∀ Ds σ H, t' Ds σ H → t Ds σ H) : PS X st t' := ⟨fun pins s σ H Ds I q => h.run pins s σ H Ds I (k Ds σ H q)⟩
theorem PSs.imp {X : Cx} {st : List Stmt} {t t' : TS} (h : PSs X st t) (k : ∀ Ds σ H, t' Ds σ H → t Ds σ H) : PSs X st t' := ⟨fun pins s σ H Ds I q => h.run pins s σ H Ds I (k Ds σ H q)⟩

section
variable {Ds : Ends} {σ : L2.St} {H : Hp}
theorem skey_cons {a : IS} {b : ISs} (h : tF (evalSs (.cons a b)) Ds σ H) : tSeq (tF (evalS a)) (tF (evalSs b)) Ds σ H := by
  obtain ⟨pa, H0, G0, G, s, fl, s2, S0, e, post⟩ := h
  rw [evalSs] at e
  obtain ⟨⟨f, s1⟩, e1, e⟩ := obind e
  dsimp only at e
  refine ⟨pa, H0, G0, G, s, f, s1, S0, e1, ?_⟩
  cases f with
  | nx => exact fun σ1 H1 G1 u S1 => ⟨pa, H0, G0, G1, s1, fl, s2, S1, e, post.up u⟩
  | brk => cases e; exact post
  | cont => cases e; exact post
  | ret d fr => cases e; exact post
theorem skey_nil (h : tF (evalSs .nil) Ds σ H) : tNext Ds σ H := by
  obtain ⟨pa, H0, G0, G, s, fl, s2, S0, e, post⟩ := h
  rw [evalSs] at e; cases e
  exact post σ H G .refl S0
theorem skey_set {i : Nat} {e : IE} (h : tF (evalS (.set i e)) Ds σ H) : tAsg (tI e) (gName i) Ds σ H := by
  obtain ⟨pa, H0, G0, G, s, fl, s2, S0, ev, post⟩ := h
  rw [evalS] at ev
  obtain ⟨⟨⟨d, t⟩, s1⟩, e1, ev⟩ := obind ev
  dsimp only at ev
  split at ev
  case isFalse => cases ev
  rename_i hi
  cases ev
  refine tV_of S0 e1 fun v H1 G1 S1 E1 R1 N1 => ?_
  obtain ⟨G', k, S'⟩ := S1.store R1 hi
  exact post _ H1 G' (E1.gk.trans k) S'
theorem skey_lc {i : Nat} {elt : IE} {tg : Tr} {src : Sr} {ifs : IEs} (K : PySem.W.Frag) (hb : src.pairs = true → tg.isT = true) (h : tF (evalS (.setLc i elt tg src ifs)) Ds σ H) : tAsg (tLc (tSr src) (tTr K tg) (tTs ifs) (tI elt) tg.slots) (gName i) Ds σ H := by
  obtain ⟨pa, H0, G0, G, s, fl, s2, S0, ev, post⟩ := h
  rw [evalS] at ev
  obtain ⟨⟨⟨items, t0⟩, s1⟩, e1, ev⟩ := obind ev
  obtain ⟨⟨ds, s3⟩, e2, ev⟩ := obind ev
  dsimp only at ev
  split at ev
  case isFalse => cases ev
  rename_i hi
  cases ev
  refine lc_ok K elt tg src ifs hb (tV_of (d := .list ds) (t := .fresh) (s1 := s3) S0 ?_ fun v H1 G1 S1 E1 R1 N1 => ?_)
  · rw [evalE, e1]
    show (lcRun (evalAll ifs) (evalE elt) tg items s1 >>= _) = _
    rw [e2]; rfl
  · obtain ⟨a, xs, es, rfl, e, ha, ra, g, h0, n, o⟩ := R1
    cases e
    exact post _ _ _ E1.gk (S1.putOwn hi ha ra g h0 n fun j e _ q z => o ⟨j, e, q, z⟩)
theorem RT.tupl {pa : PA} {H0 G0 G H : Hp} {σ : L2.St} {s : S} {v : V} {ds : List D} {t : Tg} (S1 : Sim pa H0 G0 G σ H s) (r : RT pa H0 G σ H s v (.tuple ds) t) : Rp pa G v (.tuple ds) := r.top S1
theorem skey_setT {is : List Nat} {e : IE} (K : PySem.W.Frag) (h : tF (evalS (.setT is e)) Ds σ H) : tAsg (tI e) (tTr K (.t is)) Ds σ H := by
  obtain ⟨pa, H0, G0, G, s, fl, s2, S0, ev, post⟩ := h
  rw [evalS] at ev
  obtain ⟨⟨⟨d, t⟩, s1⟩, e1, ev⟩ := obind ev
  obtain ⟨s3, e2, ev⟩ := obind ev
  cases ev
  refine tV_of S0 e1 fun v H1 G1 S1 E1 R1 N1 => ?_
  cases d with
  | tuple ds => exact bind_ok K S1 (R1.tupl S1) e2 fun σ2 S2 _ _ _ _ => post σ2 H1 G1 E1.gk S2
  | _ => simp only [S.bindT] at e2; cases e2
/-- both roads of a, b = .. -/
theorem skey_two {is : List Nat} {es : IEs} (h : tF (evalS (.set2 is es)) Ds σ H) : tAs es σ H fun vs H1 => is.length = vs.length ∧ (∀ T, H1 T = none → Ds.nx (setsV σ is vs) (upd H1 T (.tup vs))) ∧ Ds.nx (setsV σ is vs) H1 := by
  obtain ⟨pa, H0, G0, G, s, fl, s2, S0, ev, post⟩ := h
  rw [evalS] at ev
  obtain ⟨⟨xs, s1⟩, e1, ev⟩ := obind ev
  dsimp only at ev
  split at ev
  case isFalse => cases ev
  rename_i hi
  cases ev
  refine ⟨pa, H0, G0, G, s, xs, s1, S0, e1, fun vs H1 G1 S1 E1 Rs => ?_⟩
  obtain ⟨G', k, S'⟩ := store_all S1 Rs hi.1 hi.2
  exact ⟨by rw [Rs.len]; exact hi.1, fun T hT => post _ _ G' (E1.gk.trans k) (S'.grow (.upd hT)), post _ _ G' (E1.gk.trans k) S'⟩
theorem rd_at {s : S} {i : Nat} {p : D × Bool} (h : rd s i = some p) : s.sl[i]? = some (some p) := by
  unfold rd at h
  obtain ⟨o, h1, h2⟩ := Option.bind_eq_some_iff.mp h
  have h2 : o = some p := h2
  rw [h1, h2]
theorem Sim.val {pa : PA} {H0 G0 G H : Hp} {σ : L2.St} {s : S} (S0 : Sim pa H0 G0 G σ H s) {i : Nat} {p : D × Bool} (h : rd s i = some p) : ∃ v, σ[i]? = some (some v) ∧ RpT pa G H v p.1 := by
  obtain ⟨d, f⟩ := p
  have h := rd_at h
  cases f with
  | true =>
    obtain ⟨a, xs, ds, e1, rfl, e3, e4, _⟩ := S0.ow i d h
    exact ⟨_, e1, a, xs, rfl, e3, e4⟩
  | false =>
    obtain ⟨v, e1, r⟩ := S0.fz i d h
    exact ⟨v, e1, .of S0.sub r⟩
theorem skey_aug {op : Operator} {i : Nat} {e : IE} (h : tF (evalS (.aug op i e)) Ds σ H) :
    (op = .Add ∧ tAug i (tI e) (ipI fun i j => i + j) Ds σ H) ∨ (op = .Sub ∧ tAug i (tI e) (ipI fun i j => i - j) Ds σ H) := by
  obtain ⟨pa, H0, G0, G, s, fl, s2, S0, ev, post⟩ := h
  rw [evalS] at ev
  obtain ⟨⟨d0, f0⟩, e0, ev⟩ := obind ev
  obtain ⟨⟨⟨d, t⟩, s1⟩, e1, ev⟩ := obind ev
  dsimp only at ev
  obtain ⟨x, hx, rx⟩ := S0.val e0
  split at ev
  · split at ev
    · rename_i hi
      cases ev
      exact .inl ⟨rfl, x, hx, tV_of S0 e1 fun v H1 G1 S1 E1 R1 N1 => ⟨_, _, rx.int, (R1.top S1).int, post _ H1 G1 E1.gk (S1.put hi (.int _))⟩⟩
    · cases ev
  · split at ev
    · rename_i hi
      cases ev
      exact .inr ⟨rfl, x, hx, tV_of S0 e1 fun v H1 G1 S1 E1 R1 N1 => ⟨_, _, rx.int, (R1.top S1).int, post _ H1 G1 E1.gk (S1.put hi (.int _))⟩⟩
    · cases ev
  · cases ev
theorem own_at {pa : PA} {H0 G0 G H : Hp} {σ : L2.St} {s : S} (S0 : Sim pa H0 G0 G σ H s) {i : Nat} {d : D} (h : rd s i = some (d, true)) : ∃ a xs ds, σ[i]? = some (some (V.ref a)) ∧ d = .list ds ∧ H a = some (.lst xs) ∧ Rps pa G xs ds := by
  obtain ⟨a, xs, ds, e1, e2, e3, e4, _⟩ := S0.ow i d (rd_at h)
  exact ⟨a, xs, ds, e1, e2, e3, e4⟩
theorem skey_app {i : Nat} {e : IE} (K : PySem.W.Frag) (h : tF (evalS (.app i e)) Ds σ H) : tDrop (tBM K "list" rAppend (tVar i) (tCons (tI e) tNil)) Ds σ H := by
  obtain ⟨pa, H0, G0, G, s, fl, s2, S0, ev, post⟩ := h
  rw [evalS] at ev
  obtain ⟨⟨d0, f0⟩, e0, ev⟩ := obind ev
  obtain ⟨⟨⟨d, t⟩, s1⟩, e1, ev⟩ := obind ev
  dsimp only at ev
  have key : ∃ xs, f0 = true ∧ rd (s1.keep t) i = some (.list xs, true) ∧ (if xs.length < sizeLine then some (Fl.nx, (s1.keep t).put i (.list (xs ++ [d]), true)) else none) = some (fl, s2) := by
    split at ev
    · exact ⟨_, by first | rfl | assumption, by assumption, ev⟩
    · cases ev
  obtain ⟨xs, hf, hr, ev9⟩ := key
  clear ev
  subst hf
  · by_cases hl : xs.length < sizeLine
    · rw [if_pos hl] at ev9
      cases ev9
      obtain ⟨a, ys, ds, ea, rfl, ha, ra⟩ := own_at S0 e0
      refine ⟨.ref a, ea, .inl ⟨rfl, ys, .of ha⟩, tV_of S0 e1 fun v H1 G1 S1 E1 R1 N1 => ?_⟩
      obtain ⟨G', S', E', k, _, rp⟩ := R1.keep S1 E1 N1
      obtain ⟨b, zs, es, eb, ez, hb, rb⟩ := own_at S' hr
      rw [ea] at eb; cases eb
      cases ez
      exact ⟨a, zs, v, rfl, rfl, hb, by rw [rb.len]; exact hl, post _ _ G' E'.gk (S'.ownUpd (rd_at hr) ea (rb.app (.cons rp .nil)))⟩
    · rw [if_neg hl] at ev9; cases ev9
def rInsert : V → List V → Hp → VK → Prop := fun x vs H Q => ∃ (l : Addr) (xs : List V) (i : Int) (y : V), x = .ref l ∧ vs = [.int i, y] ∧ H l = some (.lst xs) ∧ xs.length < sizeLine ∧ 0 ≤ i ∧ i < 2 ^ 63 ∧
    Q .non (upd H l (.lst (xs.take i.toNat ++ [y] ++ xs.drop i.toNat)))
theorem skey_ins {i : Nat} {k e : IE} (K : PySem.W.Frag) (h : tF (evalS (.ins i k e)) Ds σ H) : tDrop (tBM K "list" rInsert (tVar i) (tCons (tI k) (tCons (tI e) tNil))) Ds σ H := by
  obtain ⟨pa, H0, G0, G, s, fl, s2, S0, ev, post⟩ := h
  rw [evalS] at ev
  obtain ⟨⟨d0, f0⟩, e0, ev⟩ := obind ev
  obtain ⟨⟨⟨kd, tk⟩, s0⟩, ek, ev⟩ := obind ev
  obtain ⟨⟨⟨d, t⟩, s1⟩, e1, ev⟩ := obind ev
  dsimp only at ev
  have key : ∃ xs n, f0 = true ∧ rd (s1.keep t) i = some (.list xs, true) ∧ kd = .int n ∧ (if xs.length < sizeLine ∧ 0 ≤ n ∧ n < 2 ^ 63 then some (Fl.nx, (s1.keep t).put i (.list (xs.take n.toNat ++ [d] ++ xs.drop n.toNat), true)) else none) = some (fl, s2) := by
    split at ev
    · exact ⟨_, _, by first | rfl | assumption, by assumption, by first | rfl | assumption, ev⟩
    · cases ev
  obtain ⟨xs, n, hf, hr, hk, ev9⟩ := key
  clear ev
  subst hf hk
  by_cases hl : xs.length < sizeLine ∧ 0 ≤ n ∧ n < 2 ^ 63
  · rw [if_pos hl] at ev9
    cases ev9
    obtain ⟨a, ys, ds, ea, rfl, ha, ra⟩ := own_at S0 e0
    refine ⟨.ref a, ea, .inl ⟨rfl, ys, .of ha⟩, tV_of S0 ek fun w Ha Ga Sa Ea Ra Na => ?_⟩
    refine tV_of Sa e1 fun v H1 G1 S1 E1 R1 N1 => ?_
    obtain ⟨G', S', E', k, _, rp⟩ := R1.keep S1 E1 N1
    obtain ⟨b, zs, es, eb, ez, hb, rb⟩ := own_at S' hr
    rw [ea] at eb; cases eb
    cases ez
    exact ⟨a, zs, n, v, rfl, by rw [(Ra.top Sa).int], hb, by rw [rb.len]; exact hl.1, hl.2.1, hl.2.2, post _ _ G' (Ea.gk.trans E'.gk) (S'.ownUpd (rd_at hr) ea (((rb.take n.toNat).app (.cons rp .nil)).app (rb.drop n.toNat)))⟩
  · rw [if_neg hl] at ev9; cases ev9
theorem skey_ext {i : Nat} {e : IE} (K : PySem.W.Frag) (h : tF (evalS (.ext i e)) Ds σ H) : tDrop (tBM K "list" rExtend (tVar i) (tCons (tI e) tNil)) Ds σ H := by
  obtain ⟨pa, H0, G0, G, s, fl, s2, S0, ev, post⟩ := h
  rw [evalS] at ev
  obtain ⟨⟨d0, f0⟩, e0, ev⟩ := obind ev
  obtain ⟨⟨⟨d, t⟩, s1⟩, e1, ev⟩ := obind ev
  dsimp only at ev
  have key : ∃ xs ys, f0 = true ∧ rd (s1.keep t) i = some (.list xs, true) ∧ d = .list ys ∧ (if xs.length + ys.length ≤ sizeLine then some (Fl.nx, (s1.keep t).put i (.list (xs ++ ys), true)) else none) = some (fl, s2) := by
    split at ev
    · exact ⟨_, _, by first | rfl | assumption, by assumption, by first | rfl | assumption, ev⟩
    · cases ev
  obtain ⟨xs, ys, hf, hr, hd, ev9⟩ := key
  clear ev
  subst hf hd
  · by_cases hl : xs.length + ys.length ≤ sizeLine
    · rw [if_pos hl] at ev9
      cases ev9
      obtain ⟨a, ws, ds, ea, rfl, ha, ra⟩ := own_at S0 e0
      refine ⟨.ref a, ea, .inl ⟨rfl, ws, .of ha⟩, tV_of S0 e1 fun v H1 G1 S1 E1 R1 N1 => ?_⟩
      obtain ⟨G', S', E', k, _, rp⟩ := R1.keep S1 E1 N1
      obtain ⟨b, zs, es, eb, ez, hb, rb⟩ := own_at S' hr
      rw [ea] at eb; cases eb
      cases ez
      cases rp with
      | lst hc rc =>
        exact ⟨a, _, zs, _, rfl, rfl, hb, S'.sub _ _ hc, by rw [rb.len, rc.len]; exact hl, post _ _ G' E'.gk (S'.ownUpd (rd_at hr) ea (rb.app rc))⟩
    · rw [if_neg hl] at ev9; cases ev9
theorem skey_rev {i : Nat} (K : PySem.W.Frag) (h : tF (evalS (.rev i)) Ds σ H) : tDrop (tBM0 K "list" rReverse (tVar i)) Ds σ H := by
  obtain ⟨pa, H0, G0, G, s, fl, s2, S0, ev, post⟩ := h
  rw [evalS] at ev
  split at ev
  · rename_i xs hr
    cases ev
    obtain ⟨a, ys, ds, ea, ez, ha, ra⟩ := own_at S0 hr
    cases ez
    exact ⟨.ref a, ea, .inl ⟨rfl, ys, .of ha⟩, a, ys, rfl, rfl, ha, post _ _ G .refl (S0.ownUpd (rd_at hr) ea ra.rev)⟩
  · cases ev
theorem ixN_len {n m : Nat} {k : Int} {j : Nat} (e : n = m) (h : ixN n k = some j) : ixN m k = some j := e ▸ h
theorem skey_setIx {i : Nat} {k e : IE} (h : tF (evalS (.setIx i k e)) Ds σ H) : tAsg (tI e) (gSub (tVar i) (tI k) rSetL) Ds σ H := by
  obtain ⟨pa, H0, G0, G, s, fl, s2, S0, ev, post⟩ := h
  rw [evalS] at ev
  obtain ⟨⟨d0, f0⟩, e0, ev⟩ := obind ev
  obtain ⟨⟨⟨d, t⟩, s1⟩, e1, ev⟩ := obind ev
  obtain ⟨⟨⟨kd, t2⟩, s3⟩, e2, ev⟩ := obind ev
  dsimp only at ev
  obtain ⟨x, hx, _⟩ := S0.val e0
  split at ev
  · rename_i xs n hr
    obtain ⟨j, hj, ev⟩ := Option.map_eq_some_iff.mp ev
    cases ev
    refine tV_of S0 e1 fun v H1 G1 S1 E1 R1 N1 => ⟨x, hx, ?_⟩
    obtain ⟨G', S', E', k1, _, rp⟩ := R1.keep S1 E1 N1
    refine tV_of S' e2 fun w H2 G2 S2 E2 R2 N2 => ?_
    obtain ⟨a, zs, es, ea, ez, ha, ra⟩ := own_at S2 hr
    rw [hx] at ea; cases ea
    cases ez
    exact ⟨a, zs, n, j, rfl, (R2.top S2).int, ha, ixN_len ra.len.symm hj, post _ _ G2 (E'.gk.trans E2.gk) (S2.ownUpd (rd_at hr) hx ((rp.mono E2.gk) |> fun r => ra.set r j))⟩
  · cases ev
theorem Sim.penUpd {pa : PA} {H0 G0 G : Hp} {s : S} (S0 : Sim pa H0 G0 G σ H s) {a c : Addr} {q : Pn} (hpa : pa = some (a, c)) (hp : s.pn = some q) {m r : Int} : Sim pa H0 G0 G σ (upd H a (.lst [.ref c, .int m, .int r])) { s with pn := some ⟨q.cells, m, r⟩ } := by
  have p := S0.pen
  rw [hp] at p
  subst hpa
  refine ⟨S0.len, fun b u h => ?_, S0.base, S0.new, fun b u h n => ?_, ⟨p.1, upd_same, p.2.2.1, p.2.2.2⟩, S0.fz, fun i d h => ?_, S0.dis⟩
  · rw [upd_ne]
    · exact S0.sub b u h
    · rintro rfl; rw [p.2.2.2] at h; cases h
  · rw [upd_ne]
    · exact S0.kee b u h n
    · rintro rfl; exact n ⟨c, rfl⟩
  · obtain ⟨b, xs, ds, e1, e2, e3, e4, e5, e6, e7⟩ := S0.ow i d h
    refine ⟨b, xs, ds, e1, e2, ?_, e4, e5, e6, e7⟩
    rw [upd_ne]
    · exact e3
    · rintro rfl; exact e7 ⟨c, rfl⟩
theorem isPen_ext {pa : PA} {G G1 H1 : Hp} {s s1 : S} (E : Ext pa G G1 H H1 σ s s1) {i : Nat} (h : isPen (rd s i) = true) : isPen (rd s1 i) = true := by
  obtain ⟨f, e, k⟩ := E.sl i _ _ (isPen_at h)
  have : f = false := by
    cases f with
    | false => rfl
    | true => exact absurd (k rfl) (by decide)
  subst this
  have : rd s1 i = some (.dict [], false) := by unfold rd; rw [e]; rfl
  rw [this]; rfl
theorem skey_pset {i j : Nat} {e : IE} (h : tF (evalS (.pset i j e)) Ds σ H) : tAsg (tI e) (gSub (tVar i) (tC (.int (j : Nat))) rSetL) Ds σ H := by
  obtain ⟨pa, H0, G0, G, s, fl, s2, S0, ev, post⟩ := h
  rw [evalS] at ev
  obtain ⟨⟨⟨d, t⟩, s1⟩, e1, ev⟩ := obind ev
  dsimp only at ev
  have key : ∃ n, isPen (rd s i) = true ∧ d = .int n ∧ ((s1.pn.bind (penSet j n)).map fun q => (Fl.nx, { s1 with pn := some q })) = some (fl, s2) := by
    split at ev
    · exact ⟨_, by assumption, by first | rfl | assumption, ev⟩
    · cases ev
  obtain ⟨n, hi, hd, ev9⟩ := key
  clear ev
  subst hd
  obtain ⟨q2, e2, e3⟩ := Option.map_eq_some_iff.mp ev9
  cases e3
  obtain ⟨q, hq, e9⟩ := Option.bind_eq_some_iff.mp e2
  clear e2 ev9
  refine tV_of S0 e1 fun v H1 G1 S1 E1 R1 N1 => ?_
  obtain ⟨a, c, hpa, hσ, ha, hc, _⟩ := pen_val S1 (isPen_ext E1 hi) hq
  have hv : v = .int n := (R1.top S1).int
  subst hv
  refine ⟨_, hσ, a, [.ref c, .int q.a, .int q.r], ((j : Nat) : Int), j, rfl, rfl, ha, ?_⟩
  unfold penSet at e9
  split at e9
  · rename_i hj
    subst hj
    cases e9
    exact ⟨rfl, post _ _ G1 E1.gk (S1.penUpd hpa hq)⟩
  · split at e9
    · rename_i hj
      subst hj
      cases e9
      exact ⟨rfl, post _ _ G1 E1.gk (S1.penUpd hpa hq)⟩
    · cases e9
theorem skey_expr {e : IE} (h : tF (evalS (.expr e)) Ds σ H) : tDrop (tI e) Ds σ H := by
  obtain ⟨pa, H0, G0, G, s, fl, s2, S0, ev, post⟩ := h
  rw [evalS] at ev
  obtain ⟨⟨⟨d, t⟩, s1⟩, e1, ev⟩ := obind ev
  cases ev
  exact tV_of S0 e1 fun v H1 G1 S1 E1 R1 N1 => post σ H1 G1 E1.gk S1
theorem skey_ite {c : IE} {a b : ISs} (h : tF (evalS (.ite c a b)) Ds σ H) : tIfS (tQ fun s => boolD (evalE c s)) (tF (evalSs a)) (tF (evalSs b)) Ds σ H := by
  obtain ⟨pa, H0, G0, G, s, fl, s2, S0, ev, post⟩ := h
  rw [evalS] at ev
  obtain ⟨⟨k, s1⟩, e1, ev⟩ := obind ev
  dsimp only at ev
  refine tQ_of S0 e1 fun H1 G1 S1 E1 => ?_
  cases k with
  | true =>
    rw [if_pos rfl] at ev ⊢
    exact ⟨pa, H0, G0, G1, s1, fl, s2, S1, ev, post.up E1.gk⟩
  | false =>
    rw [if_neg (by decide)] at ev ⊢
    exact ⟨pa, H0, G0, G1, s1, fl, s2, S1, ev, post.up E1.gk⟩
theorem skey_ret {e : IE} (h : tF (evalS (.ret e)) Ds σ H) : tRet (tI e) Ds σ H := by
  obtain ⟨pa, H0, G0, G, s, fl, s2, S0, ev, post⟩ := h
  rw [evalS] at ev
  obtain ⟨⟨⟨d, t⟩, s1⟩, e1, ev⟩ := obind ev
  cases ev
  refine tV_of S0 e1 fun v H1 G1 S1 E1 R1 N1 => post v σ H1 G1 E1.gk S1 ?_
  cases t with
  | fz => exact R1
  | fresh =>
    obtain ⟨a, xs, es, e1, e2, e3, e4, e5, e6, e7, _⟩ := R1
    exact ⟨a, xs, es, e1, e2, e3, e4, e5, e6, e7⟩
  | slot i =>
    obtain ⟨f, h1, h2⟩ := R1
    have hr : rd s2 i = some (d, f) := by unfold rd; rw [h1]; rfl
    dsimp only
    rw [hr]
    cases f with
    | true =>
      obtain ⟨a, xs, es, e1, e2, e3, e4, e5, e6, e7⟩ := S1.ow i d h1
      rw [h2] at e1; cases e1
      exact ⟨a, xs, es, rfl, e2, e3, e4, e5, e6, e7⟩
    | false =>
      obtain ⟨w, e1, r⟩ := S1.fz i d h1
      rw [h2] at e1; cases e1
      exact r
theorem skey_while {n : Nat} {c : IE} {body : ISs} (h : tF (evalS (.while n c body)) Ds σ H) : tWhile (tQ fun s => boolD (evalE c s)) (tF (evalSs body)) Ds σ H := by
  obtain ⟨pa, H0, G0, G, s, fl, sE, S0, ev, post⟩ := h
  rw [evalS] at ev
  refine ⟨fun m σ' H' => ∃ G' s', Sub G G' ∧ Sim pa H0 G0 G' σ' H' s' ∧ wGo (fun s => boolD (evalE c s)) (evalSs body) m s' = some (fl, sE), ⟨n, G, s, .refl, S0, ev⟩, ?_⟩
  rintro m σ' H' ⟨G', s', u, S', e⟩
  cases m with
  | zero => rw [wGo] at e; cases e
  | succ m =>
    rw [wGo] at e
    obtain ⟨⟨b, s1⟩, e1, e⟩ := obind e
    dsimp only at e
    refine tQ_of S' e1 fun H1 G1 S1 E1 => ?_
    have u1 := u.trans E1.gk
    cases b with
    | false =>
      rw [if_neg (by decide)] at e ⊢
      cases e
      exact post σ' H1 G1 u1 S1
    | true =>
      rw [if_pos rfl] at e ⊢
      obtain ⟨⟨f, s2⟩, e2, e⟩ := obind e
      dsimp only at e
      refine ⟨fun σ2 H2 => ∃ G2 s2, Sub G G2 ∧ Sim pa H0 G0 G2 σ2 H2 s2 ∧ wGo (fun s => boolD (evalE c s)) (evalSs body) m s2 = some (fl, sE), fun σ2 H2 q => ⟨m, Nat.lt_succ_self m, q⟩, pa, H0, G0, G1, s1, f, s2, S1, e2, ?_⟩
      cases f with
      | nx => exact fun σ2 H2 G2 k S2 => ⟨G2, s2, u1.trans k, S2, e⟩
      | cont => exact fun σ2 H2 G2 k S2 => ⟨G2, s2, u1.trans k, S2, e⟩
      | brk => cases e; exact fun σ2 H2 G2 k S2 => post σ2 H2 G2 (u1.trans k) S2
      | ret d fr => cases e; exact fun v σ2 H2 G2 k S2 r => post v σ2 H2 G2 (u1.trans k) S2 r
theorem skey_for (K : PySem.W.Frag) {tg : Tr} {src : Sr} {body : ISs} (hb : src.pairs = true → tg.isT = true) (h : tF (evalS (.for tg src body)) Ds σ H) : tFor (tSr src) (tTr K tg) (tF (evalSs body)) Ds σ H := by
  obtain ⟨pa, H0, G0, G, s, fl, sE, S0, ev, post⟩ := h
  rw [evalS] at ev
  obtain ⟨⟨⟨items, t⟩, s1⟩, e1, ev⟩ := obind ev
  dsimp only at ev
  refine ⟨pa, H0, G0, G, s, items, t, s1, S0, e1, fun J H1 G1 v d S1 E1 R1 N1 ok => ?_⟩
  obtain ⟨G', S', E', k1, _, rp⟩ := R1.keep S1 E1 N1
  obtain ⟨Gd, Y, w, hg, hy⟩ := ok.2 G' k1 rp
  refine for_it w (fun i σ' H' => ∃ G2 s2, Sub G' G2 ∧ Sim pa H0 G0 G2 σ' H' s2 ∧ fGo tg (evalSs body) (items.drop i) s2 = some (fl, sE)) ⟨G', s1.keep t, .refl, S', ev⟩ ?_ ?_ ?_
  · rintro i σ' H' _ ⟨G2, s2, u, S2, _⟩
    exact hg H' (u.trans S2.sub)
  · rintro i x σ' H' H'' hi ⟨G2, s2, u, S2, e⟩ y
    obtain ⟨d2, hd, res⟩ := hy i H' x H'' hi (hg H' (u.trans S2.sub)) y
    have edrop : items.drop i = d2 :: items.drop (i + 1) := by
      obtain ⟨hlt, e⟩ := List.getElem?_eq_some_iff.mp hd
      rw [List.drop_eq_getElem_cons hlt, e]
    rw [edrop, fGo] at e
    obtain ⟨sb, eb, e⟩ := obind e
    obtain ⟨⟨f, s3⟩, e2, e⟩ := obind e
    dsimp only at e
    refine item_ok K hb S2 (res.mono u) eb fun Gb σ3 Eb S3 _ _ _ _ => ⟨pa, H0, G0, Gb, sb, f, s3, S3, e2, ?_⟩
    have ub := u.trans Eb.gk
    have uG : ∀ {G2}, Sub Gb G2 → Sub G G2 := fun k => (E'.gk.trans ub).trans k
    cases f with
    | nx => exact fun σ4 H4 G4 k S4 => ⟨G4, s3, ub.trans k, S4, e⟩
    | cont => exact fun σ4 H4 G4 k S4 => ⟨G4, s3, ub.trans k, S4, e⟩
    | brk => cases e; exact fun σ4 H4 G4 k S4 => post σ4 H4 G4 (uG k) S4
    | ret d fr => cases e; exact fun v σ4 H4 G4 k S4 r => post v σ4 H4 G4 (uG k) S4 r
  · rintro σ' H' ⟨G2, s2, u, S2, e⟩
    rw [List.drop_length, fGo] at e
    cases e
    exact post σ' H' G2 (E'.gk.trans u) S2
end
end Fs

set_option Elab.async false
set_option linter.all false
set_option maxRecDepth 100000
set_option maxHeartbeats 8000000
namespace Fs
open PySem L2

def nolcX : Expr → Bool
  | .ListComp _ _ _ _ => false
  | .SetComp _ _ _ _ => false
  | .DictComp _ _ _ _ _ => false
  | _ => true
theorem em_nolc (N : List Str) {e : IE} (E : Em) (h : isLc e = false) : nolcX (emE N e E).1 = true := by
  cases e with
  | lc _ _ _ _ => cases h
  | blt f es => cases f <;> first | rfl | cases h
  | tab m _ _ _ => cases m <;> rfl
  | _ => rfl
theorem sw_nolc {e : Expr} {t : Option Expr} {l : Nat} {env : Env} (h : nolcX e = true) : swapsWith e t l env = pure false := by
  cases e <;> first | rfl | cases h
theorem sw_cell {e : Expr} {y : Str} {p : Pos} {l : Nat} {env : Env} (h : env.scope.names.lookup y = some .cell) : swapsWith e (some (.Name y p)) l env = pure false := by
  have k : env.kindOf y = some .cell := h
  have k2 : (env.kindOf y == some NameKind.local) = false := by rw [k]; rfl
  cases e <;> first | rfl | (unfold swapsWith; simp only [k2, Bool.and_false, Bool.false_and])
theorem sw_tup {e : Expr} {ts : List Expr} {n : Nat} {p : Pos} {l : Nat} {env : Env} : swapsWithSole [.Tuple ts n p] e l env = pure false := by
  cases e <;> rfl
theorem sw_sub {e o k : Expr} {p : Pos} {l : Nat} {env : Env} : swapsWithSole [.Subscript o k p] e l env = pure false := by
  cases e <;> rfl
def notupX : Expr → Bool
  | .Tuple _ _ _ => false
  | _ => true
theorem em_notup (N : List Str) {e : IE} (E : Em) (h : isTup e = false) : notupX (emE N e E).1 = true := by
  cases e with
  | tup _ => cases h
  | blt f es => cases f <;> first | rfl | cases h
  | tab m _ _ _ => cases m <;> rfl
  | _ => rfl
theorem ss_notup {e : Expr} {ts : List Expr} {n : Nat} {p : Pos} {env : Env} (h : notupX e = true) : swappedStores [.Tuple ts n p] e env = pure none := by
  cases e <;> first | rfl | cases h
theorem asg_sub {o k : Expr} {p : Pos} {env : Env} (h : plX k = true) : ∀ v, assign (.Subscript o k p) env v = (do
      let ov ← holding [v] (eval o env)
      let iv ← holding [v, ov] (eval k env)
      standAt p
      holding [v, ov, iv] (setItem ov iv v)
      release [v, ov, iv] []) := by
  cases k <;> first | (intro v; rfl) | cases h

structure Bd (X : Cx) : Prop where
  passes : PassesOwn (model X.prog X.w) X.A X.env X.xe
  fn : ∀ x, X.fn x = true
theorem bd0 {X : Cx} (xe : X.xe = fun _ _ => False) (fn : ∀ x, X.fn x = true) : Bd X := ⟨by rw [xe]; exact PassesOwn.never, fn⟩
theorem tg_of {X : Cx} {sc : Scope} {k : Nat} (C : Cd X X.N sc k) (B : Bd X) {is : List Nat} (h : tgB X.N sc is = true) : ∀ i ∈ is, X.N[i]? = some (nm X.N i) ∧ Loc X.env.scope (nm X.N i) ∧ (X.fn (nm X.N i) = true ∨ X.env.scope.names.lookup (nm X.N i) = some .local) := fun i hi => by
  obtain ⟨l1, l2⟩ := loc_of (List.all_eq_true.mp h i hi)
  exact ⟨l1, by rw [C.hs]; exact l2, .inl (B.fn _)⟩

section
variable {k : Nat}
theorem lc_pairs {N : List Str} {elt : IE} {tg : Tr} {src : Sr} {ifs : IEs} {sc : Scope} {E : Em} (ho : okE N sc (.lc elt tg src ifs) E = true) (hp : src.pairs = true) : tg.isT = true := by
  rw [okE] at ho
  have h := (and1 (and1 (and1 ho).2).1).1
  rw [hp] at h
  cases tg with
  | v i => cases h
  | t is => rfl
theorem lc_parts (elt : IE) (tg : Tr) (src : Sr) (ifs : IEs) {X : Cx} {sc : Scope} {E : Em} (C : Cd X X.N sc k) (ho : okE X.N sc (.lc elt tg src ifs) E = true) (ha : askE (askOf (wdOf X) k) (.lc elt tg src ifs)) :
    PI X (emTr X.N tg (emE X.N elt E.np.ns).2).1 (emSr X.N src (emTr X.N tg (emE X.N elt E.np.ns).2).2).1 (tSr src) ∧ BlkOk X.N X.env.scope E.s (ownOf X.N tg.slots) ∧
    (∀ (s : Shared) (H : Hp) (A : Addr) (cl : List (Str × Addr)) (fp : List Addr), PG (X.blk s H E.s (compEnvC E.s cl A X.env) fp) (emTr X.N tg (emE X.N elt E.np.ns).2).1 (tTr X.K tg)) ∧
    (∀ (s : Shared) (H : Hp) (A : Addr) (cl : List (Str × Addr)) (fp : List Addr), PTs (X.blk s H E.s (compEnvC E.s cl A X.env) fp) (emEs X.N ifs (emSr X.N src (emTr X.N tg (emE X.N elt E.np.ns).2).2).2).1 (tTs ifs)) ∧
    (∀ (s : Shared) (H : Hp) (A : Addr) (cl : List (Str × Addr)) (fp : List Addr), PE (X.blk s H E.s (compEnvC E.s cl A X.env) fp) (emE X.N elt E.np.ns).1 (tI elt)) := by
  rw [okE] at ho
  rw [askE] at ha
  obtain ⟨h1, ho⟩ := and1 ho
  obtain ⟨h2, ho⟩ := and1 ho
  obtain ⟨h2, h3⟩ := and1 h2
  obtain ⟨h4, h5⟩ := and1 ho
  obtain ⟨h6, h7⟩ := and1 h4
  obtain ⟨h8, h9⟩ := and1 h5
  obtain ⟨h10, h11⟩ := and1 h9
  refine ⟨sSr src C h8 ha.2.1 fun hp => ?_, by rw [C.hs]; exact blkOk_by h3, fun s H A cl fp => ?_, fun s H A cl fp => sTs ifs (C.blk E.s s H A cl fp) h10 ha.2.2 (of_decide_eq_true h11), fun s H A cl fp => (sE elt (C.blk E.s s H A cl fp) h1 ha.1).pe⟩
  · rw [hp] at h2
    cases tg with
    | v i => cases h2
    | t is => exact ⟨_, _, _, rfl⟩
  · refine pg_tr (X := X.blk s H E.s (compEnvC E.s cl A X.env) fp) C.nd C.calm tg _ fun i hi => ?_
    obtain ⟨l1, l2⟩ := loc_of (List.all_eq_true.mp h6 i hi)
    refine ⟨l1, ?_, ?_⟩
    · rcases l2 with l2 | l2
      · exact .inl (lookup_relS_keep (by decide) l2)
      · exact .inr (lookup_relS_keep (by decide) l2)
    · rcases l2 with l2 | l2
      · exact .inr (lookup_relS_keep (by decide) l2)
      · refine .inl ?_
        show (E.s.names.lookup (nm X.N i) == some .cell) = true
        rw [l2]; rfl
theorem pl_of {N : List Str} {sc : Scope} {i : Nat} (h : plB N sc i = true) : sc.names.lookup (nm N i) = some .local := by
  unfold plB at h
  split at h
  · assumption
  · cases h
theorem cel_of {N : List Str} {sc : Scope} {i : Nat} (h : celB N sc i = true) : sc.names.lookup (nm N i) = some .cell := by
  unfold celB at h
  split at h
  · assumption
  · cases h
theorem kind_of {sc : Scope} (h : kindF sc = true) : sc.kind = .function := by
  unfold kindF at h
  split at h
  · assumption
  · cases h
theorem swC_len {sc : Scope} {ts vs : List Expr} {l : List Str} (h : swC sc ts vs = some (some l)) : vs.length = ts.length := by
  unfold swC at h
  split at h
  · cases h
  · rename_i z
    simp only [Bool.or_eq_true, not_or] at z
    simpa using z.2
theorem em_names_len (N : List Str) : ∀ (is : List Nat) (E : Em), (emNames N is E).1.length = is.length
  | [], _ => rfl
  | i :: is, E => by
    show ((Expr.Name (nm N i) E.p) :: (emNames N is E.np).1).length = _
    rw [List.length_cons, em_names_len N is, List.length_cons]

theorem s_par2 {i j : Nat} {a b : IE} {X : Cx} {sc : Scope} {E : Em} {p1 p2 pt pt2 pos : Pos} {n n2 : Nat} (C : Cd X X.N sc k) (B : Bd X) (h2 : tgB X.N sc [i, j] = true) (h7 : plB X.N sc i = true) (h8 : plB X.N sc j = true) (h9 : i ≠ j)
    (pas : L2.PA X (emEs X.N (.cons a (.cons b .nil)) E).1 (tAs (.cons a (.cons b .nil))))
    (hw : swappedStores [.Tuple [.Name (nm X.N i) p1, .Name (nm X.N j) p2] n pt] (.Tuple (emEs X.N (.cons a (.cons b .nil)) E).1 n2 pt2) X.env = pure (some [nm X.N i, nm X.N j])) :
    PS X (.Assign [.Tuple [.Name (nm X.N i) p1, .Name (nm X.N j) p2] n pt] (.Tuple (emEs X.N (.cons a (.cons b .nil)) E).1 n2 pt2) pos) (tF (evalS (.set2 [i, j] (.cons a (.cons b .nil))))) := by
  have ti := tg_of C B h2 i (by simp)
  have tj := tg_of C B h2 j (by simp)
  refine PS.imp (ps_par C.calm C.nd ti.1 tj.1 h9 (by rw [C.hs]; exact pl_of h7) (by rw [C.hs]; exact pl_of h8) pas hw sw_tup) fun Ds σ H q => ?_
  obtain ⟨pa, H0, G0, G, s, xs, s1, S0, e1, kk⟩ := skey_two q
  refine ⟨pa, H0, G0, G, s, xs, s1, S0, e1, fun vs H1 G1 S1 E1 Rs => ?_⟩
  obtain ⟨l, _, kq⟩ := kk vs H1 G1 S1 E1 Rs
  match vs, l, kq with
  | [v, w], _, kq => exact ⟨v, w, rfl, kq⟩
theorem s_par3 {i j l : Nat} {a b c : IE} {X : Cx} {sc : Scope} {E : Em} {p1 p2 p3 pt pt2 pos : Pos} {n n2 : Nat} (C : Cd X X.N sc k) (B : Bd X) (h2 : tgB X.N sc [i, j, l] = true) (h7 : plB X.N sc i = true) (h8 : plB X.N sc j = true) (h6 : plB X.N sc l = true) (h9 : i ≠ j) (h10 : i ≠ l) (h11 : j ≠ l)
    (pas : L2.PA X (emEs X.N (.cons a (.cons b (.cons c .nil))) E).1 (tAs (.cons a (.cons b (.cons c .nil)))))
    (hw : swappedStores [.Tuple [.Name (nm X.N i) p1, .Name (nm X.N j) p2, .Name (nm X.N l) p3] n pt] (.Tuple (emEs X.N (.cons a (.cons b (.cons c .nil))) E).1 n2 pt2) X.env = pure (some [nm X.N i, nm X.N j, nm X.N l])) :
    PS X (.Assign [.Tuple [.Name (nm X.N i) p1, .Name (nm X.N j) p2, .Name (nm X.N l) p3] n pt] (.Tuple (emEs X.N (.cons a (.cons b (.cons c .nil))) E).1 n2 pt2) pos) (tF (evalS (.set2 [i, j, l] (.cons a (.cons b (.cons c .nil)))))) := by
  have ti := tg_of C B h2 i (by simp)
  have tj := tg_of C B h2 j (by simp)
  have tl := tg_of C B h2 l (by simp)
  refine PS.imp (ps_par3 C.calm C.nd ti.1 tj.1 tl.1 h9 h10 h11 (by rw [C.hs]; exact pl_of h7) (by rw [C.hs]; exact pl_of h8) (by rw [C.hs]; exact pl_of h6) pas hw sw_tup) fun Ds σ H q => ?_
  obtain ⟨pa, H0, G0, G, s, xs, s1, S0, e1, kk⟩ := skey_two q
  refine ⟨pa, H0, G0, G, s, xs, s1, S0, e1, fun vs H1 G1 S1 E1 Rs => ?_⟩
  obtain ⟨l, _, kq⟩ := kk vs H1 G1 S1 E1 Rs
  match vs, l, kq with
  | [u, v, w], _, kq => exact ⟨u, v, w, rfl, kq⟩
theorem s_set2 (is : List Nat) (es : IEs) {X : Cx} {sc : Scope} {E : Em} (C : Cd X X.N sc k) (B : Bd X) (ho : okS X.N sc (.set2 is es) E = true) (ha : askEs (askOf (wdOf X) k) es) : PS X (emS X.N (.set2 is es) E).1 (tF (evalS (.set2 is es))) := by
  rw [okS] at ho
  obtain ⟨h1, ho⟩ := and1 ho
  obtain ⟨h2, ho⟩ := and1 ho
  obtain ⟨h3, ho⟩ := and1 ho
  obtain ⟨h4, h5⟩ := and1 ho
  have pas := sEs es C h1 ha
  cases hsw : swC sc (emNames X.N is E.np.np).1 (emEs X.N es (emTr X.N (.t is) E.np).2.np).1 with
  | none =>
    unfold swB at h5
    rw [hsw] at h5
    cases h5
  | some r =>
    have hw := fun a b p q => swC_ok (a := a) (b := b) (p := p) (q := q) C.hs h4 hsw
    cases r with
    | none =>
      refine PS.imp (ps_asg (pe_tup pas) (pg_tr C.nd C.calm (.t is) E.np (tg_of C B h2)) sw_tup (hw _ _ _ _)) fun Ds σ H q => ?_
      obtain ⟨pa, H0, G0, G, s, xs, s1, S0, e1, kk⟩ := skey_two q
      refine ⟨pa, H0, G0, G, s, xs, s1, S0, e1, fun vs H1 G1 S1 E1 Rs => ⟨?_, fun T hT => ?_⟩⟩
      · rw [Rs.len, ev_len es e1, ← em_len X.N es]; exact line1k (of_decide_eq_true h3)
      · obtain ⟨l, kq, _⟩ := kk vs H1 G1 S1 E1 Rs
        exact ⟨T, vs, rfl, .of upd_same, l.symm, gn_sets l (kq T hT)⟩
    | some l =>
      have hl := swC_len hsw
      rw [em_len, em_names_len] at hl
      unfold swB at h5
      rw [hsw] at h5
      dsimp only at h5
      clear hsw ho h1 h3 ha
      match is, es, hl, h5, pas, hw, h2 with
      | [i, j], .cons a (.cons b .nil), _, h5, pas, hw, h2 =>
        obtain ⟨h6, h5⟩ := and1 h5
        obtain ⟨h7, h5⟩ := and1 h5
        obtain ⟨h8, h9⟩ := and1 h5
        have e6 := of_decide_eq_true h6
        subst e6
        exact s_par2 C B h2 h7 h8 (of_decide_eq_true h9) pas (hw _ _ _ _)
      | [i, j, l2], .cons a (.cons b (.cons c .nil)), _, h5, pas, hw, h2 =>
        obtain ⟨h6, h5⟩ := and1 h5
        obtain ⟨h7, h5⟩ := and1 h5
        obtain ⟨h8, h5⟩ := and1 h5
        obtain ⟨h9, h5⟩ := and1 h5
        obtain ⟨h10, h5⟩ := and1 h5
        obtain ⟨h11, h12⟩ := and1 h5
        have e6 := of_decide_eq_true h6
        subst e6
        exact s_par3 C B h2 h7 h8 h9 (of_decide_eq_true h10) (of_decide_eq_true h11) (of_decide_eq_true h12) pas (hw _ _ _ _)
      | [], _, _, h5, _, _, _ => cases h5
      | [_], _, _, h5, _, _, _ => cases h5
      | _ :: _ :: _ :: _ :: _, _, _, h5, _, _, _ => cases h5
      | [_, _], .nil, hl, _, _, _, _ => simp [IEs.len] at hl
      | [_, _], .cons _ .nil, hl, _, _, _, _ => simp [IEs.len] at hl
      | [_, _], .cons _ (.cons _ (.cons _ _)), hl, _, _, _, _ => simp [IEs.len] at hl
      | [_, _, _], .nil, hl, _, _, _, _ => simp [IEs.len] at hl
      | [_, _, _], .cons _ .nil, hl, _, _, _, _ => simp [IEs.len] at hl
      | [_, _, _], .cons _ (.cons _ .nil), hl, _, _, _, _ => simp [IEs.len] at hl
      | [_, _, _], .cons _ (.cons _ (.cons _ (.cons _ _))), hl, _, _, _, _ => simp [IEs.len] at hl

theorem pv {X : Cx} {sc : Scope} (C : Cd X X.N sc k) {i : Nat} {p : Pos} (h : visB X.N sc i = true) : PE X (.Name (nm X.N i) p) (tVar i) := by
  obtain ⟨h1, h2, h3, h4⟩ := vis_of h
  exact pe_var h1 (by rw [C.hs]; exact h2) h3 h4
theorem few_one {e : Expr} {cpos : Pos} {env : Env} (h : plX e = true) : ((backTo cpos (starEach [e] env)).all (fun x => !x.1) && (backToKw cpos (keywordEach [] env)).all (fun x => x.1.isSome)
      && decide ([e].length + ([] : List Keyword).length + (if ([] : List Keyword).isEmpty then 0 else 1) < 30)) = true := by
  rw [star_pl h]; rfl
theorem mt_ins {X : Cx} : MtM X "list.insert" rInsert := mt_insert
theorem few_two {e e2 : Expr} {cpos : Pos} {env : Env} (h : plX e = true) (h2 : plX e2 = true) : ((backTo cpos (starEach [e, e2] env)).all (fun x => !x.1) && (backToKw cpos (keywordEach [] env)).all (fun x => x.1.isSome)
      && decide ([e, e2].length + ([] : List Keyword).length + (if ([] : List Keyword).isEmpty then 0 else 1) < 30)) = true := by
  rw [star_pl h, star_pl h2]; rfl
theorem plain_one {e : Expr} {cpos : Pos} {env : Env} (h : plX e = true) : (backTo cpos (starEach [e] env)).any (·.1) = false := by
  rw [star_pl h]; rfl
mutual
theorem sS : ∀ (st : IS) {X : Cx} {sc : Scope} {E : Em}, Cd X X.N sc k → Bd X → okS X.N sc st E = true → askS (askOf (wdOf X) k) st → PS X (emS X.N st E).1 (tF (evalS st))
  | .set i e, X, sc, E, C, B, ho, ha => by
    rw [okS] at ho
    rw [askS] at ha
    obtain ⟨h1, ho⟩ := and1 ho
    obtain ⟨h2, h3⟩ := and1 ho
    obtain ⟨l1, l2⟩ := loc_of h2
    refine PS.imp (ps_set C.nd l1 (by rw [C.hs]; exact l2) (sE e C h1 ha).pe ?_ (.inl (B.fn _))) fun Ds σ H q => skey_set q
    cases hz : isLc e with
    | false => exact sw_nolc (em_nolc X.N _ hz)
    | true =>
      rw [hz] at h3
      exact sw_cell (by rw [C.hs]; exact cel_of h3)
  | .setLc i elt tg src ifs, X, sc, E, C, B, ho, ha => by
    rw [okS] at ho
    rw [askS] at ha
    obtain ⟨h1, ho⟩ := and1 ho
    obtain ⟨h2, ho⟩ := and1 ho
    obtain ⟨h3, ho⟩ := and1 ho
    obtain ⟨h4, ho⟩ := and1 ho
    obtain ⟨h5, h6⟩ := and1 ho
    obtain ⟨l1, l2⟩ := loc_of h2
    have hy : X.env.scope.names.lookup (nm X.N i) = some .local := by rw [C.hs]; exact pl_of h3
    obtain ⟨p1, p2, p3, p4, p5⟩ := lc_parts elt tg src ifs (E := E.np.np) C h1 ha
    have q := ps_setLc (pos := E.np.np.p) (spos := E.p) (py := E.np.p) C.calm C.nd l1 hy (sw_true (by rw [C.hs]; exact kind_of h4) hy h5 (by simpa using h6)) p1 p2 p3 p4 p5 (fold_sr _ src _)
    rw [own_snd] at q
    exact PS.imp q fun Ds σ H z => skey_lc X.K (lc_pairs h1) z
  | .setT is e, X, sc, E, C, B, ho, ha => by
    rw [okS] at ho
    rw [askS] at ha
    obtain ⟨h1, ho⟩ := and1 ho
    obtain ⟨h2, h3⟩ := and1 ho
    have h3 : isTup e = false := by simpa using h3
    exact PS.imp (ps_asg (sE e C h1 ha).pe (pg_tr C.nd C.calm (.t is) E.np (tg_of C B h2)) sw_tup (ss_notup (em_notup X.N _ h3))) fun Ds σ H q => skey_setT X.K q
  | .set2 is es, X, sc, E, C, B, ho, ha => by
    rw [askS] at ha
    exact s_set2 is es C B ho ha
  | .setIx i kx e, X, sc, E, C, B, ho, ha => by
    rw [okS] at ho
    rw [askS] at ha
    obtain ⟨h1, ho⟩ := and1 ho
    obtain ⟨h2, h3⟩ := and1 ho
    exact PS.imp (ps_asg (sE e C h2 ha.2).pe (pg_sub (pv C h3) (sE kx C h1 ha.1).pe set_list (asg_sub (em_pl X.N kx _))) sw_sub) fun Ds σ H q => skey_setIx q
  | .pset i j e, X, sc, E, C, B, ho, ha => by
    rw [okS] at ho
    rw [askS] at ha
    obtain ⟨h1, h2⟩ := and1 ho
    exact PS.imp (ps_asg (sE e C h1 ha).pe (pg_sub (pv C h2) pe_int set_list (asg_sub (by rfl))) sw_sub) fun Ds σ H q => skey_pset q
  | .aug op i e, X, sc, E, C, B, ho, ha => by
    rw [okS] at ho
    rw [askS] at ha
    obtain ⟨h1, h2⟩ := and1 ho
    obtain ⟨l1, l2⟩ := loc_of h2
    have l2' : Loc X.env.scope (nm X.N i) := by rw [C.hs]; exact l2
    have pe := (sE e C h1 ha).pe
    by_cases hadd : op = .Add
    · subst hadd
      refine PS.imp (ps_aug C.nd l1 l2' pe ip_add (.inl (B.fn _))) fun Ds σ H q => ?_
      rcases skey_aug q with ⟨_, z⟩ | ⟨z, _⟩
      · exact z
      · cases z
    · by_cases hsub : op = .Sub
      · subst hsub
        refine PS.imp (ps_aug C.nd l1 l2' pe ip_sub (.inl (B.fn _))) fun Ds σ H q => ?_
        rcases skey_aug q with ⟨z, _⟩ | ⟨_, z⟩
        · cases z
        · exact z
      · refine PS.imp ps_never fun Ds σ H q => ?_
        rcases skey_aug q with ⟨z, _⟩ | ⟨z, _⟩
        · exact hadd z
        · exact hsub z
  | .app i e, X, sc, E, C, B, ho, ha => by
    rw [okS] at ho
    rw [askS] at ha
    obtain ⟨h1, ho⟩ := and1 ho
    obtain ⟨h2, h3⟩ := and1 ho
    exact PS.imp (ps_expr (pe_bm PySem.F.plainAttrs_list PySem.F.slot_list_append PySem.F.type_list_append mt_append (pv C h2) (pa_cons (sE e C h1 ha).pe pa_nil (star_pl (em_pl X.N e _))) (by rfl) (few_one (em_pl X.N e _)) h3 (star_pl (em_pl X.N e _)) (by rfl))) fun Ds σ H q => skey_app X.K q
  | .ins i kx e, X, sc, E, C, B, ho, ha => by
    rw [okS] at ho
    rw [askS] at ha
    obtain ⟨h0, ho⟩ := and1 ho
    obtain ⟨h1, ho⟩ := and1 ho
    obtain ⟨h2, h3⟩ := and1 ho
    exact PS.imp (ps_expr (pe_bm PySem.F.plainAttrs_list PySem.F.slot_list_insert PySem.F.type_list_insert mt_ins (pv C h2) (pa_cons (sE kx C h0 ha.1).pe (pa_cons (sE e C h1 ha.2).pe pa_nil (star_pl (em_pl X.N e _))) (star_pl (em_pl X.N kx _))) (by rfl) (few_two (em_pl X.N kx _) (em_pl X.N e _)) h3 (star_pl (em_pl X.N kx _)) (plain_one (em_pl X.N e _)))) fun Ds σ H q => skey_ins X.K q
  | .ext i e, X, sc, E, C, B, ho, ha => by
    rw [okS] at ho
    rw [askS] at ha
    obtain ⟨h1, ho⟩ := and1 ho
    obtain ⟨h2, h3⟩ := and1 ho
    exact PS.imp (ps_expr (pe_bm PySem.F.plainAttrs_list PySem.F.slot_list_extend PySem.F.type_list_extend mt_extend (pv C h2) (pa_cons (sE e C h1 ha).pe pa_nil (star_pl (em_pl X.N e _))) (by rfl) (few_one (em_pl X.N e _)) h3 (star_pl (em_pl X.N e _)) (by rfl))) fun Ds σ H q => skey_ext X.K q
  | .rev i, X, sc, E, C, B, ho, ha => by
    rw [okS] at ho
    obtain ⟨h2, h3⟩ := and1 ho
    exact PS.imp (ps_expr (pe_bm0 PySem.F.plainAttrs_list PySem.F.slot_list_reverse PySem.F.type_list_reverse mt_reverse (pv C h2) (by rfl) h3)) fun Ds σ H q => skey_rev X.K q
  | .expr e, X, sc, E, C, B, ho, ha => by
    rw [okS] at ho
    rw [askS] at ha
    obtain ⟨h1, h2⟩ := and1 ho
    have h2 : isLc e = false := by simpa using h2
    exact PS.imp (ps_expr (sE e C h1 ha).pe (sw_nolc (em_nolc X.N _ h2))) fun Ds σ H q => skey_expr q
  | .ite c a b, X, sc, E, C, B, ho, ha => by
    rw [okS] at ho
    rw [askS] at ha
    obtain ⟨h1, ho⟩ := and1 ho
    obtain ⟨h2, h3⟩ := and1 ho
    exact PS.imp (ps_if (sE c C h1 ha.1).pt (sSs a C B h2 ha.2.1) (sSs b C B h3 ha.2.2)) fun Ds σ H q => skey_ite q
  | .for tg src body, X, sc, E, C, B, ho, ha => by
    rw [okS] at ho
    rw [askS] at ha
    obtain ⟨h1, ho⟩ := and1 ho
    obtain ⟨h2, ho⟩ := and1 ho
    obtain ⟨h3, h4⟩ := and1 ho
    have pi := sSr src (tgt := (emTr X.N tg E.np).1) C h1 ha.1 fun hp => by
      rw [hp] at h3
      cases tg with
      | v i => cases h3
      | t is => exact ⟨_, _, _, rfl⟩
    exact PS.imp (ps_for B.passes C.calm pi (pg_tr C.nd C.calm tg E.np (tg_of C B h2)) (sSs body C B h4 ha.2) (fold_sr _ src _)) fun Ds σ H q => skey_for X.K (fun hp => by rw [hp] at h3; cases tg with | v i => cases h3 | t is => rfl) q
  | .while n c body, X, sc, E, C, B, ho, ha => by
    rw [okS] at ho
    rw [askS] at ha
    obtain ⟨h1, h2⟩ := and1 ho
    exact PS.imp (ps_while B.passes (sE c C h1 ha.1).pt (sSs body C B h2 ha.2)) fun Ds σ H q => skey_while q
  | .ret e, X, sc, E, C, B, ho, ha => by
    rw [okS] at ho
    rw [askS] at ha
    exact PS.imp (ps_ret (sE e C ho ha).pe) fun Ds σ H q => skey_ret q
  | .retN, X, sc, E, C, B, ho, ha => PS.imp ps_retN fun Ds σ H q => by
    obtain ⟨pa, H0, G0, G, s, fl, s2, S0, ev, post⟩ := q
    rw [evalS] at ev; cases ev
    exact post .non σ H G .refl S0 .non
  | .pass, X, sc, E, C, B, ho, ha => PS.imp ps_pass fun Ds σ H q => by
    obtain ⟨pa, H0, G0, G, s, fl, s2, S0, ev, post⟩ := q
    rw [evalS] at ev; cases ev
    exact post σ H G .refl S0
  | .brk, X, sc, E, C, B, ho, ha => PS.imp ps_break fun Ds σ H q => by
    obtain ⟨pa, H0, G0, G, s, fl, s2, S0, ev, post⟩ := q
    rw [evalS] at ev; cases ev
    exact post σ H G .refl S0
  | .cont, X, sc, E, C, B, ho, ha => PS.imp ps_continue fun Ds σ H q => by
    obtain ⟨pa, H0, G0, G, s, fl, s2, S0, ev, post⟩ := q
    rw [evalS] at ev; cases ev
    exact post σ H G .refl S0
  | .never, X, sc, E, C, B, ho, ha => PS.imp ps_never fun Ds σ H q => by
    obtain ⟨pa, H0, G0, G, s, fl, s2, S0, ev, post⟩ := q
    rw [evalS] at ev; cases ev
theorem sSs : ∀ (ss : ISs) {X : Cx} {sc : Scope} {E : Em}, Cd X X.N sc k → Bd X → okSs X.N sc ss E = true → askSs (askOf (wdOf X) k) ss → PSs X (emSs X.N ss E).1 (tF (evalSs ss))
  | .nil, X, sc, E, C, B, ho, ha => PSs.imp pss_nil fun Ds σ H q => skey_nil q
  | .cons s ss, X, sc, E, C, B, ho, ha => by
    rw [okSs] at ho
    rw [askSs] at ha
    obtain ⟨h1, h2⟩ := and1 ho
    exact PSs.imp (pss_cons (sS s C B h1 ha.1) (sSs ss C B h2 ha.2)) fun Ds σ H q => skey_cons q
end
end

theorem start_at {N : List Str} {vs : List V} {i : Nat} {v : V} (h : vs[i]? = some v) : (L2.start N vs)[i]? = some (some v) := by
  unfold L2.start
  obtain ⟨hi, _⟩ := List.getElem?_eq_some_iff.mp h
  rw [List.getElem?_append_left (by simpa using hi), List.getElem?_map, h]; rfl
theorem sim_start {pa : PA} {G H : Hp} {N : List Str} {vs : List V} {ds : List D} {p : Option Pn} (u : Sub G H) (hp : PenAt pa G H p) (r : Rps pa G vs ds) (hl : ds.length ≤ N.length) : Sim pa H G G (L2.start N vs) H (start N.length ds p) := by
  have sl : ∀ {i : Nat} {d : D} {f : Bool}, (start N.length ds p).sl[i]? = some (some (d, f)) → f = false ∧ ds[i]? = some d := by
    intro i d f h
    have h : (ds.map (fun d => some (d, false)) ++ List.replicate (N.length - ds.length) none)[i]? = some (some (d, f)) := h
    by_cases hi : i < ds.length
    · rw [List.getElem?_append_left (by simpa using hi), List.getElem?_map] at h
      cases q : ds[i]? with
      | none => rw [q] at h; cases h
      | some e => rw [q] at h; cases h; exact ⟨rfl, rfl⟩
    · rw [List.getElem?_append_right (by simpa using hi), List.getElem?_replicate] at h
      split at h <;> cases h
  refine ⟨?_, u, .refl, fun a o h => .inl h, fun a o h _ => h, hp, fun i d h => ?_, fun i d h => ?_, fun i j d e a h => ?_⟩
  · show (L2.start N vs).length = (ds.map (fun d => some (d, false)) ++ List.replicate (N.length - ds.length) none).length
    unfold L2.start
    have := r.len
    simp only [List.length_append, List.length_map, List.length_replicate]
    omega
  · obtain ⟨_, hd⟩ := sl h
    obtain ⟨v, hv, rv⟩ := r.get hd
    exact ⟨v, start_at hv, rv⟩
  · cases (sl h).1
  · cases (sl h).1
/-- a def of the text does what runF says -/
theorem def_of {W : Wd} {k : Nat} {f : Addr} {name qual : Str} {params : Arguments} {body : List Stmt} {scope : Scope} {dV kV doc pm cdv ct oc : Value} {an od : Option Addr} {osl : Array (Option Value)} {N ps : List Str} (ir : ISs) (E : Em)
    (lk : W.K.lookup f = some ⟨oc, od, .func (PySem.W.fnOf name qual params body scope dV kV doc pm an cdv ct), osl⟩)
    (hcd : PySem.W.codeIn W.K cdv qual = true) (sc : FnScope N ps scope) (bl : ∀ x, x ∈ bnames → W.mg x = none)
    (he : (emSs N ir E).1 = body) (ok : okSs N scope ir E = true) (ask : askSs (askOf W k) ir) :
    GFn W (k + 1) f (PySem.W.fnOf name qual params body scope dV kV doc pm an cdv ct) ps (spF (runF N.length ir) ps.length) := by
  subst he
  have hpl : ps.length ≤ N.length := by have := congrArg List.length sc.pre; rw [List.length_take] at this; omega
  refine gfn_of lk hcd sc (fun vs H Q h => ?_) fun A outer s H vs Q room hgd promise => ⟨tF (evalSs ir), ?_, ?_⟩
  · obtain ⟨pa, G, ds, p, d, fr, p1, hl, _, _, r, _⟩ := h
    rw [r.len, hl]
  · exact sSs ir (X := gx W N qual scope f cdv A outer s H) (sc := scope) ⟨rfl, sc.nd, rfl, rfl, room, hgd, bl⟩ (bd0 rfl fun _ => rfl) ok ask
  · obtain ⟨pa, G, ds, p, d, fr, p1, hl, u, hp, r, e, kk⟩ := promise
    have S0 := sim_start (N := N) u hp r (by omega)
    unfold runF at e
    obtain ⟨⟨fl, s1⟩, e1, e2⟩ := Option.bind_eq_some_iff.mp e
    refine ⟨pa, H, G, G, _, fl, s1, S0, e1, ?_⟩
    cases fl with
    | nx =>
      cases e2
      intro σ1 H1 G1 u1 S1
      exact kk .non H1 G1 (fun a o h n => S1.kee a o h n) S1.base S1.sub (fun a o h => S1.new a o h) S1.pen .non
    | brk => cases e2
    | cont => cases e2
    | ret d' fr' =>
      cases e2
      intro v σ1 H1 G1 u1 S1 rt
      refine kk v H1 G1 (fun a o h n => S1.kee a o h n) S1.base S1.sub (fun a o h => S1.new a o h) S1.pen ?_
      cases fr with
      | false => exact rt
      | true =>
        obtain ⟨a, xs, es, e1, e2, e3, e4, e5, e6, e7⟩ := rt
        exact ⟨a, xs, es, e1, e2, e6, e3, e4, e5⟩
end Fs

set_option Elab.async false
set_option linter.all false
set_option maxRecDepth 100000
set_option maxHeartbeats 8000000
namespace Fs
open PySem L2
/-- a statement by its path -/
def nav : List Nat → List Stmt → Stmt
  | [i], b => b.getD i (.Pass ⟨0, 0, 0, 0⟩)
  | i :: j :: r, b => match b.getD i (.Pass ⟨0, 0, 0, 0⟩) with
    | .If _ x y _ => nav r (if j = 0 then x else y)
    | .For _ _ x _ _ => nav r x
    | .While _ x _ _ => nav r x
    | s => s
  | [], _ => .Pass ⟨0, 0, 0, 0⟩
def ir_spread : ISs := (.cons (.ite (.cmp .GtE (.var 0) (.bin .Pow (.int 10) (.int 18)))
  (.cons (.ret (.var 0))
  .nil)
  .nil)
  (.cons (.set 2 (.lst (.cons (.int 2147483629) (.cons (.int 2147483587) (.cons (.int 2147483579) (.cons (.int 2147483563) (.cons (.int 2147483549) (.cons (.int 2147483543) (.cons (.int 2147483497) .nil)))))))))
  (.cons (.set 2 (.bin .Add (.var 2) (.lst (.cons (.int 2147483489) (.cons (.int 2147483477) (.cons (.int 2147483423) (.cons (.int 2147483399) (.cons (.int 2147483353) (.cons (.int 2147483323) .nil)))))))))
  (.cons (.set 3 (.bin .Add (.bin .Add (.bin .Mult (.bin .Mod (.blt .int (.cons (.var 0) .nil)) (.int 1000000007)) (.bin .Add (.bin .Mult (.int 2) (.var 1)) (.int 69069))) (.bin .Mult (.var 1) (.int 40503))) (.int 977)))
  (.cons (.set 4 (.bin .Mod (.blt .int (.cons (.bin .Pow (.var 3) (.int 3)) .nil)) (.ix (.var 2) (.bin .Mod (.blt .int (.cons (.var 1) .nil)) (.int 13)))))
  (.cons (.set 5 (.bin .Add (.bin .Mod (.blt .int (.cons (.var 0) .nil)) (.int 65537)) (.int 5)))
  (.cons (.set 6 (.bin .Mod (.blt .int (.cons (.bin .Pow (.bin .Add (.bin .Mult (.var 4) (.bin .Add (.var 1) (.int 3))) (.var 5)) (.int 5)) .nil)) (.ix (.var 2) (.bin .Mod (.blt .int (.cons (.bin .Add (.var 1) (.int 5)) .nil)) (.int 13)))))
  (.cons (.set 7 (.bin .Mod (.blt .int (.cons (.bin .Pow (.bin .Add (.bin .Add (.var 6) (.bin .Mod (.blt .int (.cons (.var 4) .nil)) (.int 1009))) (.var 1)) (.int 3)) .nil)) (.ix (.var 2) (.bin .Mod (.blt .int (.cons (.bin .Add (.var 1) (.int 7)) .nil)) (.int 13)))))
  (.cons (.ret (.bin .Add (.bin .Mult (.bin .Add (.bin .Mult (.var 4) (.int 2147483647)) (.var 6)) (.int 2147483647)) (.var 7)))
  .nil)))))))))
def ir_take : ISs := (.cons (.ite (.cmp .Lt (.pix 0 2) (.var 1))
  (.cons (.set 2 (.pix 0 1))
  (.cons (.set 3 (.int 0))
  (.cons (.ite (.cmp .Lt (.var 2) (.blt .len (.cons (.pix 0 0) .nil)))
  (.cons (.set 3 (.ix (.pix 0 0) (.var 2)))
  .nil)
  (.cons (.ite (.cmp .Gt (.blt .len (.cons (.pix 0 0) .nil)) (.int 0))
  (.cons (.set 3 (.bin .Mod (.blt .int (.cons (.ix (.pix 0 0) (.bin .Mod (.blt .int (.cons (.bin .Add (.bin .Mult (.var 2) (.int 5)) (.int 3)) .nil)) (.blt .len (.cons (.pix 0 0) .nil)))) .nil)) (.bin .Add (.bin .Pow (.int 10) (.int 17)) (.var 2))))
  .nil)
  .nil)
  .nil))
  (.cons (.pset 0 1 (.bin .Add (.var 2) (.int 1)))
  (.cons (.pset 0 2 (.call "_law_spread" (runF 8 ir_spread) (.cons (.var 3) (.cons (.var 2) .nil))))
  .nil)))))
  .nil)
  (.cons (.set 4 (.bin .Mod (.blt .int (.cons (.pix 0 2) .nil)) (.var 1)))
  (.cons (.pset 0 2 (.bin .FloorDiv (.pix 0 2) (.var 1)))
  (.cons (.ret (.var 4))
  .nil))))
def ir_one : ISs := .cons (.ret (.ix (.var 1) (.call "_law_take" FTake (.cons (.var 0) (.cons (.blt .len (.cons (.var 1) .nil)) .nil))))) .nil
def ir_turn : ISs := .cons (.setIx 1 (.bin .Mod (.blt .int (.cons (.var 2) .nil)) (.int 12)) (.bin .Add (.ix (.var 1) (.bin .Mod (.blt .int (.cons (.var 2) .nil)) (.int 12))) (.var 3))) .nil
def ir_open : ISs := .cons (.set 1 (.blt .list (.cons (.sl (.var 0) .none (.some (.int 12))) .nil)))
  (.cons (.for (.t [2, 3]) (.enum (.sl (.var 0) (.some (.int 12)) (.some (.int 63)))) ir_turn)
  (.cons (.ret (.lst (.cons (.var 1) (.cons (.int 0) (.cons (.int 0) .nil))))) .nil))

def primD : List D := [.int 2147483629, .int 2147483587, .int 2147483579, .int 2147483563, .int 2147483549, .int 2147483543, .int 2147483497, .int 2147483489, .int 2147483477, .int 2147483423, .int 2147483399, .int 2147483353, .int 2147483323]
theorem prim_cases {i : Int} (h0 : 0 ≤ i) (h1 : i < 13) : i = 0 ∨ i = 1 ∨ i = 2 ∨ i = 3 ∨ i = 4 ∨ i = 5 ∨ i = 6 ∨ i = 7 ∨ i = 8 ∨ i = 9 ∨ i = 10 ∨ i = 11 ∨ i = 12 := by omega
theorem prim_at {i : Int} (h0 : 0 ≤ i) (h1 : i < 13) : L2.atI primD i = some (.int (prim i)) := by
  rcases prim_cases h0 h1 with rfl | rfl | rfl | rfl | rfl | rfl | rfl | rfl | rfl | rfl | rfl | rfl | rfl <;> rfl
theorem prim_pos {i : Int} (h0 : 0 ≤ i) (h1 : i < 13) : 0 < prim i ∧ prim i < 2147483648 := by
  rcases prim_cases h0 h1 with rfl | rfl | rfl | rfl | rfl | rfl | rfl | rfl | rfl | rfl | rfl | rfl | rfl <;> decide
end Fs

set_option Elab.async false
set_option linter.all false
set_option maxRecDepth 100000
set_option maxHeartbeats 8000000
namespace Fs
open PySem L2
abbrev Ev1 (e : IE) (s : S) (d : D) (t : Tg) (s1 : S) : Prop := evalE e s = some ((d, t), s1)
abbrev EvB (e : IE) (s : S) (b : Bool) (s1 : S) : Prop := boolD (evalE e s) = some (b, s1)
abbrev EvS (es : IEs) (s : S) (xs : List (D × Tg)) (s1 : S) : Prop := evalEs es s = some (xs, s1)
abbrev St1 (st : IS) (s : S) (f : Fl) (s1 : S) : Prop := evalS st s = some (f, s1)
abbrev Sts (ss : ISs) (s : S) (f : Fl) (s1 : S) : Prop := evalSs ss s = some (f, s1)
section
variable {s s1 s2 s3 : S} {d d1 d2 d3 : D} {t t1 t2 t3 : Tg} {a b c e : IE} {es : IEs} {i j n : Nat} {fr : Bool}
theorem ev_int {n : Int} : Ev1 (.int n) s (.int n) .fz s := by rw [Ev1, evalE]
theorem ev_bool {n : Bool} : Ev1 (.bool n) s (.bool n) .fz s := by rw [Ev1, evalE]
theorem ev_non : Ev1 .non s .none .fz s := by rw [Ev1, evalE]
theorem ev_str {n : Str} : Ev1 (.str n) s (.str n) .fz s := by rw [Ev1, evalE]
theorem ev_var (h : rd s i = some (d, false)) : Ev1 (.var i) s d .fz s := by rw [Ev1, evalE, h]; rfl
theorem ev_own (h : rd s i = some (d, true)) : Ev1 (.var i) s d (.slot i) s := by rw [Ev1, evalE, h]; rfl
def tagB (fr : Bool) : Tg := if fr = true then .fresh else .fz
theorem ev_binG {op : Operator} (h1 : Ev1 a s d1 t1 s1) (h2 : Ev1 b s1 d2 t2 s2) (h : binD op d1 d2 = some (d, fr)) : Ev1 (.bin op a b) s d (tagB fr) s2 := by
  rw [Ev1, evalE, h1]
  show (evalE b s1 >>= _) = _
  rw [h2]
  show (binD op d1 d2 >>= _) = _
  rw [h]; rfl
theorem ev_bin {op : Operator} (h1 : Ev1 a s d1 t1 s1) (h2 : Ev1 b s1 d2 t2 s2) (h : binD op d1 d2 = some (d, false)) : Ev1 (.bin op a b) s d .fz s2 := ev_binG h1 h2 h
theorem ev_binL {op : Operator} (h1 : Ev1 a s d1 t1 s1) (h2 : Ev1 b s1 d2 t2 s2) (h : binD op d1 d2 = some (d, true)) : Ev1 (.bin op a b) s d .fresh s2 := ev_binG h1 h2 h
theorem bin_add {x y : Int} : binD .Add (.int x) (.int y) = some (.int (x + y), false) := rfl
theorem bin_sub {x y : Int} : binD .Sub (.int x) (.int y) = some (.int (x - y), false) := rfl
theorem bin_mul {x y : Int} (h : (-(2 ^ 64) < x ∧ x < 2 ^ 64) ∨ (-(2 ^ 64) < y ∧ y < 2 ^ 64)) : binD .Mult (.int x) (.int y) = some (.int (x * y), false) := if_pos h
theorem bin_mod {x y : Int} (h : 0 < y) : binD .Mod (.int x) (.int y) = some (.int (x % y), false) := if_pos h
theorem bin_div {x y : Int} (h : 0 < y ∧ y < 1073741824) : binD .FloorDiv (.int x) (.int y) = some (.int (x / y), false) := if_pos h
theorem bin_pow {x y : Int} (h : 0 ≤ y ∧ y ≤ 1000000 ∧ x.natAbs < 2 ^ 64) : binD .Pow (.int x) (.int y) = some (.int (x ^ y.toNat), false) := if_pos h
theorem bin_lst {x y : List D} (h : x.length + y.length ≤ sizeLine) : binD .Add (.list x) (.list y) = some (.list (x ++ y), true) := if_pos h
theorem ev_cmp {op : CmpOp} {k : Bool} (h1 : Ev1 a s d1 t1 s1) (h2 : Ev1 b s1 d2 t2 s2) (h : cmpD op d1 d2 = some k) : Ev1 (.cmp op a b) s (.bool k) .fz s2 := by
  rw [Ev1, evalE, h1]
  show (evalE b s1 >>= _) = _
  rw [h2]
  show (cmpD op d1 d2 >>= _) = _
  rw [h]; rfl
theorem cmp_lt {x y : Int} : cmpD .Lt (.int x) (.int y) = some (decide (x < y)) := rfl
theorem cmp_le {x y : Int} : cmpD .LtE (.int x) (.int y) = some (decide (x ≤ y)) := rfl
theorem cmp_gt {x y : Int} : cmpD .Gt (.int x) (.int y) = some (decide (y < x)) := rfl
theorem cmp_ge {x y : Int} : cmpD .GtE (.int x) (.int y) = some (decide (y ≤ x)) := rfl
theorem cmp_eqI {x y : Int} : cmpD .Eq (.int x) (.int y) = some (decide (x = y)) := by
  show (if okEq (.int x) (.int y) = true then some (PyData.eqv (.int x) (.int y)) else none) = _
  rw [if_pos (show okEq (.int x) (.int y) = true from rfl), ← Bool.beq_eq_decide_eq]; rfl
theorem cmp_neI {x y : Int} : cmpD .NotEq (.int x) (.int y) = some (!decide (x = y)) := by
  show (if okEq (.int x) (.int y) = true then some (!PyData.eqv (.int x) (.int y)) else none) = _
  rw [if_pos (show okEq (.int x) (.int y) = true from rfl), ← Bool.beq_eq_decide_eq]; rfl
theorem evb_of {k : Bool} (h : Ev1 e s (.bool k) t s1) : EvB e s k s1 := by rw [EvB, h]; rfl
theorem ev_ixG (h1 : Ev1 a s d1 t1 s1) (h2 : Ev1 b s1 d2 t2 s2) (h : ixD d1 d2 = some d) : Ev1 (.ix a b) s d .fz s2 := by
  rw [Ev1, evalE, h1]
  show (evalE b s1 >>= _) = _
  rw [h2]
  show (ixD d1 d2 >>= _) = _
  rw [h]; rfl
theorem evs_nil : EvS .nil s [] s := by rw [EvS, evalEs]
theorem evs_cons {xs : List (D × Tg)} (h1 : Ev1 e s d t s1) (h2 : EvS es s1 xs s2) : EvS (.cons e es) s ((d, t) :: xs) s2 := by
  rw [EvS, evalEs, h1]
  show (evalEs es s1 >>= _) = _
  rw [h2]; rfl
theorem ev_bltG {f : Bf} {xs : List (D × Tg)} (h1 : EvS es s xs s1) (h : bltD f (xs.map (·.1)) = some (d, fr)) : Ev1 (.blt f es) s d (tagB fr) s1 := by
  rw [Ev1, evalE, h1]
  show (bltD f (xs.map (·.1)) >>= _) = _
  rw [h]; rfl
theorem ev_int1 {x : Int} (h1 : Ev1 a s (.int x) t1 s1) : Ev1 (.blt .int (.cons a .nil)) s (.int x) .fz s1 := ev_bltG (fr := false) (evs_cons h1 evs_nil) rfl
theorem ev_lenL {x : List D} (h1 : Ev1 a s (.list x) t1 s1) : Ev1 (.blt .len (.cons a .nil)) s (.int x.length) .fz s1 := ev_bltG (fr := false) (evs_cons h1 evs_nil) rfl
theorem ev_tup {xs : List (D × Tg)} (h1 : EvS es s xs s1) : Ev1 (.tup es) s (.tuple (xs.map (·.1))) .fz (s1.keeps (xs.map (·.2))) := by
  rw [Ev1, evalE, h1]; rfl
theorem ev_lst {xs : List (D × Tg)} (h1 : EvS es s xs s1) : Ev1 (.lst es) s (.list (xs.map (·.1))) .fresh (s1.keeps (xs.map (·.2))) := by
  rw [Ev1, evalE, h1]; rfl
theorem ev_pix {q : Pn} (h : isPen (rd s i) = true) (hp : s.pn = some q) (hd : pixD j q = some d) : Ev1 (.pix i j) s d .fz s := by
  rw [Ev1, evalE, if_pos h, hp]
  show ((pixD j q).map _) = _
  rw [hd]; rfl
theorem ev_callS {x : Str} {F : Fn} {xs : List (D × Tg)} {pn : Option Pn} (h1 : EvS es s xs s1) (h : F (xs.map (·.1)) s1.pn = some ((d, fr), pn)) (z : scal d = true) : Ev1 (.call x F es) s d .fz { s1 with pn := pn } := by
  rw [Ev1, evalE, h1]
  show (F (xs.map (·.1)) s1.pn >>= _) = _
  rw [h]
  show (if scal d = true then _ else _) = _
  rw [if_pos z]
theorem ev_call {x : Str} {F : Fn} {xs : List (D × Tg)} {pn : Option Pn} (h1 : EvS es s xs s1) (h : F (xs.map (·.1)) s1.pn = some ((d, fr), pn)) (z : scal d = false) : Ev1 (.call x F es) s d (tagB fr) { (s1.keeps (xs.map (·.2))) with pn := pn } := by
  rw [Ev1, evalE, h1]
  show (F (xs.map (·.1)) s1.pn >>= _) = _
  rw [h]
  show (if scal d = true then _ else _) = _
  rw [if_neg (by rw [z]; decide)]; rfl
theorem st_set (h1 : Ev1 e s d t s1) (h : decide (i < s1.sl.length) = true) : St1 (.set i e) s .nx ((s1.keep t).put i (d, t.own)) := by
  rw [St1, evalS, h1]
  show (if i < s1.sl.length then _ else _) = _
  rw [if_pos (of_decide_eq_true h)]
theorem st_ret (h1 : Ev1 e s d .fz s1) : St1 (.ret e) s (.ret d false) s1 := by
  rw [St1, evalS, h1]; rfl
theorem st_retL (h1 : Ev1 e s d .fresh s1) : St1 (.ret e) s (.ret d true) s1 := by
  rw [St1, evalS, h1]; rfl
theorem st_ite {x y : ISs} {k : Bool} {f : Fl} (h1 : EvB c s k s1) (ht : k = true → Sts x s1 f s2) (hf : k = false → Sts y s1 f s2) : St1 (.ite c x y) s f s2 := by
  rw [St1, evalS, h1]
  cases k with
  | true => exact ht rfl
  | false => exact hf rfl
theorem st_iteT {x y : ISs} {f : Fl} (h1 : EvB c s true s1) (ht : Sts x s1 f s2) : St1 (.ite c x y) s f s2 := st_ite h1 (fun _ => ht) (fun z => by cases z)
theorem st_iteF {x y : ISs} {f : Fl} (h1 : EvB c s false s1) (hf : Sts y s1 f s2) : St1 (.ite c x y) s f s2 := st_ite h1 (fun z => by cases z) (fun _ => hf)
theorem st_pset {m : Int} {q q2 : Pn} (h1 : Ev1 e s (.int m) t s1) (h : isPen (rd s i) = true) (hp : s1.pn = some q) (hq : penSet j m q = some q2) : St1 (.pset i j e) s .nx { s1 with pn := some q2 } := by
  rw [St1, evalS, h1, h]
  show (s1.pn.bind (penSet j m)).map _ = _
  rw [hp]
  show (penSet j m q).map _ = _
  rw [hq]; rfl
theorem ss_nil : Sts .nil s .nx s := by rw [Sts, evalSs]
theorem ss_cons {x : IS} {xs : ISs} {f : Fl} (h1 : St1 x s .nx s1) (h2 : Sts xs s1 f s2) : Sts (.cons x xs) s f s2 := by
  rw [Sts, evalSs, h1]; exact h2
theorem ss_end {x : IS} {xs : ISs} (h1 : St1 x s (.ret d fr) s1) : Sts (.cons x xs) s (.ret d fr) s1 := by
  rw [Sts, evalSs, h1]; rfl
theorem run_of {m : Nat} {ir : ISs} {ds : List D} {pn : Option Pn} (h : Sts ir (start m ds pn) (.ret d fr) s1) : runF m ir ds pn = some ((d, fr), s1.pn) := by
  unfold runF
  rw [h]; rfl
end
theorem sizeL : sizeLine = 16777216 := PySem.sizeLine_eq
def spS (c a : Int) (x3 x4 x5 x6 x7 : Option (D × Bool)) (pn : Option Pn) : S := ⟨[some (.int c, false), some (.int a, false), some (.list primD, true), x3, x4, x5, x6, x7], pn⟩
theorem spread_ok (c a : Int) (h0 : 0 ≤ a) (h1 : a < 1073741824) (pn : Option Pn) : runF 8 ir_spread [.int c, .int a] pn = some ((.int (spreadF c a), false), pn) := by
  have hp18 : Ev1 (.bin .Pow (.int 10) (.int 18)) (start 8 [.int c, .int a] pn) (.int (10 ^ 18)) .fz (start 8 [.int c, .int a] pn) := ev_bin ev_int ev_int (bin_pow (by decide))
  unfold spreadF
  by_cases hc : 10 ^ 18 ≤ c
  · rw [if_pos hc]
    refine run_of (ss_end (st_iteT (evb_of (ev_cmp (ev_var rfl) hp18 ?_)) (ss_end (st_ret (ev_var rfl)))))
    rw [cmp_ge, decide_eq_true hc]
  · rw [if_neg hc]
    have e0 : cmpD .GtE (.int c) (.int (10 ^ 18)) = some false := by rw [cmp_ge, decide_eq_false hc]
    have p1 := prim_pos (i := a % 13) (by omega) (by omega)
    have p2 := prim_pos (i := (a + 5) % 13) (by omega) (by omega)
    have p3 := prim_pos (i := (a + 7) % 13) (by omega) (by omega)
    have q1 : ixD (.list primD) (.int (a % 13)) = some (.int (prim (a % 13))) := prim_at (by omega) (by omega)
    have q2 : ixD (.list primD) (.int ((a + 5) % 13)) = some (.int (prim ((a + 5) % 13))) := prim_at (by omega) (by omega)
    have q3 : ixD (.list primD) (.int ((a + 7) % 13)) = some (.int (prim ((a + 7) % 13))) := prim_at (by omega) (by omega)
    have m1 : 0 ≤ c % 1000000007 * (2 * a + 69069) ∧ c % 1000000007 * (2 * a + 69069) ≤ 1000000007 * 2147552717 :=
      ⟨Int.mul_nonneg (by omega) (by omega), Int.mul_le_mul (by omega) (by omega) (by omega) (by omega)⟩
    generalize hx : c % 1000000007 * (2 * a + 69069) + a * 40503 + 977 = x
    have bx : 0 ≤ x ∧ x < 2 ^ 63 := by omega
    generalize hu : x ^ 3 % prim (a % 13) = u
    have bu : 0 ≤ u ∧ u < 2147483648 := by
      have z1 := Int.emod_nonneg (x ^ 3) (show prim (a % 13) ≠ 0 by omega)
      have z2 := Int.emod_lt_of_pos (x ^ 3) p1.1
      omega
    have m2 : 0 ≤ u * (a + 3) ∧ u * (a + 3) ≤ 2147483648 * 1073741827 :=
      ⟨Int.mul_nonneg (by omega) (by omega), Int.mul_le_mul (by omega) (by omega) (by omega) (by omega)⟩
    generalize hv : (u * (a + 3) + (c % 65537 + 5)) ^ 5 % prim ((a + 5) % 13) = v
    have bv : 0 ≤ v ∧ v < 2147483648 := by
      have z1 := Int.emod_nonneg ((u * (a + 3) + (c % 65537 + 5)) ^ 5) (show prim ((a + 5) % 13) ≠ 0 by omega)
      have z2 := Int.emod_lt_of_pos ((u * (a + 3) + (c % 65537 + 5)) ^ 5) p2.1
      omega
    have s1 : Sts ir_spread (start 8 [.int c, .int a] pn) (.ret (.int ((u * 2147483647 + v) * 2147483647 + (v + u % 1009 + a) ^ 3 % prim ((a + 7) % 13))) false)
        (spS c a (some (.int x, false)) (some (.int u, false)) (some (.int (c % 65537 + 5), false)) (some (.int v, false)) (some (.int ((v + u % 1009 + a) ^ 3 % prim ((a + 7) % 13)), false)) pn) := by
      refine ss_cons (s1 := start 8 [.int c, .int a] pn) (st_iteF (evb_of (ev_cmp (ev_var rfl) hp18 e0)) ss_nil) ?_
      refine ss_cons (s1 := ⟨[some (.int c, false), some (.int a, false), some (.list (primD.take 7), true), none, none, none, none, none], pn⟩) ?_ ?_
      · refine st_set (ev_lst (s1 := start 8 [.int c, .int a] pn) (xs := (primD.take 7).map fun d => (d, .fz)) ?_) rfl
        repeat' (first | exact ev_int | exact ev_bool | exact ev_non | exact ev_str | exact evs_nil | exact ev_var rfl | exact ev_own rfl | exact bin_add | exact bin_sub | refine' evs_cons ?_ ?_ | refine' ev_int1 ?_ | refine' ev_bin ?_ ?_ ?_ | refine' ev_ixG ?_ ?_ ?_ | refine' bin_mul ?_ | refine' bin_mod ?_ | refine' bin_div ?_ | refine' bin_pow ?_)
      refine ss_cons (s1 := spS c a none none none none none pn) ?_ ?_
      · refine st_set (d := .list primD) (t := .fresh) (s1 := ⟨[some (.int c, false), some (.int a, false), some (.list (primD.take 7), true), none, none, none, none, none], pn⟩) (ev_binL (d2 := .list (primD.drop 7)) (ev_own rfl) (ev_lst (s1 := ⟨[some (.int c, false), some (.int a, false), some (.list (primD.take 7), true), none, none, none, none, none], pn⟩) (xs := (primD.drop 7).map fun d => (d, .fz)) ?_) (bin_lst (by decide))) rfl
        repeat' (first | exact ev_int | exact ev_bool | exact ev_non | exact ev_str | exact evs_nil | exact ev_var rfl | exact ev_own rfl | exact bin_add | exact bin_sub | refine' evs_cons ?_ ?_ | refine' ev_int1 ?_ | refine' ev_bin ?_ ?_ ?_ | refine' ev_ixG ?_ ?_ ?_ | refine' bin_mul ?_ | refine' bin_mod ?_ | refine' bin_div ?_ | refine' bin_pow ?_)
      refine ss_cons (s1 := spS c a (some (.int x, false)) none none none none pn) ?_ ?_
      · refine st_set (d := .int x) (t := .fz) (s1 := spS c a none none none none none pn) ?_ rfl
        rw [← hx]
        repeat' (first | exact ev_int | exact ev_bool | exact ev_non | exact ev_str | exact evs_nil | exact ev_var rfl | exact ev_own rfl | exact bin_add | exact bin_sub | refine' evs_cons ?_ ?_ | refine' ev_int1 ?_ | refine' ev_bin ?_ ?_ ?_ | refine' ev_ixG ?_ ?_ ?_ | refine' bin_mul ?_ | refine' bin_mod ?_ | refine' bin_div ?_ | refine' bin_pow ?_)
        all_goals omega
      refine ss_cons (s1 := spS c a (some (.int x, false)) (some (.int u, false)) none none none pn) ?_ ?_
      · refine st_set (d := .int u) (t := .fz) (s1 := spS c a (some (.int x, false)) none none none none pn) ?_ rfl
        rw [← hu]
        repeat' (first | exact ev_int | exact ev_bool | exact ev_non | exact ev_str | exact evs_nil | exact ev_var rfl | exact ev_own rfl | exact bin_add | exact bin_sub | refine' evs_cons ?_ ?_ | refine' ev_int1 ?_ | refine' ev_bin ?_ ?_ ?_ | refine' ev_ixG ?_ ?_ ?_ | refine' bin_mul ?_ | refine' bin_mod ?_ | refine' bin_div ?_ | refine' bin_pow ?_)
        all_goals first | exact q1 | omega
      refine ss_cons (s1 := spS c a (some (.int x, false)) (some (.int u, false)) (some (.int (c % 65537 + 5), false)) none none pn) ?_ ?_
      · refine st_set (d := .int (c % 65537 + 5)) (t := .fz) (s1 := spS c a (some (.int x, false)) (some (.int u, false)) none none none pn) ?_ rfl
        repeat' (first | exact ev_int | exact ev_bool | exact ev_non | exact ev_str | exact evs_nil | exact ev_var rfl | exact ev_own rfl | exact bin_add | exact bin_sub | refine' evs_cons ?_ ?_ | refine' ev_int1 ?_ | refine' ev_bin ?_ ?_ ?_ | refine' ev_ixG ?_ ?_ ?_ | refine' bin_mul ?_ | refine' bin_mod ?_ | refine' bin_div ?_ | refine' bin_pow ?_)
        all_goals omega
      refine ss_cons (s1 := spS c a (some (.int x, false)) (some (.int u, false)) (some (.int (c % 65537 + 5), false)) (some (.int v, false)) none pn) ?_ ?_
      · refine st_set (d := .int v) (t := .fz) (s1 := spS c a (some (.int x, false)) (some (.int u, false)) (some (.int (c % 65537 + 5), false)) none none pn) ?_ rfl
        rw [← hv]
        repeat' (first | exact ev_int | exact ev_bool | exact ev_non | exact ev_str | exact evs_nil | exact ev_var rfl | exact ev_own rfl | exact bin_add | exact bin_sub | refine' evs_cons ?_ ?_ | refine' ev_int1 ?_ | refine' ev_bin ?_ ?_ ?_ | refine' ev_ixG ?_ ?_ ?_ | refine' bin_mul ?_ | refine' bin_mod ?_ | refine' bin_div ?_ | refine' bin_pow ?_)
        all_goals first | exact q2 | omega
      refine ss_cons (s1 := spS c a (some (.int x, false)) (some (.int u, false)) (some (.int (c % 65537 + 5), false)) (some (.int v, false)) (some (.int ((v + u % 1009 + a) ^ 3 % prim ((a + 7) % 13)), false)) pn) ?_ ?_
      · refine st_set (d := .int ((v + u % 1009 + a) ^ 3 % prim ((a + 7) % 13))) (t := .fz) (s1 := spS c a (some (.int x, false)) (some (.int u, false)) (some (.int (c % 65537 + 5), false)) (some (.int v, false)) none pn) ?_ rfl
        repeat' (first | exact ev_int | exact ev_bool | exact ev_non | exact ev_str | exact evs_nil | exact ev_var rfl | exact ev_own rfl | exact bin_add | exact bin_sub | refine' evs_cons ?_ ?_ | refine' ev_int1 ?_ | refine' ev_bin ?_ ?_ ?_ | refine' ev_ixG ?_ ?_ ?_ | refine' bin_mul ?_ | refine' bin_mod ?_ | refine' bin_div ?_ | refine' bin_pow ?_)
        all_goals first | exact q3 | omega
      refine ss_end (st_ret ?_)
      repeat' (first | exact ev_int | exact ev_bool | exact ev_non | exact ev_str | exact evs_nil | exact ev_var rfl | exact ev_own rfl | exact bin_add | exact bin_sub | refine' evs_cons ?_ ?_ | refine' ev_int1 ?_ | refine' ev_bin ?_ ?_ ?_ | refine' ev_ixG ?_ ?_ ?_ | refine' bin_mul ?_ | refine' bin_mod ?_ | refine' bin_div ?_ | refine' bin_pow ?_)
      all_goals omega
    subst hv
    exact run_of s1
end Fs

set_option Elab.async false
set_option linter.all false
set_option maxRecDepth 100000
set_option maxHeartbeats 8000000
namespace Fs
open PySem L2
theorem ix_cells {cells : List Int} {i : Int} (h0 : 0 ≤ i) (h1 : i < cells.length) : ixD (.list (cells.map .int)) (.int i) = some (.int (cells.getD i.toNat 0)) := by
  have hl : i.toNat < cells.length := by omega
  have e : (cells.map PyData.int)[i.toNat]? = some (.int (cells.getD i.toNat 0)) := by
    rw [List.getElem?_map, List.getElem?_eq_getElem hl, List.getD_eq_getElem?_getD, List.getElem?_eq_getElem hl]; rfl
  have q := L2.atI_nat e
  have e2 : ((i.toNat : Nat) : Int) = i := by omega
  rw [e2] at q
  exact q
def tkS (n : Int) (x2 x3 x4 : Option (D × Bool)) (p : Pn) : S := ⟨[some (.dict [], false), some (.int n, false), x2, x3, x4], some p⟩
theorem tail_ok {n : Int} {x2 x3 : Option (D × Bool)} {q : Pn} (h0 : 0 < n) (h1 : n < 1073741824) :
    Sts (.cons (.set 4 (.bin .Mod (.blt .int (.cons (.pix 0 2) .nil)) (.var 1))) (.cons (.pset 0 2 (.bin .FloorDiv (.pix 0 2) (.var 1))) (.cons (.ret (.var 4)) .nil))) (tkS n x2 x3 none q) (.ret (.int (q.r % n)) false) (tkS n x2 x3 (some (.int (q.r % n), false)) ⟨q.cells, q.a, q.r / n⟩) := by
  refine ss_cons (s1 := tkS n x2 x3 (some (.int (q.r % n), false)) q) ?_ (ss_cons (s1 := tkS n x2 x3 (some (.int (q.r % n), false)) ⟨q.cells, q.a, q.r / n⟩) ?_ (ss_end (st_ret (ev_var rfl))))
  · refine st_set (d := .int (q.r % n)) (t := .fz) (s1 := tkS n x2 x3 none q) ?_ rfl
    repeat' (first | exact ev_int | exact ev_bool | exact ev_non | exact ev_str | exact evs_nil | exact ev_var rfl | exact ev_own rfl | exact ev_pix rfl rfl rfl | exact bin_add | exact bin_sub | refine' evs_cons ?_ ?_ | refine' ev_int1 ?_ | refine' ev_lenL ?_ | refine' ev_bin ?_ ?_ ?_ | refine' ev_ixG ?_ ?_ ?_ | refine' bin_mul ?_ | refine' bin_mod ?_ | refine' bin_div ?_ | refine' bin_pow ?_)
    all_goals omega
  · refine st_pset (m := q.r / n) (t := .fz) (s1 := tkS n x2 x3 (some (.int (q.r % n), false)) q) (q := q) ?_ rfl rfl rfl
    repeat' (first | exact ev_int | exact ev_bool | exact ev_non | exact ev_str | exact evs_nil | exact ev_var rfl | exact ev_own rfl | exact ev_pix rfl rfl rfl | exact bin_add | exact bin_sub | refine' evs_cons ?_ ?_ | refine' ev_int1 ?_ | refine' ev_lenL ?_ | refine' ev_bin ?_ ?_ ?_ | refine' ev_ixG ?_ ?_ ?_ | refine' bin_mul ?_ | refine' bin_mod ?_ | refine' bin_div ?_ | refine' bin_pow ?_)
    all_goals omega
theorem take_ok {n : Int} {p : Pn} {r : Int × Pn} (h : takeF n p = some r) : runF 5 ir_take [.dict [], .int n] (some p) = some ((.int r.1, false), some r.2) := by
  unfold takeF at h
  split at h
  case isFalse => cases h
  rename_i hh
  obtain ⟨h0, h1, h2, h3⟩ := hh
  by_cases hr : p.r < n
  · rw [if_pos hr] at h
    cases h
    have pre : ∀ {x : Int}, cellF p = x → St1 (.ite (.cmp .Lt (.var 2) (.blt .len (.cons (.pix 0 0) .nil))) (.cons (.set 3 (.ix (.pix 0 0) (.var 2))) .nil)
        (.cons (.ite (.cmp .Gt (.blt .len (.cons (.pix 0 0) .nil)) (.int 0)) (.cons (.set 3 (.bin .Mod (.blt .int (.cons (.ix (.pix 0 0) (.bin .Mod (.blt .int (.cons (.bin .Add (.bin .Mult (.var 2) (.int 5)) (.int 3)) .nil)) (.blt .len (.cons (.pix 0 0) .nil)))) .nil)) (.bin .Add (.bin .Pow (.int 10) (.int 17)) (.var 2)))) .nil) .nil) .nil))
        (tkS n (some (.int p.a, false)) (some (.int 0, false)) none p) .nx (tkS n (some (.int p.a, false)) (some (.int x, false)) none p) := by
      intro x hx
      unfold cellF at hx
      have el : ((p.cells.map PyData.int).length : Int) = (p.cells.length : Int) := by rw [List.length_map]
      by_cases ha : p.a < p.cells.length
      · rw [if_pos ha] at hx
        refine (st_iteT (s1 := tkS n (some (.int p.a, false)) (some (.int 0, false)) none p) (evb_of (ev_cmp (k := true) (ev_var rfl) (ev_lenL (ev_pix rfl rfl rfl)) ?_)) (ss_cons (s1 := tkS n (some (.int p.a, false)) (some (.int x, false)) none p) ?_ ss_nil))
        · rw [cmp_lt, el, decide_eq_true ha]
        · refine st_set (d := .int x) (t := .fz) (s1 := tkS n (some (.int p.a, false)) (some (.int 0, false)) none p) ?_ rfl
          rw [← hx]
          exact ev_ixG (ev_pix rfl rfl rfl) (ev_var rfl) (ix_cells h2 ha)
      · rw [if_neg ha] at hx
        refine (st_iteF (s1 := tkS n (some (.int p.a, false)) (some (.int 0, false)) none p) (evb_of (ev_cmp (k := false) (ev_var rfl) (ev_lenL (ev_pix rfl rfl rfl)) ?_)) (ss_cons (s1 := tkS n (some (.int p.a, false)) (some (.int x, false)) none p) ?_ ss_nil))
        · rw [cmp_lt, el, decide_eq_false ha]
        · by_cases hz : 0 < p.cells.length
          · rw [if_pos hz] at hx
            refine st_iteT (s1 := tkS n (some (.int p.a, false)) (some (.int 0, false)) none p) (evb_of (ev_cmp (k := true) (ev_lenL (ev_pix rfl rfl rfl)) ev_int ?_)) (ss_cons (s1 := tkS n (some (.int p.a, false)) (some (.int x, false)) none p) ?_ ss_nil)
            · rw [cmp_gt, el, decide_eq_true (by omega)]
            · refine st_set (d := .int x) (t := .fz) (s1 := tkS n (some (.int p.a, false)) (some (.int 0, false)) none p) ?_ rfl
              rw [← hx]
              have z1 := Int.emod_nonneg (p.a * 5 + 3) (show (p.cells.length : Int) ≠ 0 by omega)
              have z2 := Int.emod_lt_of_pos (p.a * 5 + 3) (show (0 : Int) < (p.cells.length : Int) by omega)
              have e0 : Ev1 (.blt .len (.cons (.pix 0 0) .nil)) (tkS n (some (.int p.a, false)) (some (.int 0, false)) none p) (.int (p.cells.length : Int)) .fz (tkS n (some (.int p.a, false)) (some (.int 0, false)) none p) := by
                rw [← el]; exact ev_lenL (ev_pix rfl rfl rfl)
              have e1 : Ev1 (.bin .Add (.bin .Mult (.var 2) (.int 5)) (.int 3)) (tkS n (some (.int p.a, false)) (some (.int 0, false)) none p) (.int (p.a * 5 + 3)) .fz (tkS n (some (.int p.a, false)) (some (.int 0, false)) none p) :=
                ev_bin (ev_bin (ev_var rfl) ev_int (bin_mul (by omega))) ev_int bin_add
              have e2 : Ev1 (.bin .Add (.bin .Pow (.int 10) (.int 17)) (.var 2)) (tkS n (some (.int p.a, false)) (some (.int 0, false)) none p) (.int (10 ^ 17 + p.a)) .fz (tkS n (some (.int p.a, false)) (some (.int 0, false)) none p) :=
                ev_bin (ev_bin ev_int ev_int (bin_pow (by decide))) (ev_var rfl) bin_add
              exact ev_bin (ev_int1 (ev_ixG (ev_pix rfl rfl rfl) (ev_bin (ev_int1 e1) e0 (bin_mod (by omega))) (ix_cells z1 z2))) e2 (bin_mod (by omega))
          · rw [if_neg hz] at hx
            subst hx
            refine st_iteF (s1 := tkS n (some (.int p.a, false)) (some (.int 0, false)) none p) (evb_of (ev_cmp (k := false) (ev_lenL (ev_pix rfl rfl rfl)) ev_int ?_)) ss_nil
            rw [cmp_gt, el, decide_eq_false (by omega)]
    refine Eq.trans (run_of (d := .int (spreadF (cellF p) p.a % n)) (fr := false) (s1 := tkS n (some (.int p.a, false)) (some (.int (cellF p), false)) (some (.int (spreadF (cellF p) p.a % n), false)) ⟨p.cells, p.a + 1, spreadF (cellF p) p.a / n⟩)
      (ss_cons (s1 := tkS n (some (.int p.a, false)) (some (.int (cellF p), false)) none ⟨p.cells, p.a + 1, spreadF (cellF p) p.a⟩) (st_iteT (s1 := tkS n none none none p) (evb_of (ev_cmp (k := true) (ev_pix rfl rfl rfl) (ev_var rfl) ?_)) ?_) (tail_ok h0 h1))) rfl
    · rw [cmp_lt, decide_eq_true hr]
    · refine ss_cons (s1 := tkS n (some (.int p.a, false)) none none p) (st_set (d := .int p.a) (t := .fz) (s1 := tkS n none none none p) (ev_pix rfl rfl rfl) rfl) ?_
      refine ss_cons (s1 := tkS n (some (.int p.a, false)) (some (.int 0, false)) none p) (st_set (d := .int 0) (t := .fz) (s1 := tkS n (some (.int p.a, false)) none none p) ev_int rfl) ?_
      refine ss_cons (s1 := tkS n (some (.int p.a, false)) (some (.int (cellF p), false)) none p) (pre rfl) ?_
      refine ss_cons (s1 := tkS n (some (.int p.a, false)) (some (.int (cellF p), false)) none ⟨p.cells, p.a + 1, p.r⟩) (st_pset (m := p.a + 1) (t := .fz) (s1 := tkS n (some (.int p.a, false)) (some (.int (cellF p), false)) none p) (q := p) (ev_bin (ev_var rfl) ev_int bin_add) rfl rfl rfl) ?_
      refine ss_cons (s1 := tkS n (some (.int p.a, false)) (some (.int (cellF p), false)) none ⟨p.cells, p.a + 1, spreadF (cellF p) p.a⟩) ?_ ss_nil
      exact st_pset (m := spreadF (cellF p) p.a) (t := .fz) (s1 := tkS n (some (.int p.a, false)) (some (.int (cellF p), false)) none ⟨p.cells, p.a + 1, p.r⟩) (q := ⟨p.cells, p.a + 1, p.r⟩)
        (ev_callS (evs_cons (ev_var rfl) (evs_cons (ev_var rfl) evs_nil)) (spread_ok (cellF p) p.a h2 h3 (some ⟨p.cells, p.a + 1, p.r⟩)) rfl) rfl rfl rfl
  · rw [if_neg hr] at h
    cases h
    refine run_of (s1 := tkS n none none (some (.int (p.r % n), false)) ⟨p.cells, p.a, p.r / n⟩) (ss_cons (s1 := tkS n none none none p) (st_iteF (s1 := tkS n none none none p) (evb_of (ev_cmp (k := false) (ev_pix rfl rfl rfl) (ev_var rfl) ?_)) ss_nil) (tail_ok h0 h1))
    rw [cmp_lt, decide_eq_false hr]
end Fs

set_option Elab.async false
set_option linter.all false
set_option maxRecDepth 100000
set_option maxHeartbeats 8000000
namespace Fs
open PySem L2
theorem spF_imp {F F' : Fn} {n : Nat} (h : ∀ ds p r, F ds p = some r → F' ds p = some r) {vs : List V} {H : Hp} {Q : VK} (q : spF F n vs H Q) : spF F' n vs H Q := by
  obtain ⟨pa, G, ds, p, d, fr, p1, h1, h2, h3, h4, h5, h6⟩ := q
  exact ⟨pa, G, ds, p, d, fr, p1, h1, h2, h3, h4, h _ _ _ h5, h6⟩
theorem FTake_run : ∀ ds p r, FTake ds p = some r → runF 5 ir_take ds p = some r := by
  intro ds p r h
  unfold FTake at h
  split at h
  · obtain ⟨x, h1, h2⟩ := Option.map_eq_some_iff.mp h
    cases h2
    exact take_ok h1
  · cases h
theorem takeF_in {n : Int} {p : Pn} {r : Int × Pn} (h : takeF n p = some r) : 0 ≤ r.1 ∧ r.1 < n := by
  unfold takeF at h
  split at h
  · rename_i hh
    cases h
    exact ⟨Int.emod_nonneg _ (by omega), Int.emod_lt_of_pos _ hh.1⟩
  · cases h
theorem one_out {x y : D} {p : Option Pn} {d : D} {p1 : Option Pn} (h : oneF x y p = some (d, p1)) : ∃ q ys r, x = .dict [] ∧ p = some q ∧ itemsD y = some ys ∧ takeF ys.length q = some r ∧ ys[r.1.toNat]? = some d ∧ p1 = some r.2 := by
  unfold oneF at h
  split at h
  · obtain ⟨ys, h1, h⟩ := Option.bind_eq_some_iff.mp h
    obtain ⟨r, h2, h⟩ := Option.bind_eq_some_iff.mp h
    obtain ⟨d', h3, h⟩ := Option.map_eq_some_iff.mp h
    cases h
    exact ⟨_, ys, r, rfl, rfl, h1, h2, h3, rfl⟩
  · cases h
abbrev nOne (y : Str) : List Str := ["_law_pen", y]
theorem gfn_one {yn : Str} {W : Wd} {k : Nat} {f : Addr} {name qual : Str} {params : Arguments} {body : List Stmt} {scope : Scope} {dV kV doc pm cdv ct oc : Value} {an od : Option Addr} {osl : Array (Option Value)} (E : Em)
    (lk : W.K.lookup f = some ⟨oc, od, .func (PySem.W.fnOf name qual params body scope dV kV doc pm an cdv ct), osl⟩)
    (hcd : PySem.W.codeIn W.K cdv qual = true) (sc : FnScope (nOne yn) (nOne yn) scope) (bl : ∀ x, x ∈ bnames → W.mg x = none)
    (he : (emSs (nOne yn) ir_one E).1 = body) (ok : okSs (nOne yn) scope ir_one E = true) (tk : Call1 W k "_law_take" 2 (spF FTake 2)) :
    GFn W (k + 1) f (PySem.W.fnOf name qual params body scope dV kV doc pm an cdv ct) (nOne yn) spOne := by
  subst he
  refine gfn_of lk hcd sc (fun vs H Q h => ?_) fun A outer s H vs Q room hgd promise => ?_
  · obtain ⟨pa, G, v, w, x, y, p, d, p1, rfl, _⟩ := h
    rfl
  · have C : Cd (gx W (nOne yn) qual scope f cdv A outer s H) (nOne yn) scope k := ⟨rfl, sc.nd, rfl, rfl, room, hgd, bl⟩
    have C' : Cd (gx W (nOne yn) qual scope f cdv A outer s H) (gx W (nOne yn) qual scope f cdv A outer s H).N scope k := C
    unfold ir_one at ok
    rw [okSs, okS, okE, okE, okE] at ok
    obtain ⟨ok, _⟩ := and1 ok
    obtain ⟨o1, ok⟩ := and1 ok
    obtain ⟨o2, ok⟩ := and1 ok
    obtain ⟨o3, _⟩ := and1 ok
    rw [okEs, okE, okEs] at o2
    obtain ⟨o4, o2⟩ := and1 o2
    obtain ⟨o2, _⟩ := and1 o2
    rw [okE] at o2
    · obtain ⟨o5, o6⟩ := and1 o2
      rw [okEs] at o5
      obtain ⟨o5, _⟩ := and1 o5
      rw [okE] at o5
      obtain ⟨ft, fdt, pst, Gt, hm, hk, hb⟩ := tk
      have pl : ∀ p1 p2 p3 : Pos, PE (gx W (nOne yn) qual scope f cdv A outer s H) (.Call (.Name "len" p1) [.Name (nm (nOne yn) 1) p2] [] p3) (tCB (rBlt .len) (tCons (tVar 1) tNil)) := fun p1 p2 p3 =>
        pe_callB b_len (gl_of C o6).1 (C.no _) PySem.boot_len (pa_cons (pv C' o5) pa_nil (by rfl)) (by decide) (gl_of C o6).2 (by rfl) (by rfl)
      have pt : ∀ p1 p2 p3 p4 p5 p6 : Pos, PE (gx W (nOne yn) qual scope f cdv A outer s H) (.Call (.Name "_law_take" p1) [.Name (nm (nOne yn) 0) p2, .Call (.Name "len" p3) [.Name (nm (nOne yn) 1) p4] [] p5] [] p6)
          (fun σ H Q => tCons (tVar 0) (tCons (tCB (rBlt .len) (tCons (tVar 1) tNil)) tNil) σ H fun vs H1 => spF FTake 2 vs H1 Q) := fun p1 p2 p3 p4 p5 p6 =>
        pe_gcall Gt C.room C.gd (gl_of C o3).1 hm hk hb (pa_cons (pv C' o4) (pa_cons (pl _ _ _) pa_nil (by rfl)) (by rfl)) (gl_of C o3).2 (by rfl) (by rfl)
      refine ⟨_, pss_cons (ps_ret (pe_ix ix_D (pv C' o1) (pt _ _ _ _ _ _) (fun _ _ => rfl))) pss_nil, ?_⟩
      obtain ⟨pa, G, v, w, x, y, p, d, p1, rfl, gh, hp, rx, ry, np, ho, kk⟩ := promise
      obtain ⟨q, ys, r, rfl, rfl, hi, ht, hd, rfl⟩ := one_out ho
      have hl : bltD .len [y] = some (.int ys.length, false) := by
        cases y <;> first | (cases hi; rfl) | cases hi
      refine ⟨w, rfl, v, rfl, w, rfl, pa, G, [y], .int ys.length, false, gh, ⟨ry, trivial⟩, hl, fun u H1 res => ?_⟩
      obtain ⟨k1, res⟩ := res
      have hu : u = .int ys.length := by
        rcases res with ⟨_, r | ⟨_, _, _, _, e, _⟩⟩ | ⟨z, _⟩
        · cases r; rfl
        · cases e
        · cases z
      subst hu
      have hv : Rp pa G v (.dict []) := rx
      refine ⟨pa, G, [.dict [], .int ys.length], some q, .int r.1, false, some r.2, rfl, gh.trans k1, hp.heap k1, .cons hv (.cons (.int _) .nil), ?_, fun u H2 G1 kept g1 g2 nw hp2 res2 => ?_⟩
      · show (takeF ys.length q).map _ = _
        rw [ht]; rfl
      · rw [if_neg (by decide)] at res2
        have hu2 : u = .int r.1 := by cases res2; rfl
        subst hu2
        have gH2 : Sub G H2 := g1.trans g2
        have ry2 : RpT pa G H2 w y := by
          cases y with
          | list ds =>
            obtain ⟨b, xs, rfl, hb2, rb⟩ := ry.lst
            exact ⟨b, xs, rfl, kept b _ (k1 b _ hb2) (np b rfl), rb⟩
          | tuple ds => exact ry
          | _ => cases hi
        have ri := takeF_in ht
        have hix : ixD y (.int r.1) = some d := by
          have e1 := L2.atI_nat hd
          have e2 : ((r.1.toNat : Nat) : Int) = r.1 := by omega
          rw [e2] at e1
          cases y <;> first | (cases hi; exact e1) | cases hi
        refine ⟨pa, G, y, .int r.1, d, gH2, ry2, (show Rp pa G (.int r.1) (.int r.1) from .int _), hix, fun z rz => ?_⟩
        exact kk z H2 (fun a o h n => kept a o (k1 a o h) n) (hp2.back (hp.heap k1) g1) rz
    all_goals first | (intro z; cases z; done) | (intro m z; cases z; done)
end Fs

set_option Elab.async false
set_option linter.all false
set_option maxRecDepth 100000
set_option maxHeartbeats 8000000
namespace Fs
open PySem L2
theorem for_core (K : PySem.W.Frag) {pr : Bool} {tg : Tr} (hb : pr = true → tg.isT = true) {body : ISs} {J : It} {items : List D} {pa : PA} {H0 G0 G' H1 : Hp} {σ : L2.St} {s1 sE : S} {fl : Fl} {Ds : Ends} (S' : Sim pa H0 G0 G' σ H1 s1) (ok : SrF pr pa G' items J)
    (ev : fGo tg (evalSs body) items s1 = some (fl, sE)) (post : SPost pa H0 G0 G' fl sE Ds) :
    ∃ W : Nat → Nat → L2.St → Hp → Prop, (∃ m, W 0 m σ H1) ∧ ∀ i m σ H, W i m σ H →
      (J.stop i H ∧ Ds.nx σ H) ∨ (J.go i H ∧ ∃ Nn : L2.St → Hp → Prop, (∀ σ' H', Nn σ' H' → ∃ m', m' < m ∧ W (i + 1) m' σ' H') ∧ ∀ x H', J.yld i H x H' → tTr K tg x σ H' fun σ2 H2 => tF (evalSs body) { Ds with nx := Nn, ct := Nn, bk := Ds.nx } σ2 H2) := by
  obtain ⟨Gd, Y, w, hg, hy⟩ := ok
  refine for_it w (fun i σ' H' => ∃ G2 s2, Sub G' G2 ∧ Sim pa H0 G0 G2 σ' H' s2 ∧ fGo tg (evalSs body) (items.drop i) s2 = some (fl, sE)) ⟨G', s1, .refl, S', ev⟩ ?_ ?_ ?_
  · rintro i σ' H' _ ⟨G2, s2, u, S2, _⟩
    exact hg H' (u.trans S2.sub)
  · rintro i x σ' H' H'' hi ⟨G2, s2, u, S2, e⟩ y
    obtain ⟨d2, hd, res⟩ := hy i H' x H'' hi (hg H' (u.trans S2.sub)) y
    have edrop : items.drop i = d2 :: items.drop (i + 1) := by
      obtain ⟨hlt, e⟩ := List.getElem?_eq_some_iff.mp hd
      rw [List.drop_eq_getElem_cons hlt, e]
    rw [edrop, fGo] at e
    obtain ⟨sb, eb, e⟩ := obind e
    obtain ⟨⟨f, s3⟩, e2, e⟩ := obind e
    dsimp only at e
    refine item_ok K hb S2 (res.mono u) eb fun Gb σ3 Eb S3 _ _ _ _ => ⟨pa, H0, G0, Gb, sb, f, s3, S3, e2, ?_⟩
    have ub := u.trans Eb.gk
    cases f with
    | nx => exact fun σ4 H4 G4 k S4 => ⟨G4, s3, ub.trans k, S4, e⟩
    | cont => exact fun σ4 H4 G4 k S4 => ⟨G4, s3, ub.trans k, S4, e⟩
    | brk => cases e; exact fun σ4 H4 G4 k S4 => post σ4 H4 G4 (ub.trans k) S4
    | ret d fr => cases e; exact fun v σ4 H4 G4 k S4 r => post v σ4 H4 G4 (ub.trans k) S4 r
  · rintro σ' H' ⟨G2, s2, u, S2, e⟩
    rw [List.drop_length, fGo] at e
    cases e
    exact post σ' H' G2 u S2

def spOpen (K : PySem.W.Frag) : GSp := fun vs H Q => ∃ (a : Addr) (ns : List Int), vs = [.ref a] ∧ SqL K H a (ns.map V.int) ∧
  ∀ (H1 : Hp) (p c : Addr) (cells : List Int), Sub H H1 → H1 p = some (.lst [.ref c, .int 0, .int 0]) → H1 c = some (.lst (cells.map V.int)) → c ≠ p → Q (.ref p) H1
def spLaw (K : PySem.W.Frag) : GSp := fun vs H Q => ∃ (a : Addr) (ns : List Int), vs = [.ref a] ∧ SqL K H a (ns.map V.int) ∧ ∀ H', Q (.bl true) H'
def FNo : Fn := fun _ _ => none
def lawS (n : Nat) (p : Pn) : S := ⟨none :: some (.dict [], false) :: List.replicate (n - 2) none, some p⟩
theorem gfn_law {W : Wd} {k : Nat} {f : Addr} {name qual : Str} {params : Arguments} {body : List Stmt} {scope : Scope} {dV kV doc pm cdv ct oc : Value} {an od : Option Addr} {osl : Array (Option Value)} {N : List Str} {x0 : Str} (rest : ISs) (E : Em)
    (lk : W.K.lookup f = some ⟨oc, od, .func (PySem.W.fnOf name qual params body scope dV kV doc pm an cdv ct), osl⟩)
    (hcd : PySem.W.codeIn W.K cdv qual = true) (sc : FnScope N [x0] scope) (bl : ∀ x, x ∈ bnames → W.mg x = none) (h2 : 2 ≤ N.length)
    (he : (emSs N (.cons (.set 1 (.call "_law_open" FNo (.cons (.var 0) .nil))) rest) E).1 = body)
    (ok : okSs N scope (.cons (.set 1 (.call "_law_open" FNo (.cons (.var 0) .nil))) rest) E = true)
    (opn : Call1 W k "_law_open" 1 (spOpen W.K)) (ask : askSs (askOf W k) rest)
    (hlaw : ∀ cells : List Int, ∃ s1, evalSs rest (lawS N.length ⟨cells, 0, 0⟩) = some (.ret (.bool true) false, s1)) :
    GFn W (k + 1) f (PySem.W.fnOf name qual params body scope dV kV doc pm an cdv ct) [x0] (spLaw W.K) := by
  subst he
  refine gfn_of lk hcd sc (fun vs H Q h => ?_) fun A outer s H vs Q room hgd promise => ?_
  · obtain ⟨a, ns, rfl, _⟩ := h
    rfl
  · have C : Cd (gx W N qual scope f cdv A outer s H) (gx W N qual scope f cdv A outer s H).N scope k := ⟨rfl, sc.nd, rfl, rfl, room, hgd, bl⟩
    have B : Bd (gx W N qual scope f cdv A outer s H) := bd0 rfl fun _ => rfl
    rw [okSs, okS, okE, okEs, okE] at ok
    obtain ⟨ok, okr⟩ := and1 ok
    obtain ⟨ok, o2⟩ := and1 ok
    obtain ⟨o2, _⟩ := and1 o2
    obtain ⟨ok, o3⟩ := and1 ok
    obtain ⟨o3, _⟩ := and1 o3
    obtain ⟨o1, _⟩ := and1 ok
    obtain ⟨l1, l2⟩ := loc_of o2
    obtain ⟨ft, fdt, pst, Gt, hm, hk, hb⟩ := opn
    have pt : ∀ p1 p2 p3 : Pos, PE (gx W N qual scope f cdv A outer s H) (.Call (.Name "_law_open" p1) [.Name (nm N 0) p2] [] p3) (fun σ H Q => tCons (tVar 0) tNil σ H fun vs H1 => spOpen W.K vs H1 Q) := fun p1 p2 p3 =>
      pe_gcall Gt C.room C.gd (gl_of C o3).1 hm hk hb (pa_cons (pv C o1) pa_nil (by rfl)) (gl_of C o3).2 (by rfl) (by rfl)
    refine ⟨_, pss_cons (ps_set C.nd l1 l2 (pt _ _ _) (by rfl) (.inl rfl)) (sSs rest C B okr ask), ?_⟩
    obtain ⟨a, ns, rfl, hS, kk⟩ := promise
    refine ⟨.ref a, rfl, a, ns, rfl, hS, fun H1 p c cells u hp hc hne => ?_⟩
    obtain ⟨s1, hev⟩ := hlaw cells
    refine ⟨some (p, c), H1, upd (fun _ => none) c (.lst (cells.map V.int)), upd (fun _ => none) c (.lst (cells.map V.int)), lawS N.length ⟨cells, 0, 0⟩, _, s1, ?_, hev, ?_⟩
    · have gp : upd (fun _ => none) c (HO.lst (cells.map V.int)) p = none := by rw [upd_ne (Ne.symm hne)]
      have sl : ∀ {i : Nat} {d : D} {fl : Bool}, (lawS N.length ⟨cells, 0, 0⟩).sl[i]? = some (some (d, fl)) → i = 1 ∧ d = .dict [] ∧ fl = false := by
        intro i d fl h
        have h : (none :: some (PyData.dict [], false) :: List.replicate (N.length - 2) none)[i]? = some (some (d, fl)) := h
        match i, h with
        | 0, h => cases h
        | 1, h => cases h; exact ⟨rfl, rfl, rfl⟩
        | i + 2, h =>
          rw [List.getElem?_cons_succ, List.getElem?_cons_succ, List.getElem?_replicate] at h
          split at h <;> cases h
      refine ⟨?_, fun b o h => ?_, .refl, fun b o h => .inl h, fun b o h _ => h, ⟨hne, hp, upd_same, gp⟩, fun i d h => ?_, fun i d h => ?_, fun i j d e b h => ?_⟩
      · show ((L2.start N [.ref a]).set 1 _).length = (none :: some (PyData.dict [], false) :: List.replicate (N.length - 2) none).length
        unfold L2.start
        simp only [List.length_set, List.length_append, List.length_map, List.length_replicate, List.length_cons, List.length_nil]
        omega
      · by_cases z : b = c
        · subst z; rw [upd_same] at h; cases h; exact hc
        · rw [upd_ne z] at h; cases h
      · obtain ⟨rfl, rfl, _⟩ := sl h
        refine ⟨.ref p, ?_, .pen rfl⟩
        rw [List.getElem?_set_self]
        unfold L2.start
        simp only [List.length_append, List.length_map, List.length_replicate, List.length_cons, List.length_nil]
        omega
      · obtain ⟨_, _, z⟩ := sl h
        cases z
      · obtain ⟨_, _, z⟩ := sl h
        cases z
    · intro v σ1 H2 G1 _ _ r
      have r : Rp _ G1 v (.bool true) := r
      cases r
      exact kk H2
end Fs

set_option Elab.async false
set_option linter.all false
set_option maxRecDepth 100000
set_option maxHeartbeats 8000000
namespace Fs
open PySem L2
abbrev nOpen : List Str := ["_law_script", "_law_cells", "_law_k", "_law_cell"]
def opS (cs : List Int) (x2 x3 : Option (D × Bool)) : S := ⟨[none, some (.list (cs.map .int), true), x2, x3], none⟩
theorem ixN_small {n : Nat} {i : Int} (h0 : 0 ≤ i) (h1 : i < n) : ixN n i = some i.toNat := by
  unfold ixN
  rw [if_pos h0, if_pos h1]
theorem st_setIx {s s1 s2 : S} {d : D} {t t2 : Tg} {i j : Nat} {kx e : IE} {n : Int} {xs : List D} {p0 : D × Bool} (h0 : rd s i = some p0) (h1 : Ev1 e s d t s1) (h2 : Ev1 kx (s1.keep t) (.int n) t2 s2)
    (h3 : rd s2 i = some (.list xs, true)) (h4 : ixN xs.length n = some j) : St1 (.setIx i kx e) s .nx (s2.put i (.list (xs.set j d), true)) := by
  rw [St1, evalS, h0]
  show (evalE e s >>= _) = _
  rw [h1]
  show (evalE kx (s1.keep t) >>= _) = _
  rw [h2]
  show (match rd s2 i, PyData.int n with
    | some (.list xs, true), .int n => (ixN xs.length n).map fun j => (Fl.nx, s2.put i (.list (xs.set j d), true))
    | _, _ => none) = _
  rw [h3]
  show (ixN xs.length n).map _ = _
  rw [h4]; rfl
theorem turn_ev (cs : List Int) (h : cs.length = 12) (k : Nat) (z : Int) :
    ∃ cs' : List Int, cs'.length = 12 ∧ evalSs ir_turn (opS cs (some (.int k, false)) (some (.int z, false))) = some (.nx, opS cs' (some (.int k, false)) (some (.int z, false))) := by
  have m0 := Int.emod_nonneg (k : Int) (show (12 : Int) ≠ 0 by decide)
  have m1 := Int.emod_lt_of_pos (k : Int) (show (0 : Int) < 12 by decide)
  have hl : (((k : Int) % 12) : Int) < cs.length := by omega
  have e1 : ixD (.list (cs.map .int)) (.int ((k : Int) % 12)) = some (.int (cs.getD ((k : Int) % 12).toNat 0)) := ix_cells m0 hl
  have ek : Ev1 (.bin .Mod (.blt .int (.cons (.var 2) .nil)) (.int 12)) (opS cs (some (.int k, false)) (some (.int z, false))) (.int ((k : Int) % 12)) .fz (opS cs (some (.int k, false)) (some (.int z, false))) :=
    ev_bin (ev_int1 (ev_var rfl)) ev_int (bin_mod (by decide))
  have ee : Ev1 (.bin .Add (.ix (.var 1) (.bin .Mod (.blt .int (.cons (.var 2) .nil)) (.int 12))) (.var 3)) (opS cs (some (.int k, false)) (some (.int z, false))) (.int (cs.getD ((k : Int) % 12).toNat 0 + z)) .fz (opS cs (some (.int k, false)) (some (.int z, false))) :=
    ev_bin (ev_ixG (ev_own rfl) ek e1) (ev_var rfl) bin_add
  refine ⟨cs.set ((k : Int) % 12).toNat (cs.getD ((k : Int) % 12).toNat 0 + z), by rw [List.length_set]; exact h, ?_⟩
  refine ss_cons (s1 := opS (cs.set ((k : Int) % 12).toNat (cs.getD ((k : Int) % 12).toNat 0 + z)) (some (.int k, false)) (some (.int z, false))) ?_ ss_nil
  have q := st_setIx (i := 1) (s := opS cs (some (.int k, false)) (some (.int z, false))) (xs := cs.map .int) (j := ((k : Int) % 12).toNat) rfl ee ek rfl (by rw [List.length_map]; exact ixN_small m0 hl)
  rw [show (cs.map PyData.int).set ((k : Int) % 12).toNat (.int (cs.getD ((k : Int) % 12).toNat 0 + z)) = (cs.set ((k : Int) % 12).toNat (cs.getD ((k : Int) % 12).toNat 0 + z)).map PyData.int from List.map_set.symm] at q
  exact q
theorem turns_ev : ∀ (zs : List Int) (j : Nat) (cs : List Int) (x2 x3 : Option (D × Bool)), (zs = [] ∨ cs.length = 12) →
    ∃ (cs' : List Int) (y2 y3 : Option (D × Bool)), fGo (.t [2, 3]) (evalSs ir_turn) ((zs.map PyData.int).zipIdx j |>.map fun p => .tuple [.int (p.2 : Nat), p.1]) (opS cs x2 x3) = some (.nx, opS cs' y2 y3)
  | [], j, cs, x2, x3, _ => ⟨cs, x2, x3, by rw [List.map_nil, List.zipIdx_nil, List.map_nil, fGo]⟩
  | z :: zs, j, cs, x2, x3, h => by
    have h : cs.length = 12 := h.resolve_left (by simp)
    obtain ⟨cs1, h1, e1⟩ := turn_ev cs h j z
    obtain ⟨cs', y2, y3, e2⟩ := turns_ev zs (j + 1) cs1 (some (.int j, false)) (some (.int z, false)) (.inr h1)
    refine ⟨cs', y2, y3, ?_⟩
    rw [List.map_cons, List.zipIdx_cons, List.map_cons, fGo]
    show (S.bindT (opS cs x2 x3) (.t [2, 3]) (.tuple [.int (j : Nat), .int z]) >>= _) = _
    rw [show S.bindT (opS cs x2 x3) (.t [2, 3]) (.tuple [.int (j : Nat), .int z]) = some (opS cs (some (.int j, false)) (some (.int z, false))) from rfl]
    show (evalSs ir_turn (opS cs (some (.int j, false)) (some (.int z, false))) >>= _) = _
    rw [e1]
    exact e2
theorem cutV_ints (xs : List Int) (lo hi : Option Int) : cutV (xs.map V.int) lo hi = ((xs.drop (HT.sIx xs.length 0 lo)).take (HT.sIx xs.length xs.length hi - HT.sIx xs.length 0 lo)).map V.int := by
  unfold cutV
  rw [List.length_map, ← List.map_drop, ← List.map_take]
theorem sq_up {K : PySem.W.Frag} {H H' : Hp} {a : Addr} {xs : List V} (u : Sub H H') (h : SqL K H a xs) : SqL K H' a xs := by
  rcases h with (h | ⟨o, h⟩) | h
  · exact .inl (.inl (u _ _ h))
  · exact .inl (.inr ⟨o, u _ _ h⟩)
  · exact .inr h
theorem intsOf_map : ∀ l : List Int, intsOf (l.map .int) = some l
  | [] => rfl
  | n :: r => by
    show (intsOf (r.map .int)).map (n :: ·) = _
    rw [intsOf_map r]; rfl
theorem gfn_open {W : Wd} {k : Nat} {f : Addr} {name qual : Str} {params : Arguments} {body : List Stmt} {scope : Scope} {dV kV doc pm cdv ct oc : Value} {an od : Option Addr} {osl : Array (Option Value)} (E : Em)
    (lk : W.K.lookup f = some ⟨oc, od, .func (PySem.W.fnOf name qual params body scope dV kV doc pm an cdv ct), osl⟩)
    (hcd : PySem.W.codeIn W.K cdv qual = true) (sc : FnScope nOpen ["_law_script"] scope) (bl : ∀ x, x ∈ bnames → W.mg x = none)
    (he : (emSs nOpen ir_open E).1 = body) (ok : okSs nOpen scope ir_open E = true) :
    GFn W (k + 1) f (PySem.W.fnOf name qual params body scope dV kV doc pm an cdv ct) ["_law_script"] (spOpen W.K) := by
  subst he
  refine gfn_of lk hcd sc (fun vs H Q h => ?_) fun A outer s H vs Q room hgd promise => ?_
  · obtain ⟨a, ns, rfl, _⟩ := h
    rfl
  · have C : Cd (gx W nOpen qual scope f cdv A outer s H) (gx W nOpen qual scope f cdv A outer s H).N scope k := ⟨rfl, sc.nd, rfl, rfl, room, hgd, bl⟩
    have B : Bd (gx W nOpen qual scope f cdv A outer s H) := bd0 rfl fun _ => rfl
    unfold ir_open at ok
    rw [okSs, okSs, okSs] at ok
    obtain ⟨k1, ok⟩ := and1 ok
    obtain ⟨k2, ok⟩ := and1 ok
    obtain ⟨k3, _⟩ := and1 ok
    rw [okS] at k1
    rw [okS] at k2
    obtain ⟨k1, k4⟩ := and1 k1
    obtain ⟨k4, _⟩ := and1 k4
    obtain ⟨l1, l2⟩ := loc_of k4
    obtain ⟨k5, k2⟩ := and1 k2
    obtain ⟨k6, k2⟩ := and1 k2
    obtain ⟨_, k7⟩ := and1 k2
    rw [okSr] at k5
    obtain ⟨k5, k8⟩ := and1 k5
    rw [okE] at k5
    obtain ⟨k5, _⟩ := and1 k5
    rw [okE] at k5
    have glist : glB scope "list" = true := by
      rw [okE] at k1
      · exact (and1 k1).2
      all_goals first | (intro z; cases z; done) | (intro m z; cases z; done)
    have psl : ∀ (lo hi : Option Expr) (tl th : TO) (p1 p2 p3 : Pos), PO (gx W nOpen qual scope f cdv A outer s H) lo tl → PO (gx W nOpen qual scope f cdv A outer s H) hi th →
        PE (gx W nOpen qual scope f cdv A outer s H) (.Subscript (.Name (nm nOpen 0) p1) (.Slice lo hi none p2) p3) (tSl (rSlL W.K) (tVar 0) tl th) := fun lo hi tl th p1 p2 p3 h1 h2 =>
      pe_slice sl_list (pv C k5) h1 h2
    have ps1 : ∀ p1 p2 p3 p4 p5 p6 : Pos, PE (gx W nOpen qual scope f cdv A outer s H) (.Call (.Name "list" p1) [.Subscript (.Name (nm nOpen 0) p2) (.Slice none (some (.Constant (.int 12) 0 p3)) none p4) p5] [] p6) (tCB _ (tCons (tSl (rSlL W.K) (tVar 0) tNoPart (tPart (tC (.int 12)))) tNil)) := fun p1 p2 p3 p4 p5 p6 =>
      pe_callTy call_list_of (gl_of C glist).1 (C.no _) PyProof.Rows.boot_list (pa_cons (psl _ _ _ _ _ _ _ po_none (po_some pe_int)) pa_nil (by rfl)) (by decide) (gl_of C glist).2 (by rfl) (by rfl)
    have ps2 : ∀ (tgE : List Expr) (n : Nat) (p0 p1 p2 p3 p4 p5 p6 p7 : Pos), PI (gx W nOpen qual scope f cdv A outer s H) (.Tuple tgE n p0) (.Call (.Name "enumerate" p1) [.Subscript (.Name (nm nOpen 0) p2) (.Slice (some (.Constant (.int 12) 0 p3)) (some (.Constant (.int 63) 0 p4)) none p5) p6] [] p7)
        (iEnA W.K (tCons (tSl (rSlL W.K) (tVar 0) (tPart (tC (.int 12))) (tPart (tC (.int 63)))) tNil)) := fun tgE n p0 p1 p2 p3 p4 p5 p6 p7 =>
      pi_enA (gl_of C k8).1 (C.no _) (pa_cons (psl _ _ _ _ _ _ _ (po_some pe_int) (po_some pe_int)) pa_nil (by rfl)) (by rfl)
    refine ⟨_, pss_cons (ps_set C.nd l1 l2 (ps1 _ _ _ _ _ _) (by rfl) (.inl rfl)) (pss_cons (ps_for B.passes C.calm (ps2 _ _ _ _ _ _ _ _ _ _) (pg_tr C.nd C.calm (.t [2, 3]) _ (tg_of C B k6)) (sSs ir_turn C B k7 (by simp [ir_turn, askSs, askS, askE, askEs])) (by intro _; rfl)) (pss_cons (sS (.ret (.lst (.cons (.var 1) (.cons (.int 0) (.cons (.int 0) .nil))))) C B k3 (by simp [askS, askE, askEs])) pss_nil)), ?_⟩
    obtain ⟨a, ns, rfl, hS, kk⟩ := promise
    obtain ⟨c1, hc1⟩ : ∃ c1 : List Int, cutV (ns.map V.int) none (some 12) = c1.map V.int := ⟨_, cutV_ints _ _ _⟩
    obtain ⟨c2, hc2⟩ : ∃ c2 : List Int, cutV (ns.map V.int) (some 12) (some 63) = c2.map V.int := ⟨_, cutV_ints _ _ _⟩
    have hcase : c2 = [] ∨ c1.length = 12 := by
      have e1 := congrArg List.length hc1
      have e2 := congrArg List.length hc2
      rw [cutV_ints] at e1 e2
      simp only [List.length_map, List.length_take, List.length_drop] at e1 e2
      rw [show (12 : Int) = ((12 : Nat) : Int) from rfl, HT.sIx_nat, HT.sIx_none] at e1
      rw [show (12 : Int) = ((12 : Nat) : Int) from rfl, show (63 : Int) = ((63 : Nat) : Int) from rfl, HT.sIx_nat, HT.sIx_nat] at e2
      by_cases hz : c2.length = 0
      · exact .inl (List.length_eq_zero_iff.mp hz)
      · right; omega
    refine ⟨.ref a, rfl, 12, rfl, a, ns.map V.int, rfl, hS, fun p1 hp1 => ?_⟩
    rw [hc1]
    refine ⟨p1, c1.map V.int, rfl, .inl (.of upd_same), fun p2 hp2 => ?_⟩
    have u1 : Sub H (upd H p1 (.lst (c1.map V.int))) := .upd hp1
    have u2 : Sub H (upd (upd H p1 (.lst (c1.map V.int))) p2 (.lst (c1.map V.int))) := u1.trans (.upd hp2)
    refine ⟨.ref a, rfl, 12, rfl, 63, rfl, a, ns.map V.int, rfl, sq_up u2 hS, fun p3 hp3 => ?_⟩
    rw [hc2]
    refine ⟨p3, c2.map V.int, rfl, .inl ⟨.of upd_same, ?_⟩⟩
    have u3 := u2.trans (Sub.upd (o := .lst (c2.map V.int)) hp3)
    have n32 : p2 ≠ p3 := ne_of_none upd_same hp3
    have h3n : H p3 = none := by
      cases z : H p3 with
      | none => rfl
      | some o => rw [u2 _ _ z] at hp3; cases hp3
    have h2n : H p2 = none := by
      cases z : H p2 with
      | none => rfl
      | some o => rw [u1 _ _ z] at hp2; cases hp2
    obtain ⟨cs', y2, y3, hev⟩ := turns_ev c2 0 c1 none none hcase
    have sl : ∀ {i : Nat} {d : D} {fl : Bool}, (opS c1 none none).sl[i]? = some (some (d, fl)) → i = 1 ∧ d = .list (c1.map .int) ∧ fl = true := by
      intro i d fl h
      match i, h with
      | 0, h => cases h
      | 1, h => cases h; exact ⟨rfl, rfl, rfl⟩
      | 2, h => cases h
      | 3, h => cases h
      | i + 4, h => cases h
    have np : ∀ b, ¬ pen1 none b := fun b n => by obtain ⟨c, z⟩ := n; cases z
    have S' : Sim none H (fun _ => none) (upd (fun _ => none) p3 (.lst (c2.map V.int))) ((L2.start nOpen [.ref a]).set 1 (some (.ref p2))) (upd (upd (upd H p1 (.lst (c1.map V.int))) p2 (.lst (c1.map V.int))) p3 (.lst (c2.map V.int))) (opS c1 none none) := by
      refine ⟨rfl, fun b o h => ?_, fun b o h => (by cases h), fun b o h => ?_, fun b o h _ => u3 b o h, trivial, fun i d h => ?_, fun i d h => ?_, fun i j d e b h h' _ _ => ?_⟩
      · by_cases z : b = p3
        · subst z; rw [upd_same] at h ⊢; exact h
        · rw [upd_ne z] at h; cases h
      · by_cases z : b = p3
        · subst z; exact .inr h3n
        · rw [upd_ne z] at h; cases h
      · obtain ⟨_, _, z⟩ := sl h
        cases z
      · obtain ⟨rfl, rfl, _⟩ := sl h
        exact ⟨p2, c1.map V.int, c1.map .int, rfl, rfl, by rw [upd_ne n32, upd_same], Rps.ofInts _, by rw [upd_ne n32], h2n, np _⟩
      · rw [(sl h).1, (sl h').1]
    refine for_core W.K (fun _ => rfl) S' (fsr_en W.K upd_same (Rps.ofInts c2)) hev ?_
    intro σ1 H1 G1 u S1
    refine ⟨none, H, _, G1, opS cs' y2 y3, .ret (.list [.list (cs'.map .int), .int 0, .int 0]) true, _, S1, st_retL (ev_lst (evs_cons (ev_own rfl) (evs_cons ev_int (evs_cons ev_int evs_nil)))), ?_⟩
    intro v σ2 H4 G4 _ S4 r
    obtain ⟨b, xs, es, rfl, e, hb, rb, gb, _, _⟩ := r
    cases e
    match xs, rb with
    | [x, y, z], .cons r1 (.cons r2 (.cons r3 .nil)) =>
      cases r1 with
      | lst hc rc =>
        rename_i c zs
        cases r2
        cases r3
        have ez : zs = cs'.map V.int := rc.ints (intsOf_map cs')
        subst ez
        exact kk H4 b c cs' (fun d o h => S4.kee d o h (np d)) hb (S4.sub _ _ hc) (fun z => by rw [z, gb] at hc; cases hc)
end Fs

set_option Elab.async false
set_option linter.all false
set_option maxRecDepth 100000
set_option maxHeartbeats 8000000
namespace Fs
open PySem L2
structure DefAt (K : PySem.W.Frag) (mg : Str → Option Value) (x : Str) (st : Stmt) : Prop where
  of : ∃ f fd, mg x = some (.ref f) ∧ L2.Fun K x x st f fd
theorem defAt_mk {K : PySem.W.Frag} {h : Heap} {mg : Str → Option Value} (X : K.In h) (G : h.Ns mainGlobals mg) {x : Str} {st : Stmt} {f : Addr} {oc : Value} {od an : Option Addr} {osl : Array (Option Value)} {kV doc pm cdv ct : Value}
    (a : PySem.W.nsIn K mainGlobals x = some (some (.ref f))) (l : K.lookup f = some ⟨oc, od, .func (PySem.W.fnOf x x (defArgs st) (defBody st) (defScope st) .none kV doc pm an cdv ct), osl⟩)
    (c : PySem.W.codeIn K cdv x = true) (k : PySem.W.keepIn K (.ref f) = true) : DefAt K mg x st := ⟨f, _, PySem.W.mg_of X G a, fun_mk l c k⟩
theorem Call1.mono {W : Wd} {j k : Nat} {x : Str} {n : Nat} {sp : GSp} (c : Call1 W j x n sp) (h : j ≤ k) : Call1 W k x n sp := by
  obtain ⟨⟨f, fd, ps, F, r⟩⟩ := c
  exact ⟨f, fd, ps, F.mono h, r⟩
abbrev BindsAt (x : Str) (st : Stmt) (ps : List Str) : Prop := ∀ (kV doc pm : Value) (an : Option Addr) (cdv ct : Value) (us : List Value), us.length = ps.length →
  bindArgs (PySem.W.fnOf x x (defArgs st) (defBody st) (defScope st) .none kV doc pm an cdv ct) ⟨us, []⟩ = pure (ps.zip us)
section
variable {W : Wd} {k : Nat} {x : Str} {st : Stmt} {N ps : List Str}
theorem def_at (d : DefAt W.K W.mg x st) (ir : ISs) (E : Em) (sc : FnScope N ps (defScope st)) (bl : ∀ x, x ∈ bnames → W.mg x = none) (he : (emSs N ir E).1 = defBody st) (ok : okSs N (defScope st) ir E = true)
    (ask : askSs (askOf W k) ir) (hb : BindsAt x st ps) : Call1 W (k + 1) x ps.length (spF (runF N.length ir) ps.length) := by
  obtain ⟨f, fd, hm, F⟩ := d.of
  have b := F.binds hb
  obtain ⟨oc, od, kV, doc, pm, an, cdv, ct, osl, rfl, lk, hcd⟩ := F.ex
  exact ⟨f, _, ps, def_of ir E lk hcd sc bl he ok ask, hm, F.kp, b⟩
theorem def_imp {n : Nat} {F F' : Fn} (h : ∀ ds p r, F ds p = some r → F' ds p = some r) (c : Call1 W k x n (spF F' n)) : Call1 W k x n (spF F n) := by
  obtain ⟨⟨f, fd, ps, G, r⟩⟩ := c
  exact ⟨f, fd, ps, G.imp fun vs H Q q => spF_imp h q, r⟩
theorem one_at {yn : Str} (d : DefAt W.K W.mg x st) (E : Em) (sc : FnScope (nOne yn) (nOne yn) (defScope st)) (bl : ∀ x, x ∈ bnames → W.mg x = none) (he : (emSs (nOne yn) ir_one E).1 = defBody st) (ok : okSs (nOne yn) (defScope st) ir_one E = true)
    (tk : Call1 W k "_law_take" 2 (spF FTake 2)) (hb : BindsAt x st (nOne yn)) : Call1 W (k + 1) x 2 spOne := by
  obtain ⟨f, fd, hm, F⟩ := d.of
  have b := F.binds hb
  obtain ⟨oc, od, kV, doc, pm, an, cdv, ct, osl, rfl, lk, hcd⟩ := F.ex
  exact ⟨f, _, (nOne yn), gfn_one E lk hcd sc bl he ok tk, hm, F.kp, b⟩
theorem open_at (d : DefAt W.K W.mg x st) (E : Em) (sc : FnScope nOpen ["_law_script"] (defScope st)) (bl : ∀ x, x ∈ bnames → W.mg x = none) (he : (emSs nOpen ir_open E).1 = defBody st) (ok : okSs nOpen (defScope st) ir_open E = true)
    (hb : BindsAt x st ["_law_script"]) : Call1 W (k + 1) x 1 (spOpen W.K) := by
  obtain ⟨f, fd, hm, F⟩ := d.of
  have b := F.binds hb
  obtain ⟨oc, od, kV, doc, pm, an, cdv, ct, osl, rfl, lk, hcd⟩ := F.ex
  exact ⟨f, _, ["_law_script"], gfn_open E lk hcd sc bl he ok, hm, F.kp, b⟩
end
theorem law_at {l : PySem.W.OpenLaw} {w : World} {K : PySem.W.Frag} {mg : Str → Option Value} {fa : Addr} {k : Nat} {st : Stmt} {N : List Str} {x0 : Str} (rest : ISs) (E : Em) (d : DefAt K mg "law" st) (hfa : mg "law" = some (.ref fa))
    (sc : FnScope N [x0] (defScope st)) (bl : ∀ x, x ∈ bnames → mg x = none) (h2 : 2 ≤ N.length)
    (he : (emSs N (.cons (.set 1 (.call "_law_open" FNo (.cons (.var 0) .nil))) rest) E).1 = defBody st)
    (ok : okSs N (defScope st) (.cons (.set 1 (.call "_law_open" FNo (.cons (.var 0) .nil))) rest) E = true)
    (parts : ∀ base : Heap, K.In base → base.Ns mainGlobals mg → Call1 ⟨l.prog, w, K, mg, base⟩ k "_law_open" 1 (spOpen K) ∧ askSs (askOf ⟨l.prog, w, K, mg, base⟩ k) rest)
    (hlaw : ∀ cells : List Int, ∃ s1, evalSs rest (lawS N.length ⟨cells, 0, 0⟩) = some (.ret (.bool true) false, s1))
    (hbind : ∀ (kV doc pm : Value) (an : Option Addr) (cdv ct u : Value), bindArgs (PySem.W.fnOf "law" "law" (defArgs st) (defBody st) (defScope st) .none kV doc pm an cdv ct) ⟨[u], []⟩ = pure [(x0, u)]) :
    ∃ fd : FuncData, (∀ (s : Shared) (u : Value), BindsTo s fd ⟨[u], []⟩ [(x0, u)]) ∧ ∀ base : Heap, K.In base → base.Ns mainGlobals mg → GFn ⟨l.prog, w, K, mg, base⟩ (k + 1) fa fd [x0] (spLaw K) := by
  obtain ⟨f, fd, hm, F⟩ := d.of
  rw [hfa] at hm
  cases hm
  obtain ⟨oc, od, kV, doc, pm, an, cdv, ct, osl, rfl, lk, hcd⟩ := F.ex
  refine ⟨PySem.W.fnOf "law" "law" (defArgs st) (defBody st) (defScope st) .none kV doc pm an cdv ct, fun s u => .of_eq (hbind kV doc pm an cdv ct u), fun base hK hN => ?_⟩
  obtain ⟨p1, p2⟩ := parts base hK hN
  exact gfn_law (W := ⟨l.prog, w, K, mg, base⟩) rest E lk hcd sc bl h2 he ok p1 p2 hlaw
theorem walk_law {l : PySem.W.OpenLaw} {k : Nat} {x0 : Str} {q : Program} {loose : List Str} {XP : (Str → Option Value) → Heap → Prop} {YP : World → Heap → Prop} {d : DefRec} {K : Params → PySem.W.Frag}
    (hn : l.most = some 63) (hdf : d.params.defaults = []) (room : Room k callerA) (hY : ∀ (w : World) (h : Heap), YP w h → (K w.params).In h)
    (F : ∀ (w : World) (mg : Str → Option Value) (fa : Addr) (h : Heap), (K w.params).In h → h.Ns mainGlobals mg → mg d.name = some (.ref fa) →
      ∃ fd : FuncData, (∀ (s : Shared) (u : Value), BindsTo s fd ⟨[u], []⟩ [(x0, u)]) ∧ ∀ base : Heap, (K w.params).In base → base.Ns mainGlobals mg → GFn ⟨l.prog, w, K w.params, mg, base⟩ k fa fd [x0] (spLaw (K w.params))) :
    PySem.W.WalkO q loose XP YP l.row.toRowW d [] (fun f vs => PySem.call f vs) :=
  gwalk_of (n := 63) (sp := fun w => spLaw (K w.params)) hn (by decide) hdf room rfl hY F fun w H a ns hl _ hS => ⟨a, ns, rfl, hS, fun _ => rfl⟩
theorem bl_mk {mg : Str → Option Value} (z_len : mg "len" = none) (z_all : mg "all" = none) (z_any : mg "any" = none) (z_sum : mg "sum" = none) (z_max : mg "max" = none) (z_min : mg "min" = none) (z_tuple : mg "tuple" = none) (z_list : mg "list" = none) (z_repr : mg "repr" = none) (z_int : mg "int" = none) (z_sorted : mg "sorted" = none) (z_set : mg "set" = none) (z_range : mg "range" = none) (z_enumerate : mg "enumerate" = none) (z_zip : mg "zip" = none) (z_isinstance : mg "isinstance" = none) (z_bool : mg "bool" = none) (z_str : mg "str" = none) : ∀ x, x ∈ bnames → mg x = none := by
  intro x hx
  unfold bnames at hx
  simp only [List.mem_cons, List.not_mem_nil, or_false] at hx
  rcases hx with rfl | rfl | rfl | rfl | rfl | rfl | rfl | rfl | rfl | rfl | rfl | rfl | rfl | rfl | rfl | rfl | rfl | rfl <;> assumption
theorem glob_int {mg : Str → Option Value} {x : Str} {n : Int} {t : Tok} (h : mg x = some (.int n t)) : ∃ v u, mg x = some u ∧ RelV v u ∧ Rp none (fun _ => none) v (.int n) := ⟨.int n, .int n t, h, ⟨t, rfl⟩, .int n⟩
theorem tabAt_mk {K : PySem.W.Frag} {h : Heap} {mg : Str → Option Value} {x : Str} {d : Addr} {o : Obj} {es : Array DictEntry} {n : Nat} {tb : List (Str × Int)} {pm : Params} (_KX : K.In h) (e : mg x = some (.ref d)) (l : K.lookup d = some o) (ho : o = ⟨.type "dict", none, .dict es n, #[]⟩)
    (low : (d == sysModules) = false) (r : TabR pm es.toList tb) : ∀ (P : Program) (w : World) (base : Heap), w.params = pm → TabAt ⟨P, w, K, mg, base⟩ x tb := fun P w base h => by
  subst ho h
  exact ⟨d, es, n, e, ⟨l, r.lit, low⟩, r⟩
end Fs

set_option Elab.async false
set_option linter.all false
set_option maxRecDepth 100000
set_option maxHeartbeats 8000000
namespace Fs
open PySem L2
/-- b draws are still allowed -/
def Bud (b : Int) (p : Pn) : Prop := 0 ≤ p.a ∧ 0 ≤ b ∧ p.a + b ≤ 1073741824
theorem Bud.less {b c : Int} {p : Pn} (h : Bud b p) (h0 : 0 ≤ c) (hc : c ≤ b) : Bud c p := ⟨h.1, h0, by have := h.2.2; omega⟩
section
variable {s s1 s2 : S} {d d1 d2 : D} {t t1 t2 : Tg} {a b e : IE}
theorem ev_one {x : Str} {pn : Option Pn} (h1 : Ev1 a s d1 t1 s1) (h2 : Ev1 b s1 d2 t2 s2) (h : oneF d1 d2 s2.pn = some (d, pn)) : Ev1 (.one x a b) s d .fz { s2 with pn := pn } := by
  rw [Ev1, evalE, h1]
  show (evalE b s1 >>= _) = _
  rw [h2]
  show (oneF d1 d2 s2.pn >>= _) = _
  rw [h]; rfl
theorem st_app {i : Nat} {xs : List D} {d0 : D} (h0 : rd s i = some (d0, true)) (h1 : Ev1 e s d t s1) (h2 : rd (s1.keep t) i = some (.list xs, true)) (h3 : xs.length < sizeLine) : St1 (.app i e) s .nx ((s1.keep t).put i (.list (xs ++ [d]), true)) := by
  rw [St1, evalS, h0]
  show (evalE e s >>= _) = _
  rw [h1]
  show (match true, rd (s1.keep t) i with
    | true, some (.list xs, true) => if xs.length < sizeLine then some (Fl.nx, (s1.keep t).put i (.list (xs ++ [d]), true)) else none
    | _, _ => none) = _
  rw [h2]
  show (if xs.length < sizeLine then _ else _) = _
  rw [if_pos h3]
end
end Fs

set_option Elab.async false
set_option linter.all false
set_option maxRecDepth 100000
set_option maxHeartbeats 8000000
namespace Fs
open PySem L2
theorem lcGo_by {fi : S → Option (Bool × S)} {fe : S → Option ((D × Tg) × S)} {tg : Tr} (P : Nat → List D → S → Prop) : ∀ (items : List D) (j : Nat) (acc : List D) (s : S), P j acc s →
    (∀ i x acc s, items[i]? = some x → P (j + i) acc s → ∃ sb b sc, s.bindT tg x = some sb ∧ fi sb = some (b, sc) ∧ (b = false → P (j + i + 1) acc (sc.wipe tg.slots)) ∧
      (b = true → ∃ d t sd, fe sc = some ((d, t), sd) ∧ P (j + i + 1) (acc ++ [d]) ((sd.keep t).wipe tg.slots))) → ∃ ds s2, lcGo fi fe tg items s = some (ds, s2) ∧ P (j + items.length) (acc ++ ds) s2
  | [], j, acc, s, h, _ => ⟨[], s, by rw [lcGo], by rw [List.append_nil]; exact h⟩
  | x :: xs, j, acc, s, h, step => by
    obtain ⟨sb, b, sc, e1, e2, hf, ht⟩ := step 0 x acc s rfl h
    have next : ∀ i y acc s, xs[i]? = some y → P (j + 1 + i) acc s → ∃ sb b sc, s.bindT tg y = some sb ∧ fi sb = some (b, sc) ∧ (b = false → P (j + 1 + i + 1) acc (sc.wipe tg.slots)) ∧
        (b = true → ∃ d t sd, fe sc = some ((d, t), sd) ∧ P (j + 1 + i + 1) (acc ++ [d]) ((sd.keep t).wipe tg.slots)) := fun i y acc s hy hp => by
      have q := step (i + 1) y acc s hy (by rw [show j + (i + 1) = j + 1 + i by omega]; exact hp)
      rw [show j + (i + 1) + 1 = j + 1 + i + 1 by omega] at q
      exact q
    cases b with
    | false =>
      obtain ⟨ds, s2, e3, h2⟩ := lcGo_by P xs (j + 1) acc _ (hf rfl) next
      refine ⟨ds, s2, ?_, by rw [List.length_cons, show j + (xs.length + 1) = j + 1 + xs.length by omega]; exact h2⟩
      rw [lcGo, e1]
      show (fi sb >>= _) = _
      rw [e2]
      exact e3
    | true =>
      obtain ⟨d, t, sd, e4, h3⟩ := ht rfl
      obtain ⟨ds, s2, e3, h2⟩ := lcGo_by P xs (j + 1) (acc ++ [d]) _ h3 next
      refine ⟨d :: ds, s2, ?_, by rw [List.length_cons, show j + (xs.length + 1) = j + 1 + xs.length by omega]; rw [List.append_assoc] at h2; exact h2⟩
      rw [lcGo, e1]
      show (fi sb >>= _) = _
      rw [e2]
      show (fe sc >>= _) = _
      rw [e4]
      show (lcGo fi fe tg xs ((sd.keep t).wipe tg.slots) >>= _) = _
      rw [e3]; rfl
end Fs

set_option Elab.async false
set_option linter.all false
set_option maxRecDepth 100000
set_option maxHeartbeats 8000000
namespace Fs
open PySem L2
section
variable {s s1 s2 s3 : S} {d d1 d2 d3 : D} {t t1 t2 t3 : Tg} {a b c e : IE} {es : IEs} {i j n : Nat} {fr : Bool}
theorem ev_not {k : Bool} (h1 : EvB a s k s1) : Ev1 (.not a) s (.bool (!k)) .fz s1 := by
  rw [Ev1, evalE, h1]; rfl
theorem ev_isN (h1 : Ev1 a s d t s1) : Ev1 (.isN a) s (.bool (isn d)) .fz s1 := by
  rw [Ev1, evalE, h1]
  cases d <;> rfl
theorem ev_notN (h1 : Ev1 a s d t s1) : Ev1 (.notN a) s (.bool (!isn d)) .fz s1 := by
  rw [Ev1, evalE, h1]
  cases d <;> rfl
theorem ev_isi {ty : Ty5} {k : Bool} (h1 : Ev1 a s d t s1) (h : isiD ty d = some k) : Ev1 (.isi a ty) s (.bool k) .fz s1 := by
  rw [Ev1, evalE, h1]
  show (isiD ty d >>= _) = _
  rw [h]; rfl
theorem sr_rngE {m : Int} (h1 : Ev1 a s (.int m) t1 s1) (h0 : -(2 ^ 62) ≤ m) (h2 : m < 2 ^ 62) : evalSr (.rng a) s = some (((List.range m.toNat).map fun i => .int (i : Nat), .fz), s1) := by
  rw [evalSr, h1]
  show (if -(2 ^ 62) ≤ m ∧ m < 2 ^ 62 then _ else _) = _
  rw [if_pos ⟨h0, h2⟩]
theorem and_one (h1 : EvB e s fr s1) : Ev1 (.and (.cons e .nil)) s (.bool fr) .fz s1 := by
  rw [Ev1, evalE, evalAnd, h1]; rfl
theorem and_F {e2 : IE} (h1 : EvB e s false s1) : Ev1 (.and (.cons e (.cons e2 es))) s (.bool false) .fz s1 := by
  rw [Ev1, evalE, evalAnd, h1]; rfl
theorem or_one (h1 : EvB e s fr s1) : Ev1 (.or (.cons e .nil)) s (.bool fr) .fz s1 := by
  rw [Ev1, evalE, evalOr, h1]; rfl
theorem or_T {e2 : IE} (h1 : EvB e s true s1) : Ev1 (.or (.cons e (.cons e2 es))) s (.bool true) .fz s1 := by
  rw [Ev1, evalE, evalOr, h1]; rfl
theorem cmp_ne {x y : D} (h : okEq x y = true) : cmpD .NotEq x y = some (!PyData.eqv x y) := if_pos h
theorem cmp_eq {x y : D} (h : okEq x y = true) : cmpD .Eq x y = some (PyData.eqv x y) := if_pos h
theorem st_set2 {is : List Nat} {xs : List (D × Tg)} (h1 : EvS es s xs s1) (h2 : is.length = xs.length ∧ (is.all fun i => decide (i < s1.sl.length)) = true) : St1 (.set2 is es) s .nx ((s1.keeps (xs.map (·.2))).puts is xs) := by
  rw [St1, evalS, h1]
  show (if is.length = xs.length ∧ (is.all fun i => decide (i < s1.sl.length)) = true then _ else _) = _
  rw [if_pos h2]
theorem st_setT {is : List Nat} (h1 : Ev1 e s d t s1) (h2 : s1.bindT (.t is) d = some s2) : St1 (.setT is e) s .nx s2 := by
  rw [St1, evalS, h1]
  show (s1.bindT (.t is) d >>= _) = _
  rw [h2]; rfl
end
end Fs

set_option Elab.async false
set_option linter.all false
set_option maxRecDepth 100000
set_option maxHeartbeats 8000000
namespace Fs
open PySem L2
structure WE (e : IE) (s : S) (Q : D → Tg → S → Prop) : Prop where
  ex : ∃ d t s1, evalE e s = some ((d, t), s1) ∧ Q d t s1
structure WL (es : IEs) (s : S) (Q : List D → List Tg → S → Prop) : Prop where
  ex : ∃ xs s1, evalEs es s = some (xs, s1) ∧ Q (xs.map (·.1)) (xs.map (·.2)) s1
structure WB (e : IE) (s : S) (Q : Bool → S → Prop) : Prop where
  ex : ∃ b s1, boolD (evalE e s) = some (b, s1) ∧ Q b s1
structure WAl (es : IEs) (s : S) (Q : Bool → S → Prop) : Prop where
  ex : ∃ b s1, evalAll es s = some (b, s1) ∧ Q b s1
structure WR (src : Sr) (s : S) (Q : List D → Tg → S → Prop) : Prop where
  ex : ∃ xs t s1, evalSr src s = some ((xs, t), s1) ∧ Q xs t s1
structure WO (o : IO) (s : S) (Q : Option D → S → Prop) : Prop where
  ex : ∃ d s1, evalO o s = some (d, s1) ∧ Q d s1
structure WC (F : Fn) (ds : List D) (pn : Option Pn) (Q : D → Bool → Option Pn → Prop) : Prop where
  ex : ∃ d fr p1, F ds pn = some ((d, fr), p1) ∧ Q d fr p1
structure WT (tg : Tr) (s : S) (x : D) (Q : S → Prop) : Prop where
  ex : ∃ sb, s.bindT tg x = some sb ∧ Q sb
/-- a statement: N behind it, Q where it leaves -/
structure W1 (st : IS) (s : S) (N : S → Prop) (Q : Fl → S → Prop) : Prop where
  ex : ∃ f s1, evalS st s = some (f, s1) ∧ (match f with | .nx => N s1 | f => Q f s1)
structure WS (ss : ISs) (s : S) (N : S → Prop) (Q : Fl → S → Prop) : Prop where
  ex : ∃ f s1, evalSs ss s = some (f, s1) ∧ (match f with | .nx => N s1 | f => Q f s1)
/-- steps on data -/
structure WD (op : Operator) (x y : D) (Q : D → Tg → Prop) : Prop where
  ex : ∃ r, binD op x y = some r ∧ Q r.1 (tagB r.2)
structure WK (op : CmpOp) (x y : D) (Q : Bool → Prop) : Prop where
  ex : ∃ k, cmpD op x y = some k ∧ Q k
structure WI (x y : D) (Q : D → Prop) : Prop where
  ex : ∃ d, ixD x y = some d ∧ Q d
structure WF (f : Bf) (xs : List D) (Q : D → Tg → Prop) : Prop where
  ex : ∃ r, bltD f xs = some r ∧ Q r.1 (tagB r.2)
structure WV (d : D) (Q : Bool → Prop) : Prop where
  ex : ∃ b, d = .bool b ∧ Q b
structure WSl (x : D) (l m : Option D) (Q : D → Tg → Prop) : Prop where
  ex : ∃ r, slD x l m = some r ∧ Q r.1 (tagB r.2)
structure WZ (x y : D) (Q : List D → List D → Prop) : Prop where
  ex : ∃ xs ys, itemsD x = some xs ∧ itemsD y = some ys ∧ kin x y = true ∧ Q xs ys
structure W1n (x y : D) (pn : Option Pn) (Q : D → Option Pn → Prop) : Prop where
  ex : ∃ d p1, oneF x y pn = some (d, p1) ∧ Q d p1
section
variable {s : S} {Q : D → Tg → S → Prop} {a b c e : IE} {es : IEs} {i j n : Nat}
theorem w_int {n : Int} (h : Q (.int n) .fz s) : WE (.int n) s Q := ⟨_, _, _, by rw [evalE], h⟩
theorem w_bool {n : Bool} (h : Q (.bool n) .fz s) : WE (.bool n) s Q := ⟨_, _, _, by rw [evalE], h⟩
theorem w_non (h : Q .none .fz s) : WE .non s Q := ⟨_, _, _, by rw [evalE], h⟩
theorem w_str {n : Str} (h : Q (.str n) .fz s) : WE (.str n) s Q := ⟨_, _, _, by rw [evalE], h⟩
theorem w_glob {x : Str} {d : D} (h : Q d .fz s) : WE (.glob x d) s Q := ⟨_, _, _, by rw [evalE], h⟩
theorem w_var {d : D} (hd : rd s i = some (d, false)) (h : Q d .fz s) : WE (.var i) s Q := ⟨_, _, _, ev_var hd, h⟩
theorem w_own {d : D} (hd : rd s i = some (d, true)) (h : Q d (.slot i) s) : WE (.var i) s Q := ⟨_, _, _, ev_own hd, h⟩
theorem w_bin {op : Operator} (h : WE a s fun x _ s1 => WE b s1 fun y _ s2 => WD op x y fun d t => Q d t s2) : WE (.bin op a b) s Q := by
  obtain ⟨x, t, s1, e1, ⟨y, t2, s2, e2, ⟨⟨d, fr⟩, e3, h⟩⟩⟩ := h
  exact ⟨_, _, _, ev_binG e1 e2 e3, h⟩
theorem w_neg {n : Int} (h : WE a s fun x _ s1 => x = .int n ∧ Q (.int (-n)) .fz s1) : WE (.neg a) s Q := by
  obtain ⟨x, t, s1, e1, rfl, h⟩ := h
  exact ⟨_, _, _, by rw [evalE, e1]; rfl, h⟩
theorem w_not (h : WB a s fun k s1 => Q (.bool (!k)) .fz s1) : WE (.not a) s Q := by
  obtain ⟨k, s1, e1, h⟩ := h
  exact ⟨_, _, _, ev_not e1, h⟩
theorem w_cmp {op : CmpOp} (h : WE a s fun x _ s1 => WE b s1 fun y _ s2 => WK op x y fun k => Q (.bool k) .fz s2) : WE (.cmp op a b) s Q := by
  obtain ⟨x, t, s1, e1, ⟨y, t2, s2, e2, ⟨d, e3, h⟩⟩⟩ := h
  exact ⟨_, _, _, ev_cmp e1 e2 e3, h⟩
theorem w_isN (h : WE a s fun x _ s1 => Q (.bool (isn x)) .fz s1) : WE (.isN a) s Q := by
  obtain ⟨x, t, s1, e1, h⟩ := h
  exact ⟨_, _, _, ev_isN e1, h⟩
theorem w_notN (h : WE a s fun x _ s1 => Q (.bool (!isn x)) .fz s1) : WE (.notN a) s Q := by
  obtain ⟨x, t, s1, e1, h⟩ := h
  exact ⟨_, _, _, ev_notN e1, h⟩
/-- both steps leave the state alone: one answer -/
theorem w_cmp2P {o p : CmpOp} {K M : Bool} {s2 : S} (h : WE a s fun x _ s1 => WE b s1 fun y _ s2' => s2' = s2 ∧ WK o x y fun k => k = K ∧ (K = true → WE c s2 fun z _ s3 => s3 = s2 ∧ WK p y z fun m => m = M)) (q : Q (.bool (K && M)) .fz s2) : WE (.cmp2 o p a b c) s Q := by
  obtain ⟨x, t, s1, e1, ⟨y, t2, s2', e2, rfl, ⟨k, e3, rfl, hT⟩⟩⟩ := h
  cases k with
  | true =>
    obtain ⟨z, t3, s3, e4, rfl, ⟨m, e5, rfl⟩⟩ := hT rfl
    refine ⟨_, _, _, ?_, q⟩
    rw [evalE, e1]; show (evalE b s1 >>= _) = _
    rw [e2]; show (cmpD o x y >>= _) = _
    rw [e3]; show (evalE c s3 >>= _) = _
    rw [e4]; show (cmpD p y z >>= _) = _
    rw [e5]; rfl
  | false =>
    refine ⟨_, _, _, ?_, q⟩
    rw [evalE, e1]; show (evalE b s1 >>= _) = _
    rw [e2]; show (cmpD o x y >>= _) = _
    rw [e3]; rfl
theorem w_tup (h : WL es s fun ds ts s1 => Q (.tuple ds) .fz (s1.keeps ts)) : WE (.tup es) s Q := by
  obtain ⟨xs, s1, e1, h⟩ := h
  exact ⟨_, _, _, ev_tup e1, h⟩
theorem w_lst (h : WL es s fun ds ts s1 => Q (.list ds) .fresh (s1.keeps ts)) : WE (.lst es) s Q := by
  obtain ⟨xs, s1, e1, h⟩ := h
  exact ⟨_, _, _, ev_lst e1, h⟩
theorem w_ix (h : WE a s fun x _ s1 => WE b s1 fun y _ s2 => WI x y fun d => Q d .fz s2) : WE (.ix a b) s Q := by
  obtain ⟨x, t, s1, e1, ⟨y, t2, s2, e2, ⟨d, e3, h⟩⟩⟩ := h
  exact ⟨_, _, _, ev_ixG e1 e2 e3, h⟩
theorem w_sl {lo hi : IO} (h : WE a s fun x _ s1 => WO lo s1 fun l s2 => WO hi s2 fun m s3 => WSl x l m fun d t => Q d t s3) : WE (.sl a lo hi) s Q := by
  obtain ⟨x, t, s1, e1, ⟨l, s2, e2, ⟨m, s3, e3, ⟨⟨d, fr⟩, e4, h⟩⟩⟩⟩ := h
  refine ⟨_, _, _, ?_, h⟩
  rw [evalE, e1]; show (evalO lo s1 >>= _) = _
  rw [e2]; show (evalO hi s2 >>= _) = _
  rw [e3]; show (slD x l m >>= _) = _
  rw [e4]; rfl
theorem w_isi {ty : Ty5} (h : WE a s fun x _ s1 => ∃ k, isiD ty x = some k ∧ Q (.bool k) .fz s1) : WE (.isi a ty) s Q := by
  obtain ⟨x, t, s1, e1, k, e2, h⟩ := h
  exact ⟨_, _, _, ev_isi e1 e2, h⟩
theorem w_blt {f : Bf} (h : WL es s fun ds _ s1 => WF f ds fun d t => Q d t s1) : WE (.blt f es) s Q := by
  obtain ⟨xs, s1, e1, ⟨⟨d, fr⟩, e2, h⟩⟩ := h
  exact ⟨_, _, _, ev_bltG e1 e2, h⟩
def cst (s1 : S) (ts : List Tg) (d : D) (pn : Option Pn) : S := if scal d = true then { s1 with pn := pn } else { (s1.keeps ts) with pn := pn }
def ctg (d : D) (fr : Bool) : Tg := if scal d = true then .fz else tagB fr
theorem w_call {x : Str} {F : Fn} (h : WL es s fun ds ts s1 => WC F ds s1.pn fun d fr pn => Q d (ctg d fr) (cst s1 ts d pn)) : WE (.call x F es) s Q := by
  obtain ⟨xs, s1, e1, ⟨d, fr, pn, e2, h⟩⟩ := h
  cases z : scal d with
  | true =>
    refine ⟨_, _, _, ev_callS e1 e2 z, ?_⟩
    unfold ctg cst at h
    rw [if_pos z, if_pos z] at h; exact h
  | false =>
    refine ⟨_, _, _, ev_call e1 e2 z, ?_⟩
    unfold ctg cst at h
    rw [if_neg (by rw [z]; decide), if_neg (by rw [z]; decide)] at h; exact h
theorem w_one {x : Str} (h : WE a s fun x _ s1 => WE b s1 fun y _ s2 => W1n x y s2.pn fun d pn => Q d .fz { s2 with pn := pn }) : WE (.one x a b) s Q := by
  obtain ⟨x, t, s1, e1, ⟨y, t2, s2, e2, ⟨d, pn, e3, h⟩⟩⟩ := h
  exact ⟨_, _, _, ev_one e1 e2 e3, h⟩
theorem w_and (h : WB (.and es) s fun k s1 => Q (.bool k) .fz s1) : WE (.and es) s Q := by
  obtain ⟨k, s1, e1, h⟩ := h
  obtain ⟨⟨⟨d, t⟩, s2⟩, e2, h2⟩ := Option.bind_eq_some_iff.mp e1
  have key : ∀ (es : IEs) (s : S) r, evalAnd es s = some r → r.1.2 = .fz := by
    intro es
    induction es using IEs.rec (motive_1 := fun _ => True) (motive_3 := fun _ => True) (motive_4 := fun _ => True) with
    | nil => intro s r h; rw [evalAnd] at h; cases h
    | cons e es _ ih =>
      intro s r h
      rw [evalAnd] at h
      obtain ⟨⟨b, s1⟩, h1, h⟩ := Option.bind_eq_some_iff.mp h
      cases es with
      | nil => cases h; rfl
      | cons _ _ =>
        dsimp only at h
        split at h
        · exact ih _ _ h
        · cases h; rfl
    | _ => trivial
  have ht : t = .fz := by
    have e3 := e2
    rw [evalE] at e3
    exact key es s _ e3
  subst ht
  dsimp only at h2
  cases d <;> cases h2
  exact ⟨_, _, _, e2, h⟩
theorem w_or (h : WB (.or es) s fun k s1 => Q (.bool k) .fz s1) : WE (.or es) s Q := by
  obtain ⟨k, s1, e1, h⟩ := h
  obtain ⟨⟨⟨d, t⟩, s2⟩, e2, h2⟩ := Option.bind_eq_some_iff.mp e1
  have key : ∀ (es : IEs) (s : S) r, evalOr es s = some r → r.1.2 = .fz := by
    intro es
    induction es using IEs.rec (motive_1 := fun _ => True) (motive_3 := fun _ => True) (motive_4 := fun _ => True) with
    | nil => intro s r h; rw [evalOr] at h; cases h
    | cons e es _ ih =>
      intro s r h
      rw [evalOr] at h
      obtain ⟨⟨b, s1⟩, h1, h⟩ := Option.bind_eq_some_iff.mp h
      cases es with
      | nil => cases h; rfl
      | cons _ _ =>
        dsimp only at h
        split at h
        · cases h; rfl
        · exact ih _ _ h
    | _ => trivial
  have ht : t = .fz := by
    have e3 := e2
    rw [evalE] at e3
    exact key es s _ e3
  subst ht
  dsimp only at h2
  cases d <;> cases h2
  exact ⟨_, _, _, e2, h⟩
end
section
variable {s : S} {Q : Bool → S → Prop} {a b c e : IE} {es : IEs}
theorem wb_of (h : WE e s fun d _ s1 => WV d fun k => Q k s1) : WB e s Q := by
  obtain ⟨d, t, s1, e1, ⟨k, rfl, h⟩⟩ := h
  exact ⟨_, _, evb_of e1, h⟩
theorem wv {k : Bool} {Q : Bool → Prop} (h : Q k) : WV (.bool k) Q := ⟨_, rfl, h⟩
theorem wb_and1 (h : WB e s Q) : WB (.and (.cons e .nil)) s Q := by
  obtain ⟨k, s1, e1, h⟩ := h
  exact ⟨_, _, evb_of (and_one e1), h⟩
theorem wb_or1 (h : WB e s Q) : WB (.or (.cons e .nil)) s Q := by
  obtain ⟨k, s1, e1, h⟩ := h
  exact ⟨_, _, evb_of (or_one e1), h⟩
theorem wb_and {e2 : IE} (h : WB e s fun k s1 => (k = true → WB (.and (.cons e2 es)) s1 Q) ∧ (k = false → Q false s1)) : WB (.and (.cons e (.cons e2 es))) s Q := by
  obtain ⟨k, s1, e1, hT, hF⟩ := h
  cases k with
  | true =>
    obtain ⟨m, s2, e2, h⟩ := hT rfl
    refine ⟨_, _, ?_, h⟩
    rw [evalE] at e2 ⊢
    rw [evalAnd, e1]; exact e2
  | false => exact ⟨_, _, evb_of (and_F e1), hF rfl⟩
theorem wb_or {e2 : IE} (h : WB e s fun k s1 => (k = true → Q true s1) ∧ (k = false → WB (.or (.cons e2 es)) s1 Q)) : WB (.or (.cons e (.cons e2 es))) s Q := by
  obtain ⟨k, s1, e1, hT, hF⟩ := h
  cases k with
  | true => exact ⟨_, _, evb_of (or_T e1), hT rfl⟩
  | false =>
    obtain ⟨m, s2, e2, h⟩ := hF rfl
    refine ⟨_, _, ?_, h⟩
    rw [evalE] at e2 ⊢
    rw [evalOr, e1]; exact e2
theorem wb_andP {e2 : IE} {K M : Bool} (h1 : WB e s fun k s1 => s1 = s ∧ k = K) (h2 : K = true → WB (.and (.cons e2 es)) s fun m s2 => s2 = s ∧ m = M) (q : Q (K && M) s) : WB (.and (.cons e (.cons e2 es))) s Q := by
  obtain ⟨k, s1, e1, rfl, rfl⟩ := h1
  refine wb_and ⟨_, _, e1, fun z => ?_, fun z => by subst z; exact q⟩
  subst z
  obtain ⟨m, s2, e2, rfl, rfl⟩ := h2 rfl
  exact ⟨_, _, e2, q⟩
theorem wb_orP {e2 : IE} {K M : Bool} (h1 : WB e s fun k s1 => s1 = s ∧ k = K) (h2 : K = false → WB (.or (.cons e2 es)) s fun m s2 => s2 = s ∧ m = M) (q : Q (K || M) s) : WB (.or (.cons e (.cons e2 es))) s Q := by
  obtain ⟨k, s1, e1, rfl, rfl⟩ := h1
  refine wb_or ⟨_, _, e1, fun z => by subst z; exact q, fun z => ?_⟩
  subst z
  obtain ⟨m, s2, e2, rfl, rfl⟩ := h2 rfl
  exact ⟨_, _, e2, q⟩
theorem wal_nil (h : Q true s) : WAl .nil s Q := ⟨_, _, by rw [evalAll], h⟩
theorem wal_one {es : IEs} (h : WB e s Q) : WAl (.cons e es) s Q := by
  obtain ⟨k, s1, e1, h⟩ := h
  exact ⟨_, _, by rw [evalAll, e1], h⟩
end
section
variable {s : S} {a b c e : IE} {es : IEs}
theorem wl_nil {Q : List D → List Tg → S → Prop} (h : Q [] [] s) : WL .nil s Q := ⟨_, _, evs_nil, h⟩
theorem wl_cons {Q : List D → List Tg → S → Prop} (h : WE e s fun d t s1 => WL es s1 fun ds ts s2 => Q (d :: ds) (t :: ts) s2) : WL (.cons e es) s Q := by
  obtain ⟨d, t, s1, e1, ⟨xs, s2, e2, h⟩⟩ := h
  exact ⟨_, _, evs_cons e1 e2, h⟩
theorem wo_none {Q : Option D → S → Prop} (h : Q none s) : WO .none s Q := ⟨_, _, by rw [evalO], h⟩
theorem wo_some {Q : Option D → S → Prop} (h : WE e s fun d _ s1 => Q (some d) s1) : WO (.some e) s Q := by
  obtain ⟨d, t, s1, e1, h⟩ := h
  exact ⟨_, _, by rw [evalO, e1]; rfl, h⟩
theorem wr_seq {Q : List D → Tg → S → Prop} (h : WE e s fun d t s1 => ∃ xs, itemsD d = some xs ∧ Q xs t s1) : WR (.seq e) s Q := by
  obtain ⟨d, t, s1, e1, xs, e2, h⟩ := h
  refine ⟨_, _, _, ?_, h⟩
  rw [evalSr, e1]; show (itemsD d >>= _) = _
  rw [e2]; rfl
theorem wr_enum {Q : List D → Tg → S → Prop} (h : WE e s fun d t s1 => ∃ xs, itemsD d = some xs ∧ Q (xs.zipIdx.map fun p => .tuple [.int (p.2 : Nat), p.1]) t s1) : WR (.enum e) s Q := by
  obtain ⟨d, t, s1, e1, xs, e2, h⟩ := h
  refine ⟨_, _, _, ?_, h⟩
  rw [evalSr, e1]; show (itemsD d >>= _) = _
  rw [e2]; rfl
theorem wr_zip {Q : List D → Tg → S → Prop} (h : WE a s fun x t s1 => WE b s1 fun y u s2 => WZ x y fun xs ys => Q (List.zipWith (fun u v => .tuple [u, v]) xs ys) .fz ((s2.keep t).keep u)) : WR (.zip a b) s Q := by
  obtain ⟨x, t, s1, e1, ⟨y, u, s2, e2, ⟨xs, ys, e3, e4, e5, h⟩⟩⟩ := h
  refine ⟨_, _, _, ?_, h⟩
  rw [evalSr, e1]; show (evalE b s1 >>= _) = _
  rw [e2]; show (itemsD x >>= _) = _
  rw [e3]; show (itemsD y >>= _) = _
  rw [e4]; show (if kin x y = true then _ else _) = _
  rw [if_pos e5]
theorem wr_rng {Q : List D → Tg → S → Prop} (h : WE a s fun x _ s1 => ∃ n : Int, x = .int n ∧ (-(2 ^ 62) ≤ n ∧ n < 2 ^ 62) ∧ Q ((List.range n.toNat).map fun i => .int (i : Nat)) .fz s1) : WR (.rng a) s Q := by
  obtain ⟨x, t, s1, e1, n, rfl, z, h⟩ := h
  exact ⟨_, _, _, sr_rngE e1 z.1 z.2, h⟩
theorem wr_rng2 {Q : List D → Tg → S → Prop} (h : WE a s fun x _ s1 => WE b s1 fun y _ s2 => ∃ m n : Int, x = .int m ∧ y = .int n ∧ (-(2 ^ 62) ≤ m ∧ m < 2 ^ 62 ∧ -(2 ^ 62) ≤ n ∧ n < 2 ^ 62) ∧ Q ((List.range (n - m).toNat).map fun i => .int (m + (i : Nat))) .fz s2) : WR (.rng2 a b) s Q := by
  obtain ⟨x, t, s1, e1, ⟨y, t2, s2, e2, m, n, rfl, rfl, z, h⟩⟩ := h
  refine ⟨_, _, _, ?_, h⟩
  rw [evalSr, e1]; show (evalE b s1 >>= _) = _
  rw [e2]; show (if _ then _ else _) = _
  rw [if_pos z]
end
section
variable {Q : D → Tg → Prop}
theorem d_add {x y : Int} (h : Q (.int (x + y)) .fz) : WD .Add (.int x) (.int y) Q := ⟨_, rfl, h⟩
theorem d_sub {x y : Int} (h : Q (.int (x - y)) .fz) : WD .Sub (.int x) (.int y) Q := ⟨_, rfl, h⟩
theorem d_addL {x y : List D} (z : x.length + y.length ≤ sizeLine) (h : Q (.list (x ++ y)) .fresh) : WD .Add (.list x) (.list y) Q := ⟨_, bin_lst z, h⟩
end
section
variable {Q : Bool → Prop}
theorem k_lt {x y : Int} (h : Q (decide (x < y))) : WK .Lt (.int x) (.int y) Q := ⟨_, cmp_lt, h⟩
theorem k_le {x y : Int} (h : Q (decide (x ≤ y))) : WK .LtE (.int x) (.int y) Q := ⟨_, cmp_le, h⟩
theorem k_gt {x y : Int} (h : Q (decide (y < x))) : WK .Gt (.int x) (.int y) Q := ⟨_, cmp_gt, h⟩
theorem k_ge {x y : Int} (h : Q (decide (y ≤ x))) : WK .GtE (.int x) (.int y) Q := ⟨_, cmp_ge, h⟩
theorem k_eqI {x y : Int} (h : Q (decide (x = y))) : WK .Eq (.int x) (.int y) Q := ⟨_, cmp_eqI, h⟩
theorem k_neI {x y : Int} (h : Q (!decide (x = y))) : WK .NotEq (.int x) (.int y) Q := ⟨_, cmp_neI, h⟩
theorem k_eq {x y : D} (z : okEq x y = true) (h : Q (PyData.eqv x y)) : WK .Eq x y Q := ⟨_, cmp_eq z, h⟩
theorem k_ne {x y : D} (z : okEq x y = true) (h : Q (!PyData.eqv x y)) : WK .NotEq x y Q := ⟨_, cmp_ne z, h⟩
theorem eqv_int {x y : Int} : PyData.eqv (.int x) (.int y) = decide (x = y) := by rw [← Bool.beq_eq_decide_eq]; rfl
theorem any_ints {x : Int} : ∀ {ns : List Int}, (ns.map PyData.int).any (fun z => PyData.eqv z (.int x)) = decide (x ∈ ns)
  | [] => rfl
  | n :: ns => by
    rw [List.map_cons, List.any_cons, any_ints, eqv_int]
    by_cases h : n = x
    · subst h; simp
    · rw [decide_eq_false h, Bool.false_or]
      have : x ∈ n :: ns ↔ x ∈ ns := by
        constructor
        · intro z; rcases List.mem_cons.mp z with z | z
          · exact absurd z.symm h
          · exact z
        · exact List.mem_cons_of_mem _
      exact (decide_eq_decide.mpr this).symm
theorem goods_ints {k : Nat} : ∀ {ns : List Int}, goods k (ns.map PyData.int) = true
  | [] => by rw [List.map_nil, goods]
  | n :: ns => by
    rw [List.map_cons, goods, goods_ints (ns := ns)]
    cases k <;> rfl
theorem okEq_inT {x : Int} {ns : List Int} : okEq (.int x) (.tuple (ns.map .int)) = true := by
  show (good 60 (.int x) && good 60 (.tuple (ns.map .int))) = true
  rw [good, good, goods_ints]; rfl
theorem okEq_inL {x : Int} {ns : List Int} : okEq (.int x) (.list (ns.map .int)) = true := by
  show (good 60 (.int x) && good 60 (.list (ns.map .int))) = true
  rw [good, good, goods_ints]; rfl
theorem k_inT {x : Int} {ns : List Int} (h : Q (decide (x ∈ ns))) : WK .In (.int x) (.tuple (ns.map .int)) Q := by
  refine ⟨decide (x ∈ ns), ?_, h⟩
  show (if okEq (.int x) (.tuple (ns.map .int)) = true then some ((ns.map PyData.int).any fun z => PyData.eqv z (.int x)) else none) = _
  rw [if_pos okEq_inT, any_ints]
theorem k_inL {x : Int} {ns : List Int} (h : Q (decide (x ∈ ns))) : WK .In (.int x) (.list (ns.map .int)) Q := by
  refine ⟨decide (x ∈ ns), ?_, h⟩
  show (if okEq (.int x) (.list (ns.map .int)) = true then some ((ns.map PyData.int).any fun z => PyData.eqv z (.int x)) else none) = _
  rw [if_pos okEq_inL, any_ints]
theorem k_ninT {x : Int} {ns : List Int} (h : Q (!decide (x ∈ ns))) : WK .NotIn (.int x) (.tuple (ns.map .int)) Q := by
  refine ⟨!decide (x ∈ ns), ?_, h⟩
  show (if okEq (.int x) (.tuple (ns.map .int)) = true then some (!(ns.map PyData.int).any fun z => PyData.eqv z (.int x)) else none) = _
  rw [if_pos okEq_inT, any_ints]
theorem k_ninL {x : Int} {ns : List Int} (h : Q (!decide (x ∈ ns))) : WK .NotIn (.int x) (.list (ns.map .int)) Q := by
  refine ⟨!decide (x ∈ ns), ?_, h⟩
  show (if okEq (.int x) (.list (ns.map .int)) = true then some (!(ns.map PyData.int).any fun z => PyData.eqv z (.int x)) else none) = _
  rw [if_pos okEq_inL, any_ints]
end
section
variable {Q : D → Tg → Prop}
theorem f_lenL {xs : List D} (h : Q (.int xs.length) .fz) : WF .len [.list xs] Q := ⟨_, rfl, h⟩
theorem f_lenT {xs : List D} (h : Q (.int xs.length) .fz) : WF .len [.tuple xs] Q := ⟨_, rfl, h⟩
theorem boolsOf_map : ∀ {bs : List Bool}, boolsOf (bs.map .bool) = some bs
  | [] => rfl
  | b :: bs => by rw [List.map_cons, boolsOf, boolsOf_map]; rfl
theorem f_max2 {a b : Int} (h : Q (.int (if b > a then b else a)) .fz) : WF .max [.int a, .int b] Q := ⟨_, rfl, h⟩
theorem f_min2 {a b : Int} (h : Q (.int (if b < a then b else a)) .fz) : WF .min [.int a, .int b] Q := ⟨_, rfl, h⟩
theorem f_tupL {xs : List D} (h : Q (.tuple xs) .fz) : WF .tuple [.list xs] Q := ⟨_, rfl, h⟩
theorem f_tupT {xs : List D} (h : Q (.tuple xs) .fz) : WF .tuple [.tuple xs] Q := ⟨_, rfl, h⟩
theorem f_listL {xs : List D} (h : Q (.list xs) .fresh) : WF .list [.list xs] Q := ⟨_, rfl, h⟩
theorem f_listT {xs : List D} (h : Q (.list xs) .fresh) : WF .list [.tuple xs] Q := ⟨_, rfl, h⟩
theorem f_int {x : Int} (h : Q (.int x) .fz) : WF .int [.int x] Q := ⟨_, rfl, h⟩
end
theorem wi {x y d : D} {Q : D → Prop} (z : ixD x y = some d) (h : Q d) : WI x y Q := ⟨_, z, h⟩
theorem atI_in {xs : List D} {i : Int} {d : D} (h0 : 0 ≤ i) (h : xs[i.toNat]? = some d) : L2.atI xs i = some d := by
  have e1 := L2.atI_nat h
  have e2 : ((i.toNat : Nat) : Int) = i := by omega
  rw [e2] at e1; exact e1
theorem wi_mapT {α : Type} {xs : List α} {g : α → D} {i : Int} {y : α} {Q : D → Prop} (h0 : 0 ≤ i) (hy : xs[i.toNat]? = some y) (h : Q (g y)) : WI (.tuple (xs.map g)) (.int i) Q :=
  ⟨_, atI_in h0 (by rw [List.getElem?_map, hy]; rfl), h⟩
theorem z_TT {xs ys : List D} {Q : List D → List D → Prop} (h : Q xs ys) : WZ (.tuple xs) (.tuple ys) Q := ⟨_, _, rfl, rfl, rfl, h⟩
theorem z_LL {xs ys : List D} {Q : List D → List D → Prop} (h : Q xs ys) : WZ (.list xs) (.list ys) Q := ⟨_, _, rfl, rfl, rfl, h⟩
theorem cutF {xs : List D} {k : Nat} : cutD xs (some (k : Int)) none = xs.drop k := by
  unfold cutD
  rw [HT.sIx_none, HT.sIx_nat]
  by_cases h : k ≤ xs.length
  · rw [Nat.min_eq_left h, List.take_of_length_le (by rw [List.length_drop]; exact Nat.le_refl _)]
  · rw [Nat.min_eq_right (by omega), List.drop_eq_nil_of_le (Nat.le_refl _), List.drop_eq_nil_of_le (by omega), List.take_nil]
theorem cutT {xs : List D} {k : Nat} : cutD xs none (some (k : Int)) = xs.take k := by
  unfold cutD
  rw [HT.sIx_none, HT.sIx_nat, List.drop_zero, Nat.sub_zero]
  by_cases h : k ≤ xs.length
  · rw [Nat.min_eq_left h]
  · rw [Nat.min_eq_right (by omega), List.take_length, List.take_of_length_le (by omega)]
theorem nat_of {k : Int} (z : decide (0 ≤ k) = true) : ((k.toNat : Nat) : Int) = k := by have := of_decide_eq_true z; omega
theorem slF_T {xs : List D} {k : Int} {Q : D → Tg → Prop} (z : decide (0 ≤ k) = true) (h : Q (.tuple (xs.drop k.toNat)) .fz) : WSl (.tuple xs) (some (.int k)) none Q := by
  refine ⟨(.tuple (xs.drop k.toNat), false), ?_, h⟩
  rw [← cutF, nat_of z]; rfl
theorem slT_T {xs : List D} {k : Int} {Q : D → Tg → Prop} (z : decide (0 ≤ k) = true) (h : Q (.tuple (xs.take k.toNat)) .fz) : WSl (.tuple xs) none (some (.int k)) Q := by
  refine ⟨(.tuple (xs.take k.toNat), false), ?_, h⟩
  rw [← cutT, nat_of z]; rfl
theorem slF_L {xs : List D} {k : Int} {Q : D → Tg → Prop} (z : decide (0 ≤ k) = true) (h : Q (.list (xs.drop k.toNat)) .fresh) : WSl (.list xs) (some (.int k)) none Q := by
  refine ⟨(.list (xs.drop k.toNat), true), ?_, h⟩
  rw [← cutF, nat_of z]; rfl
theorem slT_L {xs : List D} {k : Int} {Q : D → Tg → Prop} (z : decide (0 ≤ k) = true) (h : Q (.list (xs.take k.toNat)) .fresh) : WSl (.list xs) none (some (.int k)) Q := by
  refine ⟨(.list (xs.take k.toNat), true), ?_, h⟩
  rw [← cutT, nat_of z]; rfl
theorem wt_v {i : Nat} {s : S} {x : D} {Q : S → Prop} (z : decide (i < s.sl.length) = true) (h : Q (s.put i (x, false))) : WT (.v i) s x Q := ⟨_, if_pos (of_decide_eq_true z), h⟩
theorem wt {tg : Tr} {s sb : S} {x : D} {Q : S → Prop} (z : s.bindT tg x = some sb) (h : Q sb) : WT tg s x Q := ⟨_, z, h⟩
end Fs

set_option Elab.async false
set_option linter.all false
set_option maxRecDepth 100000
set_option maxHeartbeats 8000000
namespace Fs
open PySem L2
def flQ (N : S → Prop) (Q : Fl → S → Prop) : Fl → S → Prop
  | .nx, s => N s
  | .ret d fr, s => Q (.ret d fr) s
  | .brk, s => Q .brk s
  | .cont, s => Q .cont s
def loopQ (C N : S → Prop) (Q : Fl → S → Prop) : Fl → S → Prop
  | .nx, s => C s
  | .cont, s => C s
  | .brk, s => N s
  | .ret d fr, s => Q (.ret d fr) s
theorem W1.of {st : IS} {s s1 : S} {N : S → Prop} {Q : Fl → S → Prop} {f : Fl} (e : evalS st s = some (f, s1)) (h : flQ N Q f s1) : W1 st s N Q := by
  refine ⟨f, s1, e, ?_⟩
  cases f <;> exact h
theorem W1.out {st : IS} {s : S} {N : S → Prop} {Q : Fl → S → Prop} (h : W1 st s N Q) : ∃ f s1, evalS st s = some (f, s1) ∧ flQ N Q f s1 := by
  obtain ⟨f, s1, e, h⟩ := h
  refine ⟨f, s1, e, ?_⟩
  cases f <;> exact h
theorem WS.of {st : ISs} {s s1 : S} {N : S → Prop} {Q : Fl → S → Prop} {f : Fl} (e : evalSs st s = some (f, s1)) (h : flQ N Q f s1) : WS st s N Q := by
  refine ⟨f, s1, e, ?_⟩
  cases f <;> exact h
theorem WS.out {st : ISs} {s : S} {N : S → Prop} {Q : Fl → S → Prop} (h : WS st s N Q) : ∃ f s1, evalSs st s = some (f, s1) ∧ flQ N Q f s1 := by
  obtain ⟨f, s1, e, h⟩ := h
  refine ⟨f, s1, e, ?_⟩
  cases f <;> exact h
structure WLc (elt : IE) (tg : Tr) (ifs : IEs) (items : List D) (s : S) (Q : List D → S → Prop) : Prop where
  ex : ∃ ds s1, lcRun (evalAll ifs) (evalE elt) tg items s = some (ds, s1) ∧ Q ds s1
structure WFor (items : List D) (tg : Tr) (body : ISs) (s : S) (N : S → Prop) (Q : Fl → S → Prop) : Prop where
  ex : ∃ f s2, fGo tg (evalSs body) items s = some (f, s2) ∧ flQ N Q f s2
structure WRet (f : Fl) (K : D → Bool → Prop) : Prop where
  ex : ∃ d fr, f = .ret d fr ∧ K d fr
theorem wret {d : D} {fr : Bool} {K : D → Bool → Prop} (h : K d fr) : WRet (.ret d fr) K := ⟨_, _, rfl, h⟩
def rfr (t : Tg) (s : S) : Bool := match t with | .fz => false | .fresh => true | .slot i => match rd s i with | some (_, true) => true | _ => false
section
variable {s : S} {N : S → Prop} {Q : Fl → S → Prop} {e c k elt : IE} {es ifs : IEs} {i j n : Nat} {tg : Tr} {src : Sr} {x y body : ISs} {st : IS}
theorem ws_nil (h : N s) : WS .nil s N Q := .of ss_nil h
theorem ws_cons {ss : ISs} (h : W1 st s (fun s1 => WS ss s1 N Q) Q) : WS (.cons st ss) s N Q := by
  obtain ⟨f, s1, e, h⟩ := h.out
  cases f with
  | nx =>
    obtain ⟨f2, s2, e2, h⟩ := WS.out (show WS ss s1 N Q from h)
    exact .of (ss_cons e e2) h
  | ret d fr => exact .of (ss_end e) h
  | brk => exact .of (f := .brk) (s1 := s1) (by rw [evalSs, e]; rfl) h
  | cont => exact .of (f := .cont) (s1 := s1) (by rw [evalSs, e]; rfl) h
theorem w1_set (h : WE e s fun d t s1 => decide (i < s1.sl.length) = true ∧ N ((s1.keep t).put i (d, t.own))) : W1 (.set i e) s N Q := by
  obtain ⟨d, t, s1, e1, z, h⟩ := h
  exact .of (st_set e1 z) h
theorem w1_setLc (h : WR src s fun items _ s1 => WLc elt tg ifs items s1 fun ds s2 => decide (i < s2.sl.length) = true ∧ N (s2.put i (.list ds, true))) : W1 (.setLc i elt tg src ifs) s N Q := by
  obtain ⟨items, t, s1, e1, ⟨ds, s2, e2, z, h⟩⟩ := h
  refine .of (f := .nx) ?_ h
  rw [evalS, e1]; show (lcRun (evalAll ifs) (evalE elt) tg items s1 >>= _) = _
  rw [e2]; show (if i < s2.sl.length then _ else _) = _
  rw [if_pos (of_decide_eq_true z)]
theorem w1_setT {is : List Nat} (h : WE e s fun d _ s1 => WT (.t is) s1 d N) : W1 (.setT is e) s N Q := by
  obtain ⟨d, t, s1, e1, ⟨sb, e2, h⟩⟩ := h
  exact .of (st_setT e1 e2) h
theorem w1_set2 {is : List Nat} (h : WL es s fun ds ts s1 => (decide (is.length = ds.length) && (is.all fun i => decide (i < s1.sl.length))) = true ∧ N ((s1.keeps ts).puts is (ds.zip ts))) : W1 (.set2 is es) s N Q := by
  obtain ⟨xs, s1, e1, z, h⟩ := h
  rw [Bool.and_eq_true, decide_eq_true_iff, List.length_map] at z
  rw [show (xs.map (·.1)).zip (xs.map (·.2)) = xs by rw [List.zip_map']; simp] at h
  exact .of (st_set2 e1 z) h
theorem w1_ins {d0 : D} {kx : IE} (h0 : rd s i = some (d0, true)) (h : WE kx s fun kd _ s0 => WE e s0 fun d t s1 => ∃ xs n, rd (s1.keep t) i = some (.list xs, true) ∧ kd = .int n ∧ (xs.length < sizeLine ∧ 0 ≤ n ∧ n < 2 ^ 63) ∧ N ((s1.keep t).put i (.list (xs.take n.toNat ++ [d] ++ xs.drop n.toNat), true))) : W1 (.ins i kx e) s N Q := by
  obtain ⟨kd, tk, s0, ek, ⟨d, t, s1, e1, xs, n, h1, rfl, h2, h⟩⟩ := h
  refine .of (f := .nx) ?_ h
  rw [evalS, h0]
  show (evalE kx s >>= _) = _
  rw [ek]
  show (evalE e s0 >>= _) = _
  rw [e1]
  show (match true, rd (s1.keep t) i, (PyData.int n) with
    | true, some (.list xs, true), .int n => if xs.length < sizeLine ∧ 0 ≤ n ∧ n < 2 ^ 63 then some (Fl.nx, (s1.keep t).put i (.list (xs.take n.toNat ++ [d] ++ xs.drop n.toNat), true)) else none
    | _, _, _ => none) = _
  rw [h1]
  show (if xs.length < sizeLine ∧ 0 ≤ n ∧ n < 2 ^ 63 then _ else _) = _
  rw [if_pos h2]
theorem w1_app {d0 : D} (h0 : rd s i = some (d0, true)) (h : WE e s fun d t s1 => ∃ xs, rd (s1.keep t) i = some (.list xs, true) ∧ xs.length < sizeLine ∧ N ((s1.keep t).put i (.list (xs ++ [d]), true))) : W1 (.app i e) s N Q := by
  obtain ⟨d, t, s1, e1, xs, h1, h2, h⟩ := h
  exact .of (st_app h0 e1 h1 h2) h
theorem w1_ext {d0 : D} (h0 : rd s i = some (d0, true)) (h : WE e s fun d t s1 => ∃ xs ys, d = .list ys ∧ rd (s1.keep t) i = some (.list xs, true) ∧ xs.length + ys.length ≤ sizeLine ∧ N ((s1.keep t).put i (.list (xs ++ ys), true))) : W1 (.ext i e) s N Q := by
  obtain ⟨d, t, s1, e1, xs, ys, rfl, h1, h2, h⟩ := h
  refine .of (f := .nx) ?_ h
  rw [evalS, h0]; show (evalE e s >>= _) = _
  rw [e1]
  show (match true, rd (s1.keep t) i, (PyData.list ys) with
    | true, some (.list xs, true), .list ys => if xs.length + ys.length ≤ sizeLine then some (Fl.nx, (s1.keep t).put i (.list (xs ++ ys), true)) else none
    | _, _, _ => none) = _
  rw [h1]; show (if xs.length + ys.length ≤ sizeLine then _ else _) = _
  rw [if_pos h2]
theorem w1_rev {xs : List D} (h0 : rd s i = some (.list xs, true)) (h : N (s.put i (.list xs.reverse, true))) : W1 (.rev i) s N Q := .of (f := .nx) (by rw [evalS, h0]) h
theorem w1_expr (h : WE e s fun _ _ s1 => N s1) : W1 (.expr e) s N Q := by
  obtain ⟨d, t, s1, e1, h⟩ := h
  exact .of (f := .nx) (by rw [evalS, e1]; rfl) h
theorem w1_ite (h : WB c s fun b s1 => (b = true → WS x s1 N Q) ∧ (b = false → WS y s1 N Q)) : W1 (.ite c x y) s N Q := by
  obtain ⟨b, s1, e1, hT, hF⟩ := h
  cases b with
  | true => obtain ⟨f, s2, e2, h⟩ := (hT rfl).out; exact .of (st_iteT e1 e2) h
  | false => obtain ⟨f, s2, e2, h⟩ := (hF rfl).out; exact .of (st_iteF e1 e2) h
theorem w1_iteT (h : WB c s fun b s1 => b = true ∧ WS x s1 N Q) : W1 (.ite c x y) s N Q := by
  obtain ⟨b, s1, e1, rfl, h⟩ := h
  exact w1_ite ⟨_, _, e1, fun _ => h, fun z => by cases z⟩
theorem w1_iteF (h : WB c s fun b s1 => b = false ∧ WS y s1 N Q) : W1 (.ite c x y) s N Q := by
  obtain ⟨b, s1, e1, rfl, h⟩ := h
  exact w1_ite ⟨_, _, e1, fun z => by (cases z), fun _ => h⟩
theorem wb_orT {Q : Bool → S → Prop} {e2 : IE} (h : WB e s fun k s1 => k = true ∧ Q true s1) : WB (.or (.cons e (.cons e2 es))) s Q := by
  obtain ⟨b, s1, e1, rfl, h⟩ := h
  exact wb_or ⟨_, _, e1, fun _ => h, fun z => by (cases z)⟩
theorem wb_orF {Q : Bool → S → Prop} {e2 : IE} (h : WB e s fun k s1 => k = false ∧ WB (.or (.cons e2 es)) s1 Q) : WB (.or (.cons e (.cons e2 es))) s Q := by
  obtain ⟨b, s1, e1, rfl, h⟩ := h
  exact wb_or ⟨_, _, e1, fun z => by (cases z), fun _ => h⟩
theorem wb_andT {Q : Bool → S → Prop} {e2 : IE} (h : WB e s fun k s1 => k = true ∧ WB (.and (.cons e2 es)) s1 Q) : WB (.and (.cons e (.cons e2 es))) s Q := by
  obtain ⟨b, s1, e1, rfl, h⟩ := h
  exact wb_and ⟨_, _, e1, fun _ => h, fun z => by (cases z)⟩
theorem wb_andF {Q : Bool → S → Prop} {e2 : IE} (h : WB e s fun k s1 => k = false ∧ Q false s1) : WB (.and (.cons e (.cons e2 es))) s Q := by
  obtain ⟨b, s1, e1, rfl, h⟩ := h
  exact wb_and ⟨_, _, e1, fun z => by (cases z), fun _ => h⟩
theorem w1_ret (h : WE e s fun d t s1 => Q (.ret d (rfr t s1)) s1) : W1 (.ret e) s N Q := by
  obtain ⟨d, t, s1, e1, h⟩ := h
  exact .of (f := .ret d (rfr t s1)) (by rw [evalS, e1]; rfl) h
theorem w1_retN (h : Q (.ret .none false) s) : W1 .retN s N Q := .of (f := .ret .none false) (by rw [evalS]) h
theorem w1_pass (h : N s) : W1 .pass s N Q := .of (f := .nx) (by rw [evalS]) h
theorem w1_brk (h : Q .brk s) : W1 .brk s N Q := .of (f := .brk) (by rw [evalS]) h
theorem w1_cont (h : Q .cont s) : W1 .cont s N Q := .of (f := .cont) (by rw [evalS]) h
theorem fGo_w (P : Nat → S → Prop) : ∀ (items : List D) (j : Nat) (s : S), P j s →
    (∀ i x s, items[i]? = some x → P (j + i) s → WT tg s x fun sb => WS body sb (P (j + i + 1)) (loopQ (P (j + i + 1)) N Q)) → (∀ s, P (j + items.length) s → N s) → ∃ f s2, fGo tg (evalSs body) items s = some (f, s2) ∧ flQ N Q f s2
  | [], j, s, h, _, fin => ⟨.nx, s, by rw [fGo], fin s h⟩
  | z :: zs, j, s, h, step, fin => by
    obtain ⟨sb, e1, h1⟩ := step 0 z s rfl h
    obtain ⟨f, s', e2, h1⟩ := h1.out
    have go : P (j + 1) s' → ∃ f s2, fGo tg (evalSs body) zs s' = some (f, s2) ∧ flQ N Q f s2 := fun hp =>
      fGo_w P zs (j + 1) s' hp (fun i y s hy hp => by
        have q := step (i + 1) y s hy (by rw [show j + (i + 1) = j + 1 + i by omega]; exact hp)
        rw [show j + (i + 1) + 1 = j + 1 + i + 1 by omega] at q
        exact q) (fun s hp => fin s (by rw [List.length_cons, show j + (zs.length + 1) = j + 1 + zs.length by omega]; exact hp))
    rw [fGo, e1]
    show ∃ f s2, (evalSs body sb >>= _) = _ ∧ _
    rw [e2]
    cases f with
    | nx => exact go h1
    | cont => exact go h1
    | brk => exact ⟨.nx, s', rfl, h1⟩
    | ret d fr => exact ⟨.ret d fr, s', rfl, h1⟩
theorem w1_for (h : WR src s fun items t s1 => WFor items tg body (s1.keep t) N Q) : W1 (.for tg src body) s N Q := by
  obtain ⟨items, t, s1, e1, ⟨f, s2, e2, h⟩⟩ := h
  refine .of ?_ h
  rw [evalS, e1]; exact e2
theorem wfor {items : List D} (P : Nat → S → Prop) (h0 : P 0 s) (step : ∀ i x s, items[i]? = some x → P i s → WT tg s x fun sb => WS body sb (P (i + 1)) (loopQ (P (i + 1)) N Q)) (fin : ∀ s, P items.length s → N s) : WFor items tg body s N Q :=
  ⟨fGo_w (N := N) (Q := Q) P items 0 s h0 (fun i x s hx hp => by
    have q := step i x s hx (by simpa using hp)
    simpa using q) (fun s hp => fin s (by simpa using hp))⟩
end
section
variable {s : S} {e elt : IE} {ifs : IEs} {tg : Tr} {src : Sr}
theorem w_lc {Q : D → Tg → S → Prop} (h : WR src s fun items _ s1 => WLc elt tg ifs items s1 fun ds s2 => Q (.list ds) .fresh s2) : WE (.lc elt tg src ifs) s Q := by
  obtain ⟨items, t, s1, e1, ⟨ds, s2, e2, h⟩⟩ := h
  refine ⟨_, _, _, ?_, h⟩
  rw [evalE, e1]; show (lcRun (evalAll ifs) (evalE elt) tg items s1 >>= _) = _
  rw [e2]; rfl
theorem wlc_inv {items : List D} {Q : List D → S → Prop} (P : Nat → List D → S → Prop) (un : s.unowned tg.slots = true) (hl : items.length ≤ sizeLine) (h0 : P 0 [] (s.wipe tg.slots))
    (step : ∀ i x acc s, items[i]? = some x → P i acc s → WT tg s x fun sb => WAl ifs sb fun b s1 => (b = true → WE elt s1 fun d t s2 => P (i + 1) (acc ++ [d]) ((s2.keep t).wipe tg.slots)) ∧ (b = false → P (i + 1) acc (s1.wipe tg.slots)))
    (fin : ∀ ds s', P items.length ds s' → Q ds (s'.restore s tg.slots)) : WLc elt tg ifs items s Q := by
  obtain ⟨ds, s2, e, h⟩ := lcGo_by (fi := evalAll ifs) (fe := evalE elt) (tg := tg) P items 0 [] (s.wipe tg.slots) h0 fun i x acc s hx hp => by
    obtain ⟨sb, e1, ⟨b, s1, e2, hT, hF⟩⟩ := step i x acc s hx (by simpa using hp)
    refine ⟨sb, b, s1, e1, e2, fun z => by simpa using hF z, fun z => ?_⟩
    obtain ⟨d, t, sd, e3, q⟩ := hT z
    exact ⟨d, t, sd, e3, by simpa using q⟩
  refine ⟨ds, _, ?_, fin ds s2 (by simpa using h)⟩
  unfold lcRun
  rw [if_pos ⟨un, hl⟩, e]; rfl
/-- nothing is drawn: a filter and a map -/
theorem wlc_map {α : Type} {xs : List α} {g : α → D} {p : α → Bool} {f : α → D} {items : List D} {Q : List D → S → Prop} (he : items = xs.map g) (un : s.unowned tg.slots = true) (hl : xs.length ≤ sizeLine)
    (step : ∀ x, x ∈ xs → WT tg (s.wipe tg.slots) (g x) fun sb => WAl ifs sb fun b s1 => b = p x ∧ (b = true → WE elt s1 fun d t s2 => d = f x ∧ (s2.keep t).wipe tg.slots = s.wipe tg.slots) ∧ (b = false → s1.wipe tg.slots = s.wipe tg.slots))
    (res : (s.wipe tg.slots).restore s tg.slots = s) (q : Q ((xs.filter p).map f) s) : WLc elt tg ifs items s Q := by
  subst he
  refine wlc_inv (fun i acc s' => acc = ((xs.take i).filter p).map f ∧ s' = s.wipe tg.slots) un (by simpa using hl) ⟨by simp, rfl⟩ ?_ ?_
  · rintro i x acc s' hx ⟨rfl, rfl⟩
    rw [List.getElem?_map] at hx
    obtain ⟨y, hy, rfl⟩ := Option.map_eq_some_iff.mp hx
    obtain ⟨hlt, hy'⟩ := List.getElem?_eq_some_iff.mp hy
    obtain ⟨sb, e1, ⟨b, s1, e2, hb, hT, hF⟩⟩ := step y (List.mem_of_getElem? hy)
    have ht : xs.take (i + 1) = xs.take i ++ [y] := by rw [List.take_add_one, hy]; rfl
    refine ⟨sb, e1, ⟨b, s1, e2, fun z => ?_, fun z => ?_⟩⟩
    · obtain ⟨d, t, s2, e3, rfl, e4⟩ := hT z
      refine ⟨_, t, s2, e3, ?_, e4⟩
      rw [ht, List.filter_append, List.map_append, List.filter_cons_of_pos (by rw [← hb, z])]; rfl
    · refine ⟨?_, hF z⟩
      rw [ht, List.filter_append, List.map_append, List.filter_cons_of_neg (by rw [← hb, z]; decide)]; simp
  · rintro ds s' ⟨rfl, rfl⟩
    rw [List.length_map, List.take_length, res]; exact q
theorem wlc_all {α : Type} {xs : List α} {g : α → D} {f : α → D} {items : List D} {Q : List D → S → Prop} (he : items = xs.map g) (un : s.unowned tg.slots = true) (hl : xs.length ≤ sizeLine)
    (step : ∀ x, x ∈ xs → WT tg (s.wipe tg.slots) (g x) fun sb => WE elt sb fun d t s2 => d = f x ∧ (s2.keep t).wipe tg.slots = s.wipe tg.slots)
    (res : (s.wipe tg.slots).restore s tg.slots = s) (q : Q (xs.map f) s) : WLc elt tg .nil items s Q := by
  refine wlc_map (p := fun _ => true) (f := f) he un hl (fun x hx => ?_) res (by rw [List.filter_eq_self.mpr (fun _ _ => rfl)]; exact q)
  obtain ⟨sb, e1, h⟩ := step x hx
  exact ⟨sb, e1, wal_nil ⟨rfl, fun _ => h, fun z => by cases z⟩⟩
end
theorem it_id {xs : List D} : xs = xs.map fun x => x := (List.map_id' _).symm
theorem it_zip {xs ys : List D} : List.zipWith (fun u v => PyData.tuple [u, v]) xs ys = (xs.zip ys).map fun p => .tuple [p.1, p.2] := by
  rw [List.zip, List.map_zipWith]
theorem it_enum {α : Type} {xs : List α} {g : α → D} : (xs.map g).zipIdx.map (fun p => PyData.tuple [.int (p.2 : Nat), p.1]) = xs.zipIdx.map fun p => .tuple [.int (p.2 : Nat), g p.1] := by
  rw [List.zipIdx_map, List.map_map]; rfl
theorem f_allM {α : Type} {xs : List α} {p : α → Bool} {Q : D → Tg → Prop} (h : Q (.bool (xs.all p)) .fz) : WF .all [.list (xs.map fun x => .bool (p x))] Q :=
  ⟨(.bool (xs.all p), false), by
    show (boolsOf _).map _ = _
    rw [show (xs.map fun x => PyData.bool (p x)) = (xs.map p).map .bool by rw [List.map_map]; rfl, boolsOf_map]
    show some (PyData.bool ((xs.map p).all id), false) = _
    rw [List.all_map]; rfl, h⟩
theorem f_rev1T {xs : List D} {Q : D → Tg → Prop} (h : Q (.tuple xs.reverse) .fz) : WF .rev1 [.tuple xs] Q := ⟨_, rfl, h⟩
theorem f_rev1L {xs : List D} {Q : D → Tg → Prop} (h : Q (.list xs.reverse) .fresh) : WF .rev1 [.list xs] Q := ⟨_, rfl, h⟩
theorem nodict {kv : List (D × D)} (g : good 60 (.dict kv) = true) : False := by simp [good] at g
theorem wi_atT {xs : List D} {k : Int} {d : D} {Q : D → Prop} (z : decide (0 ≤ k) = true) (e : xs[k.toNat]? = some d) (h : Q d) : WI (.tuple xs) (.int k) Q := ⟨d, atI_in (of_decide_eq_true z) e, h⟩
theorem wi_atL {xs : List D} {k : Int} {d : D} {Q : D → Prop} (z : decide (0 ≤ k) = true) (e : xs[k.toNat]? = some d) (h : Q d) : WI (.list xs) (.int k) Q := ⟨d, atI_in (of_decide_eq_true z) e, h⟩
theorem wt_t2 {i j : Nat} {s : S} {x y : D} {Q : S → Prop} (z : (decide (i < s.sl.length) && decide (j < s.sl.length)) = true) (h : Q ((s.put i (x, false)).put j (y, false))) : WT (.t [i, j]) s (.tuple [x, y]) Q := by
  simp only [Bool.and_eq_true, decide_eq_true_eq] at z
  exact ⟨_, if_pos ⟨rfl, by simp [z]⟩, h⟩
theorem wt_t3 {i j k : Nat} {s : S} {x y w : D} {Q : S → Prop} (z : (decide (i < s.sl.length) && decide (j < s.sl.length) && decide (k < s.sl.length)) = true) (h : Q (((s.put i (x, false)).put j (y, false)).put k (w, false))) : WT (.t [i, j, k]) s (.tuple [x, y, w]) Q := by
  simp only [Bool.and_eq_true, decide_eq_true_eq] at z
  exact ⟨_, if_pos ⟨rfl, by simp [z]⟩, h⟩
theorem wt_t4 {i j k l : Nat} {s : S} {x y w u : D} {Q : S → Prop} (z : (decide (i < s.sl.length) && decide (j < s.sl.length) && decide (k < s.sl.length) && decide (l < s.sl.length)) = true) (h : Q ((((s.put i (x, false)).put j (y, false)).put k (w, false)).put l (u, false))) : WT (.t [i, j, k, l]) s (.tuple [x, y, w, u]) Q := by
  simp only [Bool.and_eq_true, decide_eq_true_eq] at z
  exact ⟨_, if_pos ⟨rfl, by simp [z]⟩, h⟩
theorem wt_t5 {i j k l m : Nat} {s : S} {x y w u v : D} {Q : S → Prop} (z : (decide (i < s.sl.length) && decide (j < s.sl.length) && decide (k < s.sl.length) && decide (l < s.sl.length) && decide (m < s.sl.length)) = true) (h : Q (((((s.put i (x, false)).put j (y, false)).put k (w, false)).put l (u, false)).put m (v, false))) : WT (.t [i, j, k, l, m]) s (.tuple [x, y, w, u, v]) Q := by
  simp only [Bool.and_eq_true, decide_eq_true_eq] at z
  exact ⟨_, if_pos ⟨rfl, by simp [z]⟩, h⟩
/-- no dict within, not too deep, no long lists -/
def okLen (xs : List D) : Bool := decide (xs.length ≤ 1000000)
mutual
def tame : Nat → D → Bool
  | _, .none => true
  | _, .bool _ => true
  | _, .int _ => true
  | _, .str x => PyData.strOk x
  | n + 1, .list xs => okLen xs && tames n xs
  | n + 1, .tuple xs => okLen xs && tames n xs
  | _, _ => false
def tames : Nat → List D → Bool
  | _, [] => true
  | n, x :: xs => tame n x && tames n xs
end
theorem tame_good : ∀ n : Nat, (∀ d : D, tame n d = true → good n d = true) ∧ ∀ ds : List D, tames n ds = true → goods n ds = true := by
  intro n
  induction n with
  | zero =>
    have h1 : ∀ d : D, tame 0 d = true → good 0 d = true := fun d => by cases d <;> simp [good, tame]
    refine ⟨h1, fun ds => ?_⟩
    induction ds with
    | nil => simp [goods]
    | cons d ds ih => rw [tames, goods, Bool.and_eq_true, Bool.and_eq_true]; exact fun z => ⟨h1 d z.1, ih z.2⟩
  | succ n ih =>
    have h1 : ∀ d : D, tame (n + 1) d = true → good (n + 1) d = true := fun d => by
      cases d with
      | list xs => rw [good, tame, Bool.and_eq_true]; exact fun z => ih.2 xs z.2
      | tuple xs => rw [good, tame, Bool.and_eq_true]; exact fun z => ih.2 xs z.2
      | _ => simp [good, tame]
    refine ⟨h1, fun ds => ?_⟩
    induction ds with
    | nil => simp [goods]
    | cons d ds ih => rw [tames, goods, Bool.and_eq_true, Bool.and_eq_true]; exact fun z => ⟨h1 d z.1, ih z.2⟩
theorem tame_up : ∀ n : Nat, (∀ d : D, tame n d = true → tame (n + 1) d = true) ∧ ∀ ds : List D, tames n ds = true → tames (n + 1) ds = true := by
  intro n
  induction n with
  | zero =>
    have h1 : ∀ d : D, tame 0 d = true → tame 1 d = true := fun d => by cases d <;> simp [tame]
    refine ⟨h1, fun ds => ?_⟩
    induction ds with
    | nil => simp [tames]
    | cons d ds ih => rw [tames, tames, Bool.and_eq_true, Bool.and_eq_true]; exact fun z => ⟨h1 d z.1, ih z.2⟩
  | succ n ih =>
    have h1 : ∀ d : D, tame (n + 1) d = true → tame (n + 2) d = true := fun d => by
      cases d with
      | list xs => rw [tame, tame, Bool.and_eq_true, Bool.and_eq_true]; exact fun z => ⟨z.1, ih.2 xs z.2⟩
      | tuple xs => rw [tame, tame, Bool.and_eq_true, Bool.and_eq_true]; exact fun z => ⟨z.1, ih.2 xs z.2⟩
      | _ => simp [tame]
    refine ⟨h1, fun ds => ?_⟩
    induction ds with
    | nil => simp [tames]
    | cons d ds ih => rw [tames, tames, Bool.and_eq_true, Bool.and_eq_true]; exact fun z => ⟨h1 d z.1, ih z.2⟩
theorem tame_le {n m : Nat} (h : n ≤ m) {d : D} (z : tame n d = true) : tame m d = true := by
  induction h with
  | refl => exact z
  | step _ ih => exact (tame_up _).1 d ih
theorem tames_mem {n : Nat} {x : D} : ∀ {xs : List D}, tames n xs = true → x ∈ xs → tame n x = true
  | y :: ys, h, m => by
    rw [tames, Bool.and_eq_true] at h
    rcases List.mem_cons.mp m with rfl | m
    · exact h.1
    · exact tames_mem h.2 m
theorem tames_of {n : Nat} : ∀ {xs : List D}, (∀ x ∈ xs, tame n x = true) → tames n xs = true
  | [], _ => by rw [tames]
  | y :: ys, h => by rw [tames, h y (List.mem_cons_self ..), tames_of fun x m => h x (List.mem_cons_of_mem _ m)]; rfl
/-- fit for the looks: tame to a depth of 60 -/
structure Tm (d : D) : Prop where
  is : tame 60 d = true
theorem Tm.gd {d : D} (h : Tm d) : good 60 d = true := (tame_good 60).1 d h.is
theorem Tm.tup {vs : List D} {x : D} (g : Tm (.tuple vs)) (m : x ∈ vs) : Tm x := by
  have := g.is
  rw [tame, Bool.and_eq_true] at this
  exact ⟨(tame_up 59).1 x (tames_mem this.2 m)⟩
theorem Tm.lst {vs : List D} {x : D} (g : Tm (.list vs)) (m : x ∈ vs) : Tm x := by
  have := g.is
  rw [tame, Bool.and_eq_true] at this
  exact ⟨(tame_up 59).1 x (tames_mem this.2 m)⟩
theorem Tm.lenT {vs : List D} (g : Tm (.tuple vs)) : vs.length ≤ 1000000 := by
  have := g.is
  rw [tame, Bool.and_eq_true] at this
  exact of_decide_eq_true this.1
theorem Tm.nodict {kv : List (D × D)} (g : Tm (.dict kv)) : False := by have := g.is; simp [tame] at this
theorem Tm.int {i : Int} : Tm (.int i) := ⟨by simp [tame]⟩
theorem Tm.none : Tm .none := ⟨by simp [tame]⟩
theorem Tm.bool {b : Bool} : Tm (.bool b) := ⟨by simp [tame]⟩
theorem lenOk {n : Nat} (h : n ≤ 1000000) : n ≤ sizeLine := by rw [sizeL]; omega
theorem w_run {m : Nat} {ir : ISs} {ds : List D} {pn : Option Pn} {Q : D → Bool → Option Pn → Prop} (h : WS ir (start m ds pn) (fun s => Q .none false s.pn) (fun f s => WRet f fun d fr => Q d fr s.pn)) : WC (runF m ir) ds pn Q := by
  obtain ⟨f, s1, e, h⟩ := h.out
  unfold runF
  cases f with
  | nx => exact ⟨_, _, _, by rw [e]; rfl, h⟩
  | ret d fr =>
    obtain ⟨d', fr', z, h⟩ := h
    cases z
    exact ⟨_, _, _, by rw [e]; rfl, h⟩
  | brk => obtain ⟨d', fr', z, h⟩ := h; cases z
  | cont => obtain ⟨d', fr', z, h⟩ := h; cases z
theorem WC.mono {F : Fn} {ds : List D} {pn : Option Pn} {Q R : D → Bool → Option Pn → Prop} (h : WC F ds pn Q) (z : ∀ d fr p, Q d fr p → R d fr p) : WC F ds pn R := by
  obtain ⟨d, fr, p, e, h⟩ := h
  exact ⟨d, fr, p, e, z _ _ _ h⟩
theorem WC.eq {F : Fn} {ds : List D} {pn p1 : Option Pn} {d : D} {fr : Bool} (h : WC F ds pn fun d' fr' p' => d' = d ∧ fr' = fr ∧ p' = p1) : F ds pn = some ((d, fr), p1) := by
  obtain ⟨d, fr, p, e, rfl, rfl, rfl⟩ := h
  exact e
theorem take_n {n : Int} {p : Pn} (h : 0 < n ∧ n < 1073741824) (ha : 0 ≤ p.a ∧ p.a < 1073741824) : ∃ r p', takeF n p = some (r, p') ∧ 0 ≤ r ∧ r < n ∧ p.a ≤ p'.a ∧ p'.a ≤ p.a + 1 := by
  have c : 0 < n ∧ n < 1073741824 ∧ 0 ≤ p.a ∧ p.a < 1073741824 := ⟨h.1, h.2, ha.1, ha.2⟩
  by_cases hr : p.r < n
  · refine ⟨spreadF (cellF p) p.a % n, ⟨p.cells, p.a + 1, spreadF (cellF p) p.a / n⟩, ?_, Int.emod_nonneg _ (by omega), Int.emod_lt_of_pos _ h.1, by show p.a ≤ p.a + 1; omega, by show p.a + 1 ≤ p.a + 1; omega⟩
    unfold takeF
    rw [if_pos c, if_pos hr]
  · refine ⟨p.r % n, ⟨p.cells, p.a, p.r / n⟩, ?_, Int.emod_nonneg _ (by omega), Int.emod_lt_of_pos _ h.1, by show p.a ≤ p.a; omega, by show p.a ≤ p.a + 1; omega⟩
    unfold takeF
    rw [if_pos c, if_neg hr]
theorem c_take {n : Int} {p : Pn} {Q : D → Bool → Option Pn → Prop} (h : 0 < n ∧ n < 1073741824) (ha : 0 ≤ p.a ∧ p.a < 1073741824) (k : ∀ r p', 0 ≤ r → r < n → p.a ≤ p'.a → p'.a ≤ p.a + 1 → Q (.int r) false (some p')) : WC FTake [.dict [], .int n] (some p) Q := by
  obtain ⟨r, p', e, h1, h2, h3, h4⟩ := take_n h ha
  refine ⟨.int r, false, some p', ?_, k r p' h1 h2 h3 h4⟩
  show (takeF n p).map _ = _
  rw [e]; rfl
theorem o_one {y : D} {ys : List D} {p : Pn} {Q : D → Option Pn → Prop} (hy : itemsD y = some ys) (h : 0 < ys.length ∧ ys.length < 1073741824) (ha : 0 ≤ p.a ∧ p.a < 1073741824) (k : ∀ d p', d ∈ ys → p.a ≤ p'.a → p'.a ≤ p.a + 1 → Q d (some p')) : W1n (.dict []) y (some p) Q := by
  obtain ⟨r, p', e, h1, h2, h3, h4⟩ := take_n (n := ys.length) (p := p) (by omega) ha
  have hr : r.toNat < ys.length := by omega
  refine ⟨ys[r.toNat], some p', ?_, k _ p' (List.getElem_mem hr) h3 h4⟩
  show (itemsD y).bind _ = _
  rw [hy]
  show (takeF ys.length p).bind _ = _
  rw [e]
  show (ys[r.toNat]?).map _ = _
  rw [List.getElem?_eq_getElem hr]; rfl
end Fs

set_option Elab.async false
set_option linter.all false
set_option maxRecDepth 100000
set_option maxHeartbeats 8000000
namespace Fs
open PySem L2
theorem gateE {e : IE} {s : S} {Q : D → Tg → S → Prop} (h : WE e s Q) : WE e s Q := h
theorem gate1 {t : IS} {s : S} {N : S → Prop} {Q : Fl → S → Prop} (h : W1 t s N Q) : W1 t s N Q := h
theorem gateK {o : CmpOp} {x y : D} {Q : Bool → Prop} (h : WK o x y Q) : WK o x y Q := h
theorem gateF {f : Bf} {xs : List D} {Q : D → Tg → Prop} (h : WF f xs Q) : WF f xs Q := h
theorem gateB {e : IE} {s : S} {Q : Bool → S → Prop} (h : WB e s Q) : WB e s Q := h
theorem gateT {t : Tr} {s : S} {x : D} {Q : S → Prop} (h : WT t s x Q) : WT t s x Q := h
theorem gateR {r : Sr} {s : S} {Q : List D → Tg → S → Prop} (h : WR r s Q) : WR r s Q := h
theorem gateI {x y : D} {Q : D → Prop} (h : WI x y Q) : WI x y Q := h
theorem gateSl {x : D} {l m : Option D} {Q : D → Tg → Prop} (h : WSl x l m Q) : WSl x l m Q := h
end Fs
namespace K1
open PySem L2 Fs
def ir_is_integer : ISs := (.cons (.ret (.and (.cons (.isi (.var 0) .int) (.cons (.not (.isi (.var 0) .bool)) .nil))))
  .nil)
def F_is_integer : Fn := runF 1 ir_is_integer
def ir_is_between : ISs := (.cons (.ret (.and (.cons (.call "is_integer" F_is_integer (.cons (.var 0) .nil)) (.cons (.cmp2 .LtE .LtE (.var 1) (.var 0) (.var 2)) .nil))))
  .nil)
def F_is_between : Fn := runF 3 ir_is_between
def ir_is_digits : ISs := (.cons (.ite (.or (.cons (.not (.isi (.var 0) .tuple)) (.cons (.not (.blt .all (.cons (.lc (.call "is_between" F_is_between (.cons (.var 1) (.cons (.int 0) (.cons (.int 9) .nil)))) (.v 1) (.seq (.var 0)) .nil) .nil))) .nil)))
  (.cons (.ret (.bool false))
  .nil)
  .nil)
  (.cons (.ret (.blt .all (.cons (.lc (.cmp .Lt (.var 2) (.var 3)) (.t [2, 3]) (.zip (.var 0) (.sl (.var 0) (.some (.int 1)) .none)) .nil) .nil)))
  .nil))
def F_is_digits : Fn := runF 4 ir_is_digits
def ir_is_time : ISs := (.cons (.ret (.call "is_between" F_is_between (.cons (.var 0) (.cons (.int 0) (.cons (.glob "LAST_TIME" (.int 1000)) .nil)))))
  .nil)
def F_is_time : Fn := runF 1 ir_is_time
def ir_is_step : ISs := (.cons (.ite (.or (.cons (.not (.isi (.var 0) .tuple)) (.cons (.cmp .NotEq (.blt .len (.cons (.var 0) .nil)) (.int 2)) .nil)))
  (.cons (.ret (.bool false))
  .nil)
  .nil)
  (.cons (.ret (.and (.cons (.call "is_time" F_is_time (.cons (.ix (.var 0) (.int 0)) .nil)) (.cons (.call "is_between" F_is_between (.cons (.ix (.var 0) (.int 1)) (.cons (.int 0) (.cons (.glob "MOST_SEATS" (.int 20)) .nil)))) .nil))))
  .nil))
def F_is_step : Fn := runF 1 ir_is_step
def ir_is_steps : ISs := (.cons (.ite (.or (.cons (.not (.isi (.var 0) .tuple)) (.cons (.not (.cmp2 .LtE .LtE (.int 1) (.blt .len (.cons (.var 0) .nil)) (.glob "MOST_STEPS" (.int 4)))) .nil)))
  (.cons (.ret (.bool false))
  .nil)
  .nil)
  (.cons (.ite (.or (.cons (.not (.blt .all (.cons (.lc (.call "is_step" F_is_step (.cons (.var 1) .nil)) (.v 1) (.seq (.var 0)) .nil) .nil))) (.cons (.cmp .NotEq (.ix (.ix (.var 0) (.int 0)) (.int 0)) (.int 0)) .nil)))
  (.cons (.ret (.bool false))
  .nil)
  .nil)
  (.cons (.ret (.blt .all (.cons (.lc (.cmp .Lt (.ix (.var 2) (.int 0)) (.ix (.var 3) (.int 0))) (.t [2, 3]) (.zip (.var 0) (.sl (.var 0) (.some (.int 1)) .none)) .nil) .nil)))
  .nil)))
def F_is_steps : Fn := runF 4 ir_is_steps
def ir_is_kind : ISs := (.cons (.ite (.or (.cons (.not (.isi (.var 0) .tuple)) (.cons (.cmp .NotEq (.blt .len (.cons (.var 0) .nil)) (.int 3)) .nil)))
  (.cons (.ret (.bool false))
  .nil)
  .nil)
  (.cons (.ret (.and (.cons (.call "is_digits" F_is_digits (.cons (.ix (.var 0) (.int 0)) .nil)) (.cons (.cmp .NotEq (.ix (.var 0) (.int 0)) (.tup .nil)) (.cons (.call "is_digits" F_is_digits (.cons (.ix (.var 0) (.int 1)) .nil)) (.cons (.call "is_steps" F_is_steps (.cons (.ix (.var 0) (.int 2)) .nil)) .nil))))))
  .nil))
def F_is_kind : Fn := runF 1 ir_is_kind
def ir_is_pool : ISs := (.cons (.ite (.or (.cons (.not (.isi (.var 0) .tuple)) (.cons (.not (.cmp2 .LtE .LtE (.int 1) (.blt .len (.cons (.var 0) .nil)) (.glob "MOST_KINDS" (.int 6)))) .nil)))
  (.cons (.ret (.bool false))
  .nil)
  .nil)
  (.cons (.ret (.blt .all (.cons (.lc (.call "is_kind" F_is_kind (.cons (.var 1) .nil)) (.v 1) (.seq (.var 0)) .nil) .nil)))
  .nil))
def F_is_pool : Fn := runF 2 ir_is_pool
def ir_require_pool : ISs := (.cons (.ite (.not (.call "is_pool" F_is_pool (.cons (.var 0) .nil)))
  (.cons .never
  .nil)
  .nil)
  .nil)
def F_require_pool : Fn := runF 1 ir_require_pool
def ir_serves : ISs := (.cons (.ret (.and (.cons (.cmp .In (.var 2) (.ix (.var 0) (.int 0))) (.cons (.or (.cons (.cmp .Eq (.ix (.var 0) (.int 1)) (.tup .nil)) (.cons (.cmp .In (.var 1) (.ix (.var 0) (.int 1))) .nil))) .nil))))
  .nil)
def F_serves : Fn := runF 3 ir_serves
def ir_is_claim_of : ISs := (.cons (.ite (.or (.cons (.not (.isi (.var 1) .tuple)) (.cons (.cmp .NotEq (.blt .len (.cons (.var 1) .nil)) (.int 5)) .nil)))
  (.cons (.ret (.bool false))
  .nil)
  .nil)
  (.cons (.setT [2, 3, 4, 5, 6] (.var 1))
  (.cons (.ite (.or (.cons (.not (.call "is_between" F_is_between (.cons (.var 2) (.cons (.int 0) (.cons (.int 9) .nil))))) (.cons (.not (.call "is_between" F_is_between (.cons (.var 3) (.cons (.int 0) (.cons (.int 9) .nil))))) .nil)))
  (.cons (.ret (.bool false))
  .nil)
  .nil)
  (.cons (.ite (.or (.cons (.not (.call "is_time" F_is_time (.cons (.var 4) .nil))) (.cons (.not (.call "is_time" F_is_time (.cons (.var 5) .nil))) (.cons (.cmp .GtE (.var 4) (.var 5)) .nil))))
  (.cons (.ret (.bool false))
  .nil)
  .nil)
  (.cons (.ret (.or (.cons (.isN (.var 6)) (.cons (.and (.cons (.call "is_between" F_is_between (.cons (.var 6) (.cons (.int 0) (.cons (.bin .Sub (.blt .len (.cons (.var 0) .nil)) (.int 1)) .nil)))) (.cons (.call "serves" F_serves (.cons (.ix (.var 0) (.var 6)) (.cons (.var 2) (.cons (.var 3) .nil)))) .nil))) .nil))))
  .nil)))))
def F_is_claim_of : Fn := runF 7 ir_is_claim_of
def ir_are_claims : ISs := (.cons (.ite (.or (.cons (.not (.isi (.var 1) .tuple)) (.cons (.cmp .Gt (.blt .len (.cons (.var 1) .nil)) (.var 2)) .nil)))
  (.cons (.ret (.bool false))
  .nil)
  .nil)
  (.cons (.ret (.blt .all (.cons (.lc (.call "is_claim_of" F_is_claim_of (.cons (.var 0) (.cons (.var 3) .nil))) (.v 3) (.seq (.var 1)) .nil) .nil)))
  .nil))
def F_are_claims : Fn := runF 4 ir_are_claims
def ir_require_claims : ISs := (.cons (.expr (.call "require_pool" F_require_pool (.cons (.var 0) .nil)))
  (.cons (.ite (.not (.call "are_claims" F_are_claims (.cons (.var 0) (.cons (.var 1) (.cons (.glob "MOST_CLAIMS" (.int 12)) .nil)))))
  (.cons .never
  .nil)
  .nil)
  .nil))
def F_require_claims : Fn := runF 2 ir_require_claims
def ir_require_time : ISs := (.cons (.ite (.not (.call "is_time" F_is_time (.cons (.var 0) .nil)))
  (.cons .never
  .nil)
  .nil)
  .nil)
def F_require_time : Fn := runF 1 ir_require_time
def ir_is_active : ISs := (.cons (.ret (.cmp2 .LtE .Lt (.ix (.var 0) (.int 2)) (.var 1) (.ix (.var 0) (.int 3))))
  .nil)
def F_is_active : Fn := runF 2 ir_is_active
def ir_find_active : ISs := (.cons (.ret (.lc (.var 2) (.t [2, 3]) (.enum (.var 0)) (.cons (.call "is_active" F_is_active (.cons (.var 3) (.cons (.var 1) .nil))) .nil)))
  .nil)
def F_find_active : Fn := runF 4 ir_find_active
local macro_rules
  | `(tactic| fail) => `(tactic| first
    | (refine' gateE ?_; first | refine' w_var rfl ?_ | refine' w_own rfl ?_ | refine' w_int ?_ | refine' w_bool ?_ | refine' w_non ?_ | refine' w_str ?_ | refine' w_glob ?_ | refine' w_call ?_ | refine' w_ix ?_ | refine' w_cmp ?_ | refine' w_bin ?_ | refine' w_one ?_ | refine' w_blt ?_ | refine' w_isi ?_ | refine' w_not ?_ | refine' w_isN ?_ | refine' w_notN ?_ | refine' w_tup ?_ | refine' w_lst ?_ | refine' w_and ?_ | refine' w_or ?_ | refine' w_sl ?_ | refine' w_lc ?_ | refine' w_neg ?_ | refine' w_cmp2P ?_ ?_)
    | refine' wl_nil ?_
    | refine' wl_cons ?_
    | (refine' gate1 ?_; first | refine' w1_set ?_ | refine' w1_ret ?_ | refine' w1_setT ?_ | refine' w1_set2 ?_ | refine' w1_app rfl ?_ | refine' w1_ins rfl ?_ | refine' w1_expr ?_ | refine' w1_rev rfl ?_ | refine' w1_ext rfl ?_ | refine' w1_setLc ?_ | refine' w1_for ?_ | refine' w1_retN ?_ | refine' w1_cont ?_ | refine' w1_brk ?_ | refine' w1_pass ?_)
    | refine' ws_nil ?_
    | refine' ws_cons ?_
    | (refine' gateB ?_; first | refine' wb_and1 ?_ | refine' wb_or1 ?_ | refine' wb_andP ?_ (fun _ => ?_) ?_ | refine' wb_orP ?_ (fun _ => ?_) ?_ | refine' wb_of ?_)
    | refine' wv ?_
    | (refine' gateK ?_; first | refine' k_lt ?_ | refine' k_le ?_ | refine' k_gt ?_ | refine' k_ge ?_ | refine' k_eqI ?_ | refine' k_neI ?_ | refine' k_inT ?_ | refine' k_inL ?_ | refine' k_ninT ?_ | refine' k_ninL ?_)
    | (refine' gateF ?_; first | refine' f_lenL ?_ | refine' f_lenT ?_ | refine' f_int ?_ | refine' f_tupL ?_ | refine' f_tupT ?_ | refine' f_listL ?_ | refine' f_listT ?_ | refine' f_max2 ?_ | refine' f_rev1T ?_ | refine' f_rev1L ?_ | refine' f_min2 ?_)
    | (refine' gateI ?_; first | refine' wi rfl ?_ | refine' wi_atT rfl rfl ?_ | refine' wi_atL rfl rfl ?_)
    | (refine' gateT ?_; first | refine' wt_v rfl ?_ | refine' wt_t2 rfl ?_ | refine' wt_t3 rfl ?_ | refine' wt_t4 rfl ?_ | refine' wt_t5 rfl ?_ | refine' wt rfl ?_)
    | (refine' gateR ?_; first | refine' wr_seq ?_ | refine' wr_enum ?_ | refine' wr_zip ?_ | refine' wr_rng ?_ | refine' wr_rng2 ?_)
    | (refine' gateSl ?_; first | refine' slF_T rfl ?_ | refine' slT_T rfl ?_ | refine' slF_L rfl ?_ | refine' slT_L rfl ?_)
    | refine' wo_none ?_
    | refine' wo_some ?_
    | refine' wal_nil ?_
    | refine' wal_one ?_
    | refine' d_add ?_
    | refine' d_sub ?_
    | refine' z_TT ?_
    | refine' z_LL ?_
    | refine' wret ?_
    | exact rfl
    | refine' ⟨_, rfl, ?_⟩
    | refine' ⟨rfl, fun _ => ?_⟩
    | refine' ⟨rfl, ?_⟩
    | fail_if_success skip)
def intB : D → Bool
  | .int _ => true
  | _ => false
def betw (v : D) (lo hi : Int) : Bool := match v with
  | .int i => decide (lo ≤ i) && decide (i ≤ hi)
  | _ => false
def ltD : D → D → Bool
  | .int a, .int b => decide (a < b)
  | _, _ => false
/-- each less than the next -/
def asc (vs : List D) : Bool := (vs.zip (vs.drop 1)).all fun p => ltD p.1 p.2
def digitsB : D → Bool
  | .tuple vs => (vs.all fun x => betw x 0 9) && asc vs
  | _ => false
def stepB : D → Bool
  | .tuple [t, n] => betw t 0 1000 && betw n 0 20
  | _ => false
def fstD : D → D
  | .tuple (a :: _) => a
  | _ => .none
def eqz : D → Bool
  | .int i => decide (i = 0)
  | _ => false
def stepsB : D → Bool
  | .tuple vs => decide (1 ≤ vs.length) && decide (vs.length ≤ 4) && (vs.all stepB) && eqz (fstD (vs.headD .none)) && ((vs.zip (vs.drop 1)).all fun p => ltD (fstD p.1) (fstD p.2))
  | _ => false
def kindB : D → Bool
  | .tuple [a, b, c] => digitsB a && (!PyData.eqv a (.tuple [])) && digitsB b && stepsB c
  | _ => false
def poolB : D → Bool
  | .tuple ks => decide (1 ≤ ks.length) && decide (ks.length ≤ 6) && (ks.all kindB)
  | _ => false
theorem betw_int {x : D} {lo hi : Int} (h : betw x lo hi = true) : ∃ i, x = .int i ∧ lo ≤ i ∧ i ≤ hi := by
  cases x with
  | int i =>
    rw [betw, Bool.and_eq_true, decide_eq_true_iff, decide_eq_true_iff] at h
    exact ⟨i, rfl, h⟩
  | _ => cases h
theorem k_ltD {x y : D} {Q : Bool → Prop} (hx : ∃ i, x = .int i) (hy : ∃ i, y = .int i) (h : Q (ltD x y)) : WK .Lt x y Q := by
  obtain ⟨i, rfl⟩ := hx
  obtain ⟨j, rfl⟩ := hy
  exact k_lt h
theorem zip_mem {α : Type} {xs : List α} {k : Nat} {p : α × α} (h : p ∈ xs.zip (xs.drop k)) : p.1 ∈ xs ∧ p.2 ∈ xs := by
  obtain ⟨a, b⟩ := p
  exact ⟨(List.of_mem_zip h).1, List.mem_of_mem_drop (List.of_mem_zip h).2⟩
section
variable {v : D} {pn : Option Pn} {Q : D → Bool → Option Pn → Prop}
theorem c_is_integer (g : Tm v) (h : Q (.bool (intB v)) false pn) : WC F_is_integer [v] pn Q := by
  refine w_run ?_
  unfold ir_is_integer
  cases v
  case dict => exact g.nodict.elim
  all_goals
    (repeat' first | fail | refine' w1_ite ?_)
    exact h
theorem c_is_between {lo hi : Int} (g : Tm v) (h : Q (.bool (betw v lo hi)) false pn) : WC F_is_between [v, .int lo, .int hi] pn Q := by
  refine w_run ?_
  unfold ir_is_between
  cases v
  case int =>
    (repeat' first |  ((with_reducible show WC F_is_integer _ _ _); refine' c_is_integer g ?_)  | fail | refine' w1_ite ?_)
    exact h
  all_goals
    refine' ws_cons (w1_ret (w_and (wb_andF ?_)))
    (repeat' first |  ((with_reducible show WC F_is_integer _ _ _); refine' c_is_integer g ?_)  | fail | refine' w1_ite ?_)
    exact h
theorem c_is_time (g : Tm v) (h : Q (.bool (betw v 0 1000)) false pn) : WC F_is_time [v] pn Q := by
  refine w_run ?_
  unfold ir_is_time
  (repeat' first |  ((with_reducible show WC F_is_between _ _ _); refine' c_is_between g ?_)  | fail | refine' w1_ite ?_)
  exact h
theorem c_is_digits (g : Tm v) (h : Q (.bool (digitsB v)) false pn) : WC F_is_digits [v] pn Q := by
  refine w_run ?_
  unfold ir_is_digits
  cases v
  case dict => exact g.nodict.elim
  case tuple vs =>
    cases hb : vs.all fun x => betw x 0 9
    · refine ws_cons (w1_iteT (wb_orF ?_))
      (repeat' first | refine' wlc_all it_id ?_ (lenOk g.lenT) (fun x hx => ?_) ?_ ?_ | ((with_reducible show WC F_is_between _ _ _); refine' c_is_between (g.tup hx) ?_) | refine' f_allM ?_ | fail | refine' w1_ite ?_)
      rw [hb]
      (repeat' first | fail | refine' w1_ite ?_)
      rw [digitsB, hb] at h; exact h
    · refine ws_cons (w1_iteF (wb_orF ?_))
      (repeat' first | refine' wlc_all it_id ?_ (lenOk g.lenT) (fun x hx => ?_) ?_ ?_ | ((with_reducible show WC F_is_between _ _ _); refine' c_is_between (g.tup hx) ?_) | refine' f_allM ?_ | fail | refine' w1_ite ?_)
      rw [hb]
      have hi : ∀ x ∈ vs, ∃ i, x = PyData.int i := fun x hx => by
        obtain ⟨i, e, _⟩ := betw_int (List.all_eq_true.mp hb x hx)
        exact ⟨i, e⟩
      (repeat' first | refine' wlc_all it_zip ?_ ?_ (fun x hx => ?_) ?_ ?_ | refine' f_allM ?_ | refine' k_ltD (hi _ (zip_mem hx).1) (hi _ (zip_mem hx).2) ?_ | fail | refine' w1_ite ?_)
      · refine lenOk ?_
        have := g.lenT
        rw [List.length_zip]; omega
      · rw [digitsB, hb] at h; exact h
  all_goals
    refine ws_cons (w1_iteT (wb_orT ?_))
    (repeat' first | fail | refine' w1_ite ?_)
    exact h
theorem c_is_step (g : Tm v) (h : Q (.bool (stepB v)) false pn) : WC F_is_step [v] pn Q := by
  refine w_run ?_
  unfold ir_is_step
  cases v
  case dict => exact g.nodict.elim
  case tuple vs =>
    by_cases hl : vs.length = 2
    · obtain ⟨a, b, rfl⟩ : ∃ a b, vs = [a, b] := by
        match vs, hl with
        | [a, b], _ => exact ⟨a, b, rfl⟩
      refine ws_cons (w1_iteF (wb_orF ?_))
      (repeat' first |  ((with_reducible show WC F_is_time _ _ _); refine' c_is_time (g.tup (by simp)) ?_) | ((with_reducible show WC F_is_between _ _ _); refine' c_is_between (g.tup (by simp)) ?_)  | fail | refine' w1_ite ?_)
      exact h
    · refine ws_cons (w1_iteT (wb_orF ?_))
      (repeat' first | fail | refine' w1_ite ?_)
      refine ⟨by simp; omega, ?_⟩
      (repeat' first | fail | refine' w1_ite ?_)
      rw [show stepB (.tuple vs) = false by match vs, hl with | [], _ => rfl | [_], _ => rfl | _ :: _ :: _ :: _, _ => rfl] at h
      exact h
  all_goals
    refine ws_cons (w1_iteT (wb_orT ?_))
    (repeat' first | fail | refine' w1_ite ?_)
    exact h
theorem stepB_out {v : D} (h : stepB v = true) : ∃ t n, v = .tuple [.int t, .int n] ∧ 0 ≤ t ∧ t ≤ 1000 ∧ 0 ≤ n ∧ n ≤ 20 := by
  unfold stepB at h
  split at h
  · rw [Bool.and_eq_true] at h
    obtain ⟨i, rfl, h1⟩ := betw_int h.1
    obtain ⟨j, rfl, h2⟩ := betw_int h.2
    exact ⟨i, j, rfl, h1.1, h1.2, h2⟩
  · cases h
theorem c_is_steps (g : Tm v) (h : Q (.bool (stepsB v)) false pn) : WC F_is_steps [v] pn Q := by
  refine w_run ?_
  unfold ir_is_steps
  cases v
  case dict => exact g.nodict.elim
  case tuple vs =>
    by_cases hl : 1 ≤ vs.length ∧ vs.length ≤ 4
    · have e1 : (decide ((1 : Int) ≤ (vs.length : Int)) && decide ((vs.length : Int) ≤ 4)) = true := by simp; omega
      refine ws_cons (w1_iteF (wb_orF ?_))
      (repeat' first | fail | refine' w1_ite ?_)
      rw [e1]
      refine ⟨rfl, ?_⟩
      obtain ⟨x0, r, rfl⟩ : ∃ x0 r, vs = x0 :: r := by
        match vs, hl with
        | x :: r, _ => exact ⟨x, r, rfl⟩
      have e2 : (decide (1 ≤ (x0 :: r).length) && decide ((x0 :: r).length ≤ 4)) = true := by simp at hl ⊢; omega
      cases hb : (x0 :: r).all stepB
      · refine ws_nil (ws_cons (w1_iteT (wb_orT ?_)))
        (repeat' first | refine' wlc_all it_id ?_ (lenOk g.lenT) (fun x hx => ?_) ?_ ?_ | ((with_reducible show WC F_is_step _ _ _); refine' c_is_step (g.tup hx) ?_) | refine' f_allM ?_ | fail | refine' w1_ite ?_)
        rw [hb]
        (repeat' first | fail | refine' w1_ite ?_)
        rw [stepsB, e2, hb] at h; exact h
      · have hi : ∀ x ∈ x0 :: r, ∃ i n, x = PyData.tuple [.int i, .int n] := fun x hx => by
          obtain ⟨i, n, e, _⟩ := stepB_out (List.all_eq_true.mp hb x hx)
          exact ⟨i, n, e⟩
        obtain ⟨i, n, rfl⟩ := hi x0 (by simp)
        by_cases hz : i = 0
        · refine ws_nil (ws_cons (w1_iteF (wb_orF ?_)))
          (repeat' first | refine' wlc_all it_id ?_ (lenOk g.lenT) (fun x hx => ?_) ?_ ?_ | ((with_reducible show WC F_is_step _ _ _); refine' c_is_step (g.tup hx) ?_) | refine' f_allM ?_ | fail | refine' w1_ite ?_)
          rw [hb]
          (repeat' first | fail | refine' w1_ite ?_)
          refine' ⟨?_, ?_⟩
          · simp [hz]
          (repeat' first | refine' wlc_all it_zip ?_ ?_ (fun x hx => ?_) ?_ ?_ | refine' f_allM (p := fun p => ltD (fstD p.1) (fstD p.2)) ?_ | fail | refine' w1_ite ?_)
          · refine lenOk ?_
            have := g.lenT
            rw [List.length_zip]; omega
          · obtain ⟨a, b⟩ := x
            obtain ⟨i1, n1, e1⟩ := hi _ (zip_mem hx).1
            obtain ⟨i2, n2, e2⟩ := hi _ (zip_mem hx).2
            dsimp only at e1 e2
            subst e1 e2
            (repeat' first | fail | refine' w1_ite ?_)
          · rw [stepsB, e2, hb] at h
            have e3 : eqz (fstD ((PyData.tuple [.int i, .int n] :: r).headD .none)) = true := by subst hz; rfl
            rw [e3] at h
            exact h
        · refine ws_nil (ws_cons (w1_iteT (wb_orF ?_)))
          (repeat' first | refine' wlc_all it_id ?_ (lenOk g.lenT) (fun x hx => ?_) ?_ ?_ | ((with_reducible show WC F_is_step _ _ _); refine' c_is_step (g.tup hx) ?_) | refine' f_allM ?_ | fail | refine' w1_ite ?_)
          rw [hb]
          (repeat' first | fail | refine' w1_ite ?_)
          refine' ⟨?_, ?_⟩
          · simp [hz]
          (repeat' first | fail | refine' w1_ite ?_)
          rw [stepsB, e2, hb] at h
          have e3 : eqz (fstD ((PyData.tuple [.int i, .int n] :: r).headD .none)) = false := decide_eq_false hz
          rw [e3] at h
          exact h
    · have e1 : (decide ((1 : Int) ≤ (vs.length : Int)) && decide ((vs.length : Int) ≤ 4)) = false := by
        by_cases z : 1 ≤ vs.length
        · rw [decide_eq_false (p := (vs.length : Int) ≤ 4) (by omega), Bool.and_false]
        · rw [decide_eq_false (p := (1 : Int) ≤ (vs.length : Int)) (by omega), Bool.false_and]
      refine ws_cons (w1_iteT (wb_orF ?_))
      (repeat' first | fail | refine' w1_ite ?_)
      rw [e1]
      (repeat' first | fail | refine' w1_ite ?_)
      have e2 : (decide (1 ≤ vs.length) && decide (vs.length ≤ 4)) = false := by
        by_cases z : 1 ≤ vs.length
        · rw [decide_eq_false (p := vs.length ≤ 4) (by omega), Bool.and_false]
        · rw [decide_eq_false (p := 1 ≤ vs.length) (by omega), Bool.false_and]
      rw [stepsB, e2] at h
      exact h
  all_goals
    refine ws_cons (w1_iteT (wb_orT ?_))
    (repeat' first | fail | refine' w1_ite ?_)
    exact h
end
end K1

set_option Elab.async false
set_option linter.all false
set_option maxRecDepth 100000
set_option maxHeartbeats 8000000
namespace K1
open PySem L2 Fs
local macro_rules
  | `(tactic| fail) => `(tactic| first
    | (refine' gateE ?_; first | refine' w_var rfl ?_ | refine' w_own rfl ?_ | refine' w_int ?_ | refine' w_bool ?_ | refine' w_non ?_ | refine' w_str ?_ | refine' w_glob ?_ | refine' w_call ?_ | refine' w_ix ?_ | refine' w_cmp ?_ | refine' w_bin ?_ | refine' w_one ?_ | refine' w_blt ?_ | refine' w_isi ?_ | refine' w_not ?_ | refine' w_isN ?_ | refine' w_notN ?_ | refine' w_tup ?_ | refine' w_lst ?_ | refine' w_and ?_ | refine' w_or ?_ | refine' w_sl ?_ | refine' w_lc ?_ | refine' w_neg ?_ | refine' w_cmp2P ?_ ?_)
    | refine' wl_nil ?_
    | refine' wl_cons ?_
    | (refine' gate1 ?_; first | refine' w1_set ?_ | refine' w1_ret ?_ | refine' w1_setT ?_ | refine' w1_set2 ?_ | refine' w1_app rfl ?_ | refine' w1_ins rfl ?_ | refine' w1_expr ?_ | refine' w1_rev rfl ?_ | refine' w1_ext rfl ?_ | refine' w1_setLc ?_ | refine' w1_for ?_ | refine' w1_retN ?_ | refine' w1_cont ?_ | refine' w1_brk ?_ | refine' w1_pass ?_)
    | refine' ws_nil ?_
    | refine' ws_cons ?_
    | (refine' gateB ?_; first | refine' wb_and1 ?_ | refine' wb_or1 ?_ | refine' wb_andP ?_ (fun _ => ?_) ?_ | refine' wb_orP ?_ (fun _ => ?_) ?_ | refine' wb_of ?_)
    | refine' wv ?_
    | (refine' gateK ?_; first | refine' k_lt ?_ | refine' k_le ?_ | refine' k_gt ?_ | refine' k_ge ?_ | refine' k_eqI ?_ | refine' k_neI ?_ | refine' k_inT ?_ | refine' k_inL ?_ | refine' k_ninT ?_ | refine' k_ninL ?_)
    | (refine' gateF ?_; first | refine' f_lenL ?_ | refine' f_lenT ?_ | refine' f_int ?_ | refine' f_tupL ?_ | refine' f_tupT ?_ | refine' f_listL ?_ | refine' f_listT ?_ | refine' f_max2 ?_ | refine' f_rev1T ?_ | refine' f_rev1L ?_ | refine' f_min2 ?_)
    | (refine' gateI ?_; first | refine' wi rfl ?_ | refine' wi_atT rfl rfl ?_ | refine' wi_atL rfl rfl ?_)
    | (refine' gateT ?_; first | refine' wt_v rfl ?_ | refine' wt_t2 rfl ?_ | refine' wt_t3 rfl ?_ | refine' wt_t4 rfl ?_ | refine' wt_t5 rfl ?_ | refine' wt rfl ?_)
    | (refine' gateR ?_; first | refine' wr_seq ?_ | refine' wr_enum ?_ | refine' wr_zip ?_ | refine' wr_rng ?_ | refine' wr_rng2 ?_)
    | (refine' gateSl ?_; first | refine' slF_T rfl ?_ | refine' slT_T rfl ?_ | refine' slF_L rfl ?_ | refine' slT_L rfl ?_)
    | refine' wo_none ?_
    | refine' wo_some ?_
    | refine' wal_nil ?_
    | refine' wal_one ?_
    | refine' d_add ?_
    | refine' d_sub ?_
    | refine' z_TT ?_
    | refine' z_LL ?_
    | refine' wret ?_
    | exact rfl
    | refine' ⟨_, rfl, ?_⟩
    | refine' ⟨rfl, fun _ => ?_⟩
    | refine' ⟨rfl, ?_⟩
    | fail_if_success skip)
section
variable {v : D} {pn : Option Pn} {Q : D → Bool → Option Pn → Prop}
theorem Tm.nil : Tm (.tuple []) := ⟨by simp [tame, tames, okLen]⟩
theorem okEq_of {x y : D} (hx : good 60 x = true) (hy : good 60 y = true) : okEq x y = true := by
  unfold okEq
  split
  · rfl
  · rw [hx, hy]; rfl
theorem c_is_kind (g : Tm v) (h : Q (.bool (kindB v)) false pn) : WC F_is_kind [v] pn Q := by
  refine w_run ?_
  unfold ir_is_kind
  cases v
  case dict => exact g.nodict.elim
  case tuple vs =>
    by_cases hl : vs.length = 3
    · obtain ⟨a, b, c, rfl⟩ : ∃ a b c, vs = [a, b, c] := by
        match vs, hl with
        | [a, b, c], _ => exact ⟨a, b, c, rfl⟩
      refine ws_cons (w1_iteF (wb_orF ?_))
      (repeat' first | refine' k_neI ?_ | ((with_reducible show WC F_is_digits _ _ _); refine' c_is_digits (g.tup (by simp)) ?_) | ((with_reducible show WC F_is_steps _ _ _); refine' c_is_steps (g.tup (by simp)) ?_) | refine' k_ne (okEq_of (g.tup (by simp)).gd Tm.nil.gd) ?_ | fail | refine' w1_ite ?_)
      rw [kindB, Bool.and_assoc, Bool.and_assoc] at h
      exact h
    · refine ws_cons (w1_iteT (wb_orF ?_))
      (repeat' first | fail | refine' w1_ite ?_)
      refine ⟨by simp; omega, ?_⟩
      (repeat' first | fail | refine' w1_ite ?_)
      rw [show kindB (.tuple vs) = false by match vs, hl with | [], _ => rfl | [_], _ => rfl | [_, _], _ => rfl | _ :: _ :: _ :: _ :: _, _ => rfl] at h
      exact h
  all_goals
    refine ws_cons (w1_iteT (wb_orT ?_))
    (repeat' first | fail | refine' w1_ite ?_)
    exact h
theorem bnd_T {n k : Nat} {m : Int} (e : m = k) (h : 1 ≤ n ∧ n ≤ k) : (decide ((1 : Int) ≤ (n : Int)) && decide ((n : Int) ≤ m)) = true ∧ (decide (1 ≤ n) && decide (n ≤ k)) = true := by subst e; simp; omega
theorem bnd_F {n k : Nat} {m : Int} (e : m = k) (h : ¬(1 ≤ n ∧ n ≤ k)) : (decide ((1 : Int) ≤ (n : Int)) && decide ((n : Int) ≤ m)) = false ∧ (decide (1 ≤ n) && decide (n ≤ k)) = false := by
  subst e
  by_cases z : 1 ≤ n
  · rw [decide_eq_false (p := (n : Int) ≤ (k : Int)) (by omega), Bool.and_false, decide_eq_false (p := n ≤ k) (by omega), Bool.and_false]; exact ⟨rfl, rfl⟩
  · rw [decide_eq_false (p := (1 : Int) ≤ (n : Int)) (by omega), Bool.false_and, decide_eq_false (p := 1 ≤ n) (by omega), Bool.false_and]; exact ⟨rfl, rfl⟩
theorem c_is_pool (g : Tm v) (h : Q (.bool (poolB v)) false pn) : WC F_is_pool [v] pn Q := by
  refine w_run ?_
  unfold ir_is_pool
  cases v
  case dict => exact g.nodict.elim
  case tuple vs =>
    by_cases hl : 1 ≤ vs.length ∧ vs.length ≤ 6
    · refine ws_cons (w1_iteF (wb_orF ?_))
      (repeat' first | fail | refine' w1_ite ?_)
      rw [(bnd_T (k := 6) (m := 6) rfl hl).1]
      (repeat' first | refine' wlc_all it_id ?_ (lenOk g.lenT) (fun x hx => ?_) ?_ ?_ | ((with_reducible show WC F_is_kind _ _ _); refine' c_is_kind (g.tup hx) ?_) | refine' f_allM ?_ | fail | refine' w1_ite ?_)
      rw [poolB, (bnd_T (k := 6) (m := 6) rfl hl).2, Bool.true_and] at h
      exact h
    · refine ws_cons (w1_iteT (wb_orF ?_))
      (repeat' first | fail | refine' w1_ite ?_)
      rw [(bnd_F (k := 6) (m := 6) rfl hl).1]
      (repeat' first | fail | refine' w1_ite ?_)
      rw [poolB, (bnd_F (k := 6) (m := 6) rfl hl).2, Bool.false_and] at h
      exact h
  all_goals
    refine ws_cons (w1_iteT (wb_orT ?_))
    (repeat' first | fail | refine' w1_ite ?_)
    exact h
theorem c_require_pool (g : Tm v) (z : poolB v = true) (h : Q .none false pn) : WC F_require_pool [v] pn Q := by
  refine w_run ?_
  unfold ir_require_pool
  refine ws_cons (w1_iteF ?_)
  (repeat' first |  ((with_reducible show WC F_is_pool _ _ _); refine' c_is_pool g ?_)  | fail | refine' w1_ite ?_)
  rw [z]
  (repeat' first | fail | refine' w1_ite ?_)
  exact h
theorem c_require_time (g : Tm v) (z : betw v 0 1000 = true) (h : Q .none false pn) : WC F_require_time [v] pn Q := by
  refine w_run ?_
  unfold ir_require_time
  refine ws_cons (w1_iteF ?_)
  (repeat' first |  ((with_reducible show WC F_is_time _ _ _); refine' c_is_time g ?_)  | fail | refine' w1_ite ?_)
  rw [z]
  (repeat' first | fail | refine' w1_ite ?_)
  exact h
end
def intsD (ns : List Int) : D := .tuple (ns.map .int)
def stepD (p : Int × Int) : D := .tuple [.int p.1, .int p.2]
def stepsD (l : List (Int × Int)) : D := .tuple (l.map stepD)
structure Kind where
  fe : List Int
  gr : List Int
  st : List (Int × Int)
def kindD (k : Kind) : D := .tuple [intsD k.fe, intsD k.gr, stepsD k.st]
def poolD (P : List Kind) : D := .tuple (P.map kindD)
structure Claim where
  g : Int
  f : Int
  s : Int
  e : Int
  k : Option Int
def optD : Option Int → D
  | none => .none
  | some i => .int i
def claimD (c : Claim) : D := .tuple [.int c.g, .int c.f, .int c.s, .int c.e, optD c.k]
def claimsD (cs : List Claim) : D := .tuple (cs.map claimD)
structure Digs (ns : List Int) : Prop where
  up : ns.Pairwise (· < ·)
  rg : ∀ n ∈ ns, 0 ≤ n ∧ n ≤ 9
  len : ns.length ≤ 10
structure StepsOk (l : List (Int × Int)) : Prop where
  len : 1 ≤ l.length ∧ l.length ≤ 4
  fst : ∀ p, l[0]? = some p → p.1 = 0
  up : l.Pairwise fun p q => p.1 < q.1
  rg : ∀ p ∈ l, 0 ≤ p.1 ∧ p.1 ≤ 1000 ∧ 0 ≤ p.2 ∧ p.2 ≤ 20
structure KindOk (k : Kind) : Prop where
  fe : Digs k.fe
  ne : k.fe ≠ []
  gr : Digs k.gr
  st : StepsOk k.st
structure PoolOk (P : List Kind) : Prop where
  len : 1 ≤ P.length ∧ P.length ≤ 6
  ks : ∀ k ∈ P, KindOk k
def servesB (k : Kind) (g f : Int) : Bool := decide (f ∈ k.fe) && (decide (k.gr = []) || decide (g ∈ k.gr))
structure ClaimOk (P : List Kind) (c : Claim) : Prop where
  g : 0 ≤ c.g ∧ c.g ≤ 9
  f : 0 ≤ c.f ∧ c.f ≤ 9
  s : 0 ≤ c.s
  e : c.e ≤ 1000
  se : c.s < c.e
  k : ∀ i, c.k = some i → 0 ≤ i ∧ ∃ kd, P[i.toNat]? = some kd ∧ servesB kd c.g c.f = true
theorem zip_pw {α : Type} {R : α → α → Prop} : ∀ {xs : List α}, xs.Pairwise R → ∀ p, p ∈ xs.zip (xs.drop 1) → R p.1 p.2
  | [], _, p, m => by simp at m
  | [x], _, p, m => by simp at m
  | x :: y :: r, h, p, m => by
    rw [show (x :: y :: r).zip ((x :: y :: r).drop 1) = (x, y) :: (y :: r).zip r from rfl] at m
    rcases List.mem_cons.mp m with rfl | m
    · exact (List.pairwise_cons.mp h).1 _ (List.mem_cons_self ..)
    · exact zip_pw (List.pairwise_cons.mp h).2 p m
theorem asc_of {ns : List Int} (h : ns.Pairwise (· < ·)) : asc (ns.map .int) = true := by
  unfold asc
  rw [List.all_eq_true]
  intro p hp
  rw [← List.map_drop, List.zip_map] at hp
  obtain ⟨q, hq, rfl⟩ := List.mem_map.mp hp
  exact decide_eq_true (zip_pw h q hq)
theorem betw_of {i lo hi : Int} (h : lo ≤ i ∧ i ≤ hi) : betw (.int i) lo hi = true := by
  rw [betw, decide_eq_true h.1, decide_eq_true h.2]; rfl
theorem digits_of {ns : List Int} (h : Digs ns) : digitsB (intsD ns) = true := by
  show ((ns.map PyData.int).all (fun x => betw x 0 9) && asc (ns.map .int)) = true
  rw [asc_of h.up, Bool.and_true, List.all_eq_true]
  intro x hx
  obtain ⟨n, hn, rfl⟩ := List.mem_map.mp hx
  exact betw_of (h.rg n hn)
theorem steps_of {l : List (Int × Int)} (h : StepsOk l) : stepsB (stepsD l) = true := by
  show (decide (1 ≤ (l.map stepD).length) && decide ((l.map stepD).length ≤ 4) && ((l.map stepD).all stepB) && eqz (fstD ((l.map stepD).headD .none)) && (((l.map stepD).zip ((l.map stepD).drop 1)).all fun p => ltD (fstD p.1) (fstD p.2))) = true
  rw [List.length_map, decide_eq_true h.len.1, decide_eq_true h.len.2]
  have e1 : (l.map stepD).all stepB = true := by
    rw [List.all_eq_true]
    intro x hx
    obtain ⟨p, hp, rfl⟩ := List.mem_map.mp hx
    have r := h.rg p hp
    show (betw (.int p.1) 0 1000 && betw (.int p.2) 0 20) = true
    rw [betw_of ⟨r.1, r.2.1⟩, betw_of r.2.2]; rfl
  have e2 : eqz (fstD ((l.map stepD).headD .none)) = true := by
    cases l with
    | nil => have := h.len.1; simp at this
    | cons p r => exact decide_eq_true (h.fst p rfl)
  have e3 : ((l.map stepD).zip ((l.map stepD).drop 1)).all (fun p => ltD (fstD p.1) (fstD p.2)) = true := by
    rw [List.all_eq_true]
    intro p hp
    rw [← List.map_drop, List.zip_map] at hp
    obtain ⟨q, hq, rfl⟩ := List.mem_map.mp hp
    exact decide_eq_true (zip_pw h.up q hq)
  rw [e1, e2, e3]; rfl
theorem eqv_ints : ∀ {ms ns : List Int}, PyData.eqvAll (ms.map .int) (ns.map .int) = decide (ms = ns)
  | [], [] => rfl
  | [], n :: ns => rfl
  | m :: ms, [] => rfl
  | m :: ms, n :: ns => by
    rw [List.map_cons, List.map_cons, PyData.eqvAll, eqv_int, eqv_ints]
    by_cases h : m = n
    · subst h; simp
    · simp [h]
theorem eqv_intsD {ms ns : List Int} : PyData.eqv (intsD ms) (intsD ns) = decide (ms = ns) := by
  show PyData.eqv (.tuple _) (.tuple _) = _
  rw [PyData.eqv, eqv_ints]
theorem eqv_nil {ns : List Int} : PyData.eqv (intsD ns) (.tuple []) = decide (ns = []) := eqv_intsD (ns := [])
theorem kind_of {k : Kind} (h : KindOk k) : kindB (kindD k) = true := by
  show (digitsB (intsD k.fe) && (!PyData.eqv (intsD k.fe) (.tuple [])) && digitsB (intsD k.gr) && stepsB (stepsD k.st)) = true
  rw [digits_of h.fe, digits_of h.gr, steps_of h.st, eqv_nil, decide_eq_false h.ne]; rfl
theorem pool_of {P : List Kind} (h : PoolOk P) : poolB (poolD P) = true := by
  show (decide (1 ≤ (P.map kindD).length) && decide ((P.map kindD).length ≤ 6) && ((P.map kindD).all kindB)) = true
  rw [List.length_map, decide_eq_true h.len.1, decide_eq_true h.len.2, Bool.true_and, List.all_eq_true.mpr]
  · rfl
  · intro x hx
    obtain ⟨k, hk, rfl⟩ := List.mem_map.mp hx
    exact kind_of (h.ks k hk)
theorem tame_ints {n : Nat} {ns : List Int} (h : ns.length ≤ 1000000) : tame (n + 1) (intsD ns) = true := by
  unfold intsD
  rw [tame, okLen, List.length_map, decide_eq_true h, tames_of]
  · rfl
  · intro x hx
    obtain ⟨i, _, rfl⟩ := List.mem_map.mp hx
    simp [tame]
theorem tame_tup {n : Nat} {xs : List D} (h : xs.length ≤ 1000000) (z : ∀ x ∈ xs, tame n x = true) : tame (n + 1) (.tuple xs) = true := by
  rw [tame, okLen, decide_eq_true h, tames_of z]; rfl
theorem tame_int {n : Nat} {i : Int} : tame n (.int i) = true := by simp [tame]
theorem tame_steps {n : Nat} {l : List (Int × Int)} (h : l.length ≤ 1000000) : tame (n + 2) (stepsD l) = true :=
  tame_tup (by simpa using h) fun x hx => by
    obtain ⟨p, _, rfl⟩ := List.mem_map.mp hx
    exact tame_tup (by simp) fun y hy => by simp at hy; rcases hy with rfl | rfl <;> exact tame_int
theorem tame_kind {n : Nat} {k : Kind} (h : KindOk k) : tame (n + 3) (kindD k) = true :=
  tame_tup (by simp) fun x hx => by
    have h1 := h.fe.len; have h2 := h.gr.len; have h3 := h.st.len
    simp only [List.mem_cons, List.not_mem_nil, or_false] at hx
    rcases hx with rfl | rfl | rfl
    · exact tame_ints (by omega)
    · exact tame_ints (by omega)
    · exact tame_steps (by omega)
theorem tame_pool {n : Nat} {P : List Kind} (h : PoolOk P) : tame (n + 4) (poolD P) = true :=
  tame_tup (by have := h.len; simp; omega) fun x hx => by
    obtain ⟨k, hk, rfl⟩ := List.mem_map.mp hx
    exact tame_kind (h.ks k hk)
theorem PoolOk.tm {P : List Kind} (h : PoolOk P) : Tm (poolD P) := ⟨tame_pool h⟩
section
variable {v : D} {pn : Option Pn} {Q : D → Bool → Option Pn → Prop}
theorem good_ints {ns : List Int} : good 60 (intsD ns) = true := by unfold intsD; rw [good, goods_ints]
theorem c_serves {k : Kind} {g f : Int} (h : Q (.bool (servesB k g f)) false pn) : WC F_serves [kindD k, .int g, .int f] pn Q := by
  refine w_run ?_
  unfold ir_serves
  (repeat' first | refine' k_eq (x := intsD k.gr) (okEq_of good_ints Tm.nil.gd) ?_ | fail | refine' w1_ite ?_)
  rw [eqv_nil]
  exact h
def srvB (P : List Kind) : D → D → D → Bool
  | .int k, .int g, .int f => (P[k.toNat]?).any fun kd => servesB kd g f
  | _, _, _ => false
/-- is this a claim of the pool? -/
def claimB (P : List Kind) : D → Bool
  | .tuple [g, f, s, e, k] => betw g 0 9 && (betw f 0 9 && (betw s 0 1000 && (betw e 0 1000 && (ltD s e && (isn k || (betw k 0 (P.length - 1) && srvB P k g f))))))
  | _ => false
theorem c_is_claim_of {P : List Kind} (hP : PoolOk P) (g : Tm v) (h : Q (.bool (claimB P v)) false pn) : WC F_is_claim_of [poolD P, v] pn Q := by
  refine w_run ?_
  unfold ir_is_claim_of
  cases v
  case dict => exact g.nodict.elim
  case tuple vs =>
    by_cases hl : vs.length = 5
    · obtain ⟨gr, f, s, e, k, rfl⟩ : ∃ a b c d e, vs = [a, b, c, d, e] := by
        match vs, hl with
        | [a, b, c, d, e], _ => exact ⟨a, b, c, d, e, rfl⟩
      refine ws_cons (w1_iteF (wb_orF ?_))
      (repeat' first |  ((with_reducible show WC F_is_between _ _ _); refine' c_is_between (g.tup (by simp)) ?_)  | fail | refine' w1_ite ?_)
      refine ⟨fun z => ?_, fun z => ?_⟩
      · (repeat' first | fail | refine' w1_ite ?_)
        rw [show claimB P (.tuple [gr, f, s, e, k]) = false by
          show (betw gr 0 9 && (betw f 0 9 && _)) = false
          cases h1 : betw gr 0 9 <;> cases h2 : betw f 0 9 <;> simp [h1, h2] at z ⊢] at h
        exact h
      have h : Q (.bool (betw gr 0 9 && (betw f 0 9 && (betw s 0 1000 && (betw e 0 1000 && (ltD s e && (isn k || (betw k 0 (P.length - 1) && srvB P k gr f)))))))) false pn := h
      have z1 : betw gr 0 9 = true := by cases h1 : betw gr 0 9 <;> simp [h1] at z ⊢
      have z2 : betw f 0 9 = true := by cases h1 : betw f 0 9 <;> simp [h1] at z ⊢
      rw [z1, z2, Bool.true_and, Bool.true_and] at h
      cases hs : betw s 0 1000
      · refine ws_nil (ws_cons (w1_iteT (wb_orT ?_)))
        (repeat' first |  ((with_reducible show WC F_is_time _ _ _); refine' c_is_time (g.tup (by simp)) ?_)  | fail | refine' w1_ite ?_)
        rw [hs]
        (repeat' first | fail | refine' w1_ite ?_)
        rw [hs, Bool.false_and] at h
        exact h
      cases he : betw e 0 1000
      · refine ws_nil (ws_cons (w1_iteT (wb_orF ?_)))
        (repeat' first |  ((with_reducible show WC F_is_time _ _ _); refine' c_is_time (g.tup (by simp)) ?_)  | fail | refine' w1_ite ?_)
        rw [hs]
        refine ⟨rfl, wb_orT ?_⟩
        (repeat' first |  ((with_reducible show WC F_is_time _ _ _); refine' c_is_time (g.tup (by simp)) ?_)  | fail | refine' w1_ite ?_)
        rw [he]
        (repeat' first | fail | refine' w1_ite ?_)
        rw [he, Bool.false_and, Bool.and_false] at h
        exact h
      obtain ⟨gi, rfl, hg1⟩ := betw_int z1
      obtain ⟨fi, rfl, hf1⟩ := betw_int z2
      obtain ⟨si, rfl, hs1⟩ := betw_int hs
      obtain ⟨ei, rfl, he1⟩ := betw_int he
      rw [hs, he, Bool.true_and, Bool.true_and] at h
      refine ws_nil (ws_cons (w1_ite (wb_orF ?_)))
      (repeat' first |  ((with_reducible show WC F_is_time _ _ _); refine' c_is_time (g.tup (by simp)) ?_)  | fail | refine' w1_ite ?_)
      rw [hs]
      refine ⟨rfl, wb_orF ?_⟩
      (repeat' first |  ((with_reducible show WC F_is_time _ _ _); refine' c_is_time (g.tup (by simp)) ?_)  | fail | refine' w1_ite ?_)
      rw [he]
      (repeat' first | fail | refine' w1_ite ?_)
      refine ⟨fun z => ?_, fun z => ?_⟩
      · (repeat' first | fail | refine' w1_ite ?_)
        rw [show ltD (.int si) (.int ei) = false from decide_eq_false (by have := of_decide_eq_true z; omega), Bool.false_and] at h
        exact h
      rw [show ltD (.int si) (.int ei) = true from decide_eq_true (by have := of_decide_eq_false z; omega), Bool.true_and] at h
      have el : ((P.map kindD).length : Int) = (P.length : Int) := by rw [List.length_map]
      cases hk : isn k
      · rw [hk, Bool.false_or] at h
        refine ws_nil (ws_cons (w1_ret (w_or (wb_orF ?_))))
        (repeat' first | fail | refine' w1_ite ?_)
        rw [hk]
        refine ⟨rfl, ?_⟩
        cases hb : betw k 0 (P.length - 1)
        · rw [hb, Bool.false_and] at h
          refine wb_or1 (wb_of (w_and (wb_andF ?_)))
          (repeat' first | refine' f_lenT (xs := P.map kindD) ?_ | ((with_reducible show WC F_is_between _ _ _); refine' c_is_between (g.tup (by simp)) ?_)  | fail | refine' w1_ite ?_)
          rw [el, hb]
          (repeat' first | fail | refine' w1_ite ?_)
          exact h
        · rw [hb, Bool.true_and] at h
          obtain ⟨ki, rfl, hk1⟩ := betw_int hb
          have hlt : ki.toNat < P.length := by omega
          have hkd : P[ki.toNat]? = some P[ki.toNat] := List.getElem?_eq_getElem hlt
          rw [srvB, hkd] at h
          refine wb_or1 (wb_of (w_and (wb_andT ?_)))
          (repeat' first | refine' f_lenT (xs := P.map kindD) ?_ | ((with_reducible show WC F_is_between _ _ _); refine' c_is_between (g.tup (by simp)) ?_)  | fail | refine' w1_ite ?_)
          rw [el, hb]
          (repeat' first | refine' wi_mapT (xs := P) (g := kindD) hk1.1 hkd ?_ | ((with_reducible show WC F_serves _ _ _); refine' c_serves ?_)  | fail | refine' w1_ite ?_)
          exact h
      · rw [hk, Bool.true_or] at h
        refine ws_nil (ws_cons (w1_ret (w_or (wb_orT ?_))))
        (repeat' first | fail | refine' w1_ite ?_)
        rw [hk]
        (repeat' first | fail | refine' w1_ite ?_)
        exact h
    · refine ws_cons (w1_iteT (wb_orF ?_))
      (repeat' first | fail | refine' w1_ite ?_)
      refine ⟨by simp; omega, ?_⟩
      (repeat' first | fail | refine' w1_ite ?_)
      rw [show claimB P (.tuple vs) = false by match vs, hl with | [], _ => rfl | [_], _ => rfl | [_, _], _ => rfl | [_, _, _], _ => rfl | [_, _, _, _], _ => rfl | _ :: _ :: _ :: _ :: _ :: _ :: _, _ => rfl] at h
      exact h
  all_goals
    refine ws_cons (w1_iteT (wb_orT ?_))
    (repeat' first | fail | refine' w1_ite ?_)
    exact h
end
end K1

set_option Elab.async false
set_option linter.all false
set_option maxRecDepth 100000
set_option maxHeartbeats 8000000
namespace K1
open PySem L2 Fs
local macro_rules
  | `(tactic| fail) => `(tactic| first
    | (refine' gateE ?_; first | refine' w_var rfl ?_ | refine' w_own rfl ?_ | refine' w_int ?_ | refine' w_bool ?_ | refine' w_non ?_ | refine' w_str ?_ | refine' w_glob ?_ | refine' w_call ?_ | refine' w_ix ?_ | refine' w_cmp ?_ | refine' w_bin ?_ | refine' w_one ?_ | refine' w_blt ?_ | refine' w_isi ?_ | refine' w_not ?_ | refine' w_isN ?_ | refine' w_notN ?_ | refine' w_tup ?_ | refine' w_lst ?_ | refine' w_and ?_ | refine' w_or ?_ | refine' w_sl ?_ | refine' w_lc ?_ | refine' w_neg ?_ | refine' w_cmp2P ?_ ?_)
    | refine' wl_nil ?_
    | refine' wl_cons ?_
    | (refine' gate1 ?_; first | refine' w1_set ?_ | refine' w1_ret ?_ | refine' w1_setT ?_ | refine' w1_set2 ?_ | refine' w1_app rfl ?_ | refine' w1_ins rfl ?_ | refine' w1_expr ?_ | refine' w1_rev rfl ?_ | refine' w1_ext rfl ?_ | refine' w1_setLc ?_ | refine' w1_for ?_ | refine' w1_retN ?_ | refine' w1_cont ?_ | refine' w1_brk ?_ | refine' w1_pass ?_)
    | refine' ws_nil ?_
    | refine' ws_cons ?_
    | (refine' gateB ?_; first | refine' wb_and1 ?_ | refine' wb_or1 ?_ | refine' wb_andP ?_ (fun _ => ?_) ?_ | refine' wb_orP ?_ (fun _ => ?_) ?_ | refine' wb_of ?_)
    | refine' wv ?_
    | (refine' gateK ?_; first | refine' k_lt ?_ | refine' k_le ?_ | refine' k_gt ?_ | refine' k_ge ?_ | refine' k_eqI ?_ | refine' k_neI ?_ | refine' k_inT ?_ | refine' k_inL ?_ | refine' k_ninT ?_ | refine' k_ninL ?_)
    | (refine' gateF ?_; first | refine' f_lenL ?_ | refine' f_lenT ?_ | refine' f_int ?_ | refine' f_tupL ?_ | refine' f_tupT ?_ | refine' f_listL ?_ | refine' f_listT ?_ | refine' f_max2 ?_ | refine' f_rev1T ?_ | refine' f_rev1L ?_ | refine' f_min2 ?_)
    | (refine' gateI ?_; first | refine' wi rfl ?_ | refine' wi_atT rfl rfl ?_ | refine' wi_atL rfl rfl ?_)
    | (refine' gateT ?_; first | refine' wt_v rfl ?_ | refine' wt_t2 rfl ?_ | refine' wt_t3 rfl ?_ | refine' wt_t4 rfl ?_ | refine' wt_t5 rfl ?_ | refine' wt rfl ?_)
    | (refine' gateR ?_; first | refine' wr_seq ?_ | refine' wr_enum ?_ | refine' wr_zip ?_ | refine' wr_rng ?_ | refine' wr_rng2 ?_)
    | (refine' gateSl ?_; first | refine' slF_T rfl ?_ | refine' slT_T rfl ?_ | refine' slF_L rfl ?_ | refine' slT_L rfl ?_)
    | refine' wo_none ?_
    | refine' wo_some ?_
    | refine' wal_nil ?_
    | refine' wal_one ?_
    | refine' d_add ?_
    | refine' d_sub ?_
    | refine' z_TT ?_
    | refine' z_LL ?_
    | refine' wret ?_
    | exact rfl
    | refine' ⟨_, rfl, ?_⟩
    | refine' ⟨rfl, fun _ => ?_⟩
    | refine' ⟨rfl, ?_⟩
    | fail_if_success skip)
section
variable {v : D} {pn : Option Pn} {Q : D → Bool → Option Pn → Prop}
def claimsB (P : List Kind) (most : Int) : D → Bool
  | .tuple cs => decide ((cs.length : Int) ≤ most) && cs.all (claimB P)
  | _ => false
theorem c_are_claims {P : List Kind} {most : Int} (hP : PoolOk P) (g : Tm v) (h : Q (.bool (claimsB P most v)) false pn) : WC F_are_claims [poolD P, v, .int most] pn Q := by
  refine w_run ?_
  unfold ir_are_claims
  cases v
  case dict => exact g.nodict.elim
  case tuple vs =>
    by_cases hl : (vs.length : Int) ≤ most
    · refine ws_cons (w1_iteF (wb_orF ?_))
      (repeat' first | fail | refine' w1_ite ?_)
      rw [show decide (most < (vs.length : Int)) = false from decide_eq_false (by omega)]
      (repeat' first | refine' wlc_all it_id ?_ (lenOk g.lenT) (fun x hx => ?_) ?_ ?_ | ((with_reducible show WC F_is_claim_of _ _ _); refine' c_is_claim_of hP (g.tup hx) ?_) | refine' f_allM ?_ | fail | refine' w1_ite ?_)
      have h : Q (.bool (decide ((vs.length : Int) ≤ most) && vs.all (claimB P))) false pn := h
      rw [decide_eq_true hl, Bool.true_and] at h
      exact h
    · refine ws_cons (w1_iteT (wb_orF ?_))
      (repeat' first | fail | refine' w1_ite ?_)
      rw [show decide (most < (vs.length : Int)) = true from decide_eq_true (by omega)]
      (repeat' first | fail | refine' w1_ite ?_)
      have h : Q (.bool (decide ((vs.length : Int) ≤ most) && vs.all (claimB P))) false pn := h
      rw [decide_eq_false hl, Bool.false_and] at h
      exact h
  all_goals
    refine ws_cons (w1_iteT (wb_orT ?_))
    (repeat' first | fail | refine' w1_ite ?_)
    exact h
structure ClaimsOk (P : List Kind) (most : Nat) (cs : List Claim) : Prop where
  len : cs.length ≤ most
  cs : ∀ c ∈ cs, ClaimOk P c
theorem c_require_claims {P : List Kind} (hP : PoolOk P) (g : Tm v) (z : claimsB P 12 v = true) (h : Q .none false pn) : WC F_require_claims [poolD P, v] pn Q := by
  refine w_run ?_
  unfold ir_require_claims
  (repeat' first |  ((with_reducible show WC F_require_pool _ _ _); refine' c_require_pool hP.tm (pool_of hP) ?_) | refine' w1_iteF ?_ | ((with_reducible show WC F_are_claims _ _ _); refine' c_are_claims hP g ?_)  | fail | refine' w1_ite ?_)
  rw [z]
  (repeat' first | fail | refine' w1_ite ?_)
  exact h
def actB (t : Int) (c : Claim) : Bool := decide (c.s ≤ t) && decide (t < c.e)
theorem c_is_active {c : Claim} {t : Int} (h : Q (.bool (actB t c)) false pn) : WC F_is_active [claimD c, .int t] pn Q := by
  refine w_run ?_
  unfold ir_is_active
  (repeat' first | fail | refine' w1_ite ?_)
  exact h
/-- the numbers of the active claims -/
def actN (t : Int) (cs : List Claim) : List Int := (cs.zipIdx.filter fun p => actB t p.1).map fun p => ((p.2 : Nat) : Int)
theorem c_find_active {cs : List Claim} {t : Int} (hl : cs.length ≤ 1000000) (h : Q (.list ((actN t cs).map .int)) true pn) : WC F_find_active [claimsD cs, .int t] pn Q := by
  refine w_run ?_
  unfold ir_find_active
  (repeat' first | refine' wlc_map (α := Claim × Nat) (p := fun p => actB t p.1) (f := fun p => .int (p.2 : Nat)) it_enum ?_ ?_ (fun x hx => ?_) ?_ ?_ | ((with_reducible show WC F_is_active _ _ _); refine' c_is_active ?_) | refine' ⟨fun _ => ?_, fun _ => ?_⟩ | fail | refine' w1_ite ?_)
  · rw [List.length_zipIdx]; exact lenOk hl
  · rw [actN, List.map_map] at h
    exact h
end
end K1

set_option Elab.async false
set_option linter.all false
set_option maxRecDepth 100000
set_option maxHeartbeats 8000000
namespace K1
open PySem L2 Fs
local macro_rules
  | `(tactic| fail) => `(tactic| first
    | (refine' gateE ?_; first | refine' w_var rfl ?_ | refine' w_own rfl ?_ | refine' w_int ?_ | refine' w_bool ?_ | refine' w_non ?_ | refine' w_str ?_ | refine' w_glob ?_ | refine' w_call ?_ | refine' w_ix ?_ | refine' w_cmp ?_ | refine' w_bin ?_ | refine' w_one ?_ | refine' w_blt ?_ | refine' w_isi ?_ | refine' w_not ?_ | refine' w_isN ?_ | refine' w_notN ?_ | refine' w_tup ?_ | refine' w_lst ?_ | refine' w_and ?_ | refine' w_or ?_ | refine' w_sl ?_ | refine' w_lc ?_ | refine' w_neg ?_ | refine' w_cmp2P ?_ ?_)
    | refine' wl_nil ?_
    | refine' wl_cons ?_
    | (refine' gate1 ?_; first | refine' w1_set ?_ | refine' w1_ret ?_ | refine' w1_setT ?_ | refine' w1_set2 ?_ | refine' w1_app rfl ?_ | refine' w1_ins rfl ?_ | refine' w1_expr ?_ | refine' w1_rev rfl ?_ | refine' w1_ext rfl ?_ | refine' w1_setLc ?_ | refine' w1_for ?_ | refine' w1_retN ?_ | refine' w1_cont ?_ | refine' w1_brk ?_ | refine' w1_pass ?_)
    | refine' ws_nil ?_
    | refine' ws_cons ?_
    | (refine' gateB ?_; first | refine' wb_and1 ?_ | refine' wb_or1 ?_ | refine' wb_andP ?_ (fun _ => ?_) ?_ | refine' wb_orP ?_ (fun _ => ?_) ?_ | refine' wb_of ?_)
    | refine' wv ?_
    | (refine' gateK ?_; first | refine' k_lt ?_ | refine' k_le ?_ | refine' k_gt ?_ | refine' k_ge ?_ | refine' k_eqI ?_ | refine' k_neI ?_ | refine' k_inT ?_ | refine' k_inL ?_ | refine' k_ninT ?_ | refine' k_ninL ?_)
    | (refine' gateF ?_; first | refine' f_lenL ?_ | refine' f_lenT ?_ | refine' f_int ?_ | refine' f_tupL ?_ | refine' f_tupT ?_ | refine' f_listL ?_ | refine' f_listT ?_ | refine' f_max2 ?_ | refine' f_rev1T ?_ | refine' f_rev1L ?_ | refine' f_min2 ?_)
    | (refine' gateI ?_; first | refine' wi rfl ?_ | refine' wi_atT rfl rfl ?_ | refine' wi_atL rfl rfl ?_)
    | (refine' gateT ?_; first | refine' wt_v rfl ?_ | refine' wt_t2 rfl ?_ | refine' wt_t3 rfl ?_ | refine' wt_t4 rfl ?_ | refine' wt_t5 rfl ?_ | refine' wt rfl ?_)
    | (refine' gateR ?_; first | refine' wr_seq ?_ | refine' wr_enum ?_ | refine' wr_zip ?_ | refine' wr_rng ?_ | refine' wr_rng2 ?_)
    | (refine' gateSl ?_; first | refine' slF_T rfl ?_ | refine' slT_T rfl ?_ | refine' slF_L rfl ?_ | refine' slT_L rfl ?_)
    | refine' wo_none ?_
    | refine' wo_some ?_
    | refine' wal_nil ?_
    | refine' wal_one ?_
    | refine' d_add ?_
    | refine' d_sub ?_
    | refine' z_TT ?_
    | refine' z_LL ?_
    | refine' wret ?_
    | exact rfl
    | refine' ⟨_, rfl, ?_⟩
    | refine' ⟨rfl, fun _ => ?_⟩
    | refine' ⟨rfl, ?_⟩
    | fail_if_success skip)
abbrev pen : Option (D × Bool) := some (.dict [], false)
end K1

set_option Elab.async false
set_option linter.all false
set_option maxRecDepth 100000
set_option maxHeartbeats 8000000
namespace K1
open PySem L2 Fs
local macro_rules
  | `(tactic| fail) => `(tactic| first
    | (refine' gateE ?_; first | refine' w_var rfl ?_ | refine' w_own rfl ?_ | refine' w_int ?_ | refine' w_bool ?_ | refine' w_non ?_ | refine' w_str ?_ | refine' w_glob ?_ | refine' w_call ?_ | refine' w_ix ?_ | refine' w_cmp ?_ | refine' w_bin ?_ | refine' w_one ?_ | refine' w_blt ?_ | refine' w_isi ?_ | refine' w_not ?_ | refine' w_isN ?_ | refine' w_notN ?_ | refine' w_tup ?_ | refine' w_lst ?_ | refine' w_and ?_ | refine' w_or ?_ | refine' w_sl ?_ | refine' w_lc ?_ | refine' w_neg ?_ | refine' w_cmp2P ?_ ?_)
    | refine' wl_nil ?_
    | refine' wl_cons ?_
    | (refine' gate1 ?_; first | refine' w1_set ?_ | refine' w1_ret ?_ | refine' w1_setT ?_ | refine' w1_set2 ?_ | refine' w1_app rfl ?_ | refine' w1_ins rfl ?_ | refine' w1_expr ?_ | refine' w1_rev rfl ?_ | refine' w1_ext rfl ?_ | refine' w1_setLc ?_ | refine' w1_for ?_ | refine' w1_retN ?_ | refine' w1_cont ?_ | refine' w1_brk ?_ | refine' w1_pass ?_)
    | refine' ws_nil ?_
    | refine' ws_cons ?_
    | (refine' gateB ?_; first | refine' wb_and1 ?_ | refine' wb_or1 ?_ | refine' wb_andP ?_ (fun _ => ?_) ?_ | refine' wb_orP ?_ (fun _ => ?_) ?_ | refine' wb_of ?_)
    | refine' wv ?_
    | (refine' gateK ?_; first | refine' k_lt ?_ | refine' k_le ?_ | refine' k_gt ?_ | refine' k_ge ?_ | refine' k_eqI ?_ | refine' k_neI ?_ | refine' k_inT ?_ | refine' k_inL ?_ | refine' k_ninT ?_ | refine' k_ninL ?_)
    | (refine' gateF ?_; first | refine' f_lenL ?_ | refine' f_lenT ?_ | refine' f_int ?_ | refine' f_tupL ?_ | refine' f_tupT ?_ | refine' f_listL ?_ | refine' f_listT ?_ | refine' f_max2 ?_ | refine' f_rev1T ?_ | refine' f_rev1L ?_ | refine' f_min2 ?_)
    | (refine' gateI ?_; first | refine' wi rfl ?_ | refine' wi_atT rfl rfl ?_ | refine' wi_atL rfl rfl ?_)
    | (refine' gateT ?_; first | refine' wt_v rfl ?_ | refine' wt_t2 rfl ?_ | refine' wt_t3 rfl ?_ | refine' wt_t4 rfl ?_ | refine' wt_t5 rfl ?_ | refine' wt rfl ?_)
    | (refine' gateR ?_; first | refine' wr_seq ?_ | refine' wr_enum ?_ | refine' wr_zip ?_ | refine' wr_rng ?_ | refine' wr_rng2 ?_)
    | (refine' gateSl ?_; first | refine' slF_T rfl ?_ | refine' slT_T rfl ?_ | refine' slF_L rfl ?_ | refine' slT_L rfl ?_)
    | refine' wo_none ?_
    | refine' wo_some ?_
    | refine' wal_nil ?_
    | refine' wal_one ?_
    | refine' d_add ?_
    | refine' d_sub ?_
    | refine' z_TT ?_
    | refine' z_LL ?_
    | refine' wret ?_
    | exact rfl
    | refine' ⟨_, rfl, ?_⟩
    | refine' ⟨rfl, fun _ => ?_⟩
    | refine' ⟨rfl, ?_⟩
    | fail_if_success skip)
/-- the kinds that serve -/
def servN (P : List Kind) (g f : Int) : List Int := (P.zipIdx.filter fun p => servesB p.1 g f).map fun p => ((p.2 : Nat) : Int)
def kindsN (P : List Kind) (c : Claim) : List Int := match c.k with
  | some i => [i]
  | none => servN P c.g c.f
end K1

set_option Elab.async false
set_option linter.all false
set_option maxRecDepth 100000
set_option maxHeartbeats 8000000
namespace K1
open PySem L2 Fs
local macro_rules
  | `(tactic| fail) => `(tactic| first
    | (refine' gateE ?_; first | refine' w_var rfl ?_ | refine' w_own rfl ?_ | refine' w_int ?_ | refine' w_bool ?_ | refine' w_non ?_ | refine' w_str ?_ | refine' w_glob ?_ | refine' w_call ?_ | refine' w_ix ?_ | refine' w_cmp ?_ | refine' w_bin ?_ | refine' w_one ?_ | refine' w_blt ?_ | refine' w_isi ?_ | refine' w_not ?_ | refine' w_isN ?_ | refine' w_notN ?_ | refine' w_tup ?_ | refine' w_lst ?_ | refine' w_and ?_ | refine' w_or ?_ | refine' w_sl ?_ | refine' w_lc ?_ | refine' w_neg ?_ | refine' w_cmp2P ?_ ?_)
    | refine' wl_nil ?_
    | refine' wl_cons ?_
    | (refine' gate1 ?_; first | refine' w1_set ?_ | refine' w1_ret ?_ | refine' w1_setT ?_ | refine' w1_set2 ?_ | refine' w1_app rfl ?_ | refine' w1_ins rfl ?_ | refine' w1_expr ?_ | refine' w1_rev rfl ?_ | refine' w1_ext rfl ?_ | refine' w1_setLc ?_ | refine' w1_for ?_ | refine' w1_retN ?_ | refine' w1_cont ?_ | refine' w1_brk ?_ | refine' w1_pass ?_)
    | refine' ws_nil ?_
    | refine' ws_cons ?_
    | (refine' gateB ?_; first | refine' wb_and1 ?_ | refine' wb_or1 ?_ | refine' wb_andP ?_ (fun _ => ?_) ?_ | refine' wb_orP ?_ (fun _ => ?_) ?_ | refine' wb_of ?_)
    | refine' wv ?_
    | (refine' gateK ?_; first | refine' k_lt ?_ | refine' k_le ?_ | refine' k_gt ?_ | refine' k_ge ?_ | refine' k_eqI ?_ | refine' k_neI ?_ | refine' k_inT ?_ | refine' k_inL ?_ | refine' k_ninT ?_ | refine' k_ninL ?_)
    | (refine' gateF ?_; first | refine' f_lenL ?_ | refine' f_lenT ?_ | refine' f_int ?_ | refine' f_tupL ?_ | refine' f_tupT ?_ | refine' f_listL ?_ | refine' f_listT ?_ | refine' f_max2 ?_ | refine' f_rev1T ?_ | refine' f_rev1L ?_ | refine' f_min2 ?_)
    | (refine' gateI ?_; first | refine' wi rfl ?_ | refine' wi_atT rfl rfl ?_ | refine' wi_atL rfl rfl ?_)
    | (refine' gateT ?_; first | refine' wt_v rfl ?_ | refine' wt_t2 rfl ?_ | refine' wt_t3 rfl ?_ | refine' wt_t4 rfl ?_ | refine' wt_t5 rfl ?_ | refine' wt rfl ?_)
    | (refine' gateR ?_; first | refine' wr_seq ?_ | refine' wr_enum ?_ | refine' wr_zip ?_ | refine' wr_rng ?_ | refine' wr_rng2 ?_)
    | (refine' gateSl ?_; first | refine' slF_T rfl ?_ | refine' slT_T rfl ?_ | refine' slF_L rfl ?_ | refine' slT_L rfl ?_)
    | refine' wo_none ?_
    | refine' wo_some ?_
    | refine' wal_nil ?_
    | refine' wal_one ?_
    | refine' d_add ?_
    | refine' d_sub ?_
    | refine' z_TT ?_
    | refine' z_LL ?_
    | refine' wret ?_
    | exact rfl
    | refine' ⟨_, rfl, ?_⟩
    | refine' ⟨rfl, fun _ => ?_⟩
    | refine' ⟨rfl, ?_⟩
    | fail_if_success skip)
structure Sm (w : Nat) (d : D) : Prop where
  tm : tame 40 d = true
  sh : d.showable = true
  sl : d.leavesShort 22 = true
  wt : d.weight ≤ w
theorem Sm.mono {w u : Nat} {d : D} (h : Sm w d) (z : w ≤ u) : Sm u d := ⟨h.tm, h.sh, h.sl, Nat.le_trans h.wt z⟩
/-- of depth n at most -/
structure Smn (n w : Nat) (d : D) : Prop where
  tm : tame n d = true
  sh : d.showable = true
  sl : d.leavesShort 22 = true
  wt : d.weight ≤ w
theorem Smn.mono {n m w u : Nat} {d : D} (h : Smn n w d) (hn : n ≤ m) (z : w ≤ u) : Smn m u d := ⟨tame_le hn h.tm, h.sh, h.sl, Nat.le_trans h.wt z⟩
theorem law_of {irr : ISs} {s : S} (h : WS irr s (fun _ => False) fun f _ => f = .ret (.bool true) false) : ∃ s1, evalSs irr s = some (.ret (.bool true) false, s1) := by
  obtain ⟨f, s1, e, h⟩ := h.out
  cases f with
  | nx => exact h.elim
  | _ => exact ⟨s1, by rw [e, show _ = Fl.ret (.bool true) false from h]⟩
end K1

set_option Elab.async false
set_option linter.all false
set_option maxRecDepth 100000
set_option maxHeartbeats 8000000
namespace K1
open PySem L2 Fs
def ir_find_seats : ISs := (.cons (.ret (.ix (.lc (.var 4) (.t [3, 4]) (.seq (.ix (.ix (.var 0) (.var 1)) (.int 2))) (.cons (.cmp .LtE (.var 3) (.var 2)) .nil)) (.neg (.int 1))))
  .nil)
def F_find_seats : Fn := runF 5 ir_find_seats
def ir_find_serving : ISs := (.cons (.ret (.lc (.var 3) (.t [3, 4]) (.enum (.var 0)) (.cons (.call "serves" F_serves (.cons (.var 4) (.cons (.var 1) (.cons (.var 2) .nil)))) .nil)))
  .nil)
def F_find_serving : Fn := runF 5 ir_find_serving
def ir_find_kinds : ISs := (.cons (.ite (.isN (.ix (.var 1) (.int 4)))
  (.cons (.ret (.call "find_serving" F_find_serving (.cons (.var 0) (.cons (.ix (.var 1) (.int 0)) (.cons (.ix (.var 1) (.int 1)) .nil)))))
  .nil)
  .nil)
  (.cons (.ret (.lst (.cons (.ix (.var 1) (.int 4)) .nil)))
  .nil))
def F_find_kinds : Fn := runF 2 ir_find_kinds
local macro_rules
  | `(tactic| fail) => `(tactic| first
    | (refine' gateE ?_; first | refine' w_var rfl ?_ | refine' w_own rfl ?_ | refine' w_int ?_ | refine' w_bool ?_ | refine' w_non ?_ | refine' w_str ?_ | refine' w_glob ?_ | refine' w_call ?_ | refine' w_ix ?_ | refine' w_cmp ?_ | refine' w_bin ?_ | refine' w_one ?_ | refine' w_blt ?_ | refine' w_isi ?_ | refine' w_not ?_ | refine' w_isN ?_ | refine' w_notN ?_ | refine' w_tup ?_ | refine' w_lst ?_ | refine' w_and ?_ | refine' w_or ?_ | refine' w_sl ?_ | refine' w_lc ?_ | refine' w_neg ?_ | refine' w_cmp2P ?_ ?_)
    | refine' wl_nil ?_
    | refine' wl_cons ?_
    | (refine' gate1 ?_; first | refine' w1_set ?_ | refine' w1_ret ?_ | refine' w1_setT ?_ | refine' w1_set2 ?_ | refine' w1_app rfl ?_ | refine' w1_ins rfl ?_ | refine' w1_expr ?_ | refine' w1_rev rfl ?_ | refine' w1_ext rfl ?_ | refine' w1_setLc ?_ | refine' w1_for ?_ | refine' w1_retN ?_ | refine' w1_cont ?_ | refine' w1_brk ?_ | refine' w1_pass ?_)
    | refine' ws_nil ?_
    | refine' ws_cons ?_
    | (refine' gateB ?_; first | refine' wb_and1 ?_ | refine' wb_or1 ?_ | refine' wb_andP ?_ (fun _ => ?_) ?_ | refine' wb_orP ?_ (fun _ => ?_) ?_ | refine' wb_of ?_)
    | refine' wv ?_
    | (refine' gateK ?_; first | refine' k_lt ?_ | refine' k_le ?_ | refine' k_gt ?_ | refine' k_ge ?_ | refine' k_eqI ?_ | refine' k_neI ?_ | refine' k_inT ?_ | refine' k_inL ?_ | refine' k_ninT ?_ | refine' k_ninL ?_)
    | (refine' gateF ?_; first | refine' f_lenL ?_ | refine' f_lenT ?_ | refine' f_int ?_ | refine' f_tupL ?_ | refine' f_tupT ?_ | refine' f_listL ?_ | refine' f_listT ?_ | refine' f_max2 ?_ | refine' f_rev1T ?_ | refine' f_rev1L ?_ | refine' f_min2 ?_)
    | (refine' gateI ?_; first | refine' wi rfl ?_ | refine' wi_atT rfl rfl ?_ | refine' wi_atL rfl rfl ?_)
    | (refine' gateT ?_; first | refine' wt_v rfl ?_ | refine' wt_t2 rfl ?_ | refine' wt_t3 rfl ?_ | refine' wt_t4 rfl ?_ | refine' wt_t5 rfl ?_ | refine' wt rfl ?_)
    | (refine' gateR ?_; first | refine' wr_seq ?_ | refine' wr_enum ?_ | refine' wr_zip ?_ | refine' wr_rng ?_ | refine' wr_rng2 ?_)
    | (refine' gateSl ?_; first | refine' slF_T rfl ?_ | refine' slT_T rfl ?_ | refine' slF_L rfl ?_ | refine' slT_L rfl ?_)
    | refine' wo_none ?_
    | refine' wo_some ?_
    | refine' wal_nil ?_
    | refine' wal_one ?_
    | refine' d_add ?_
    | refine' d_sub ?_
    | refine' z_TT ?_
    | refine' z_LL ?_
    | refine' wret ?_
    | exact rfl
    | refine' ⟨_, rfl, ?_⟩
    | refine' ⟨rfl, fun _ => ?_⟩
    | refine' ⟨rfl, ?_⟩
    | fail_if_success skip)
section
variable {pn : Option Pn} {Q : D → Bool → Option Pn → Prop}
/-- the seats of the last step that is not later -/
def seatsOf (l : List (Int × Int)) (t : Int) : Int := ((l.filter fun p => decide (p.1 ≤ t)).map (·.2)).getLastD 0
theorem wi_lastI {α : Type} {xs : List α} {f : α → Int} {Q : D → Prop} (h0 : xs ≠ []) (h : Q (.int ((xs.map f).getLastD 0))) : WI (.list (xs.map fun x => .int (f x))) (.int (-1)) Q := by
  rcases List.eq_nil_or_concat xs with rfl | ⟨r, x, rfl⟩
  · exact absurd rfl h0
  · rw [List.concat_eq_append, List.map_append] at *
    refine ⟨.int (f x), ?_, ?_⟩
    · show L2.atI _ _ = _
      exact L2.atI_last _ _
    · simpa [List.getLastD_eq_getLast?] using h
theorem c_find_seats {P : List Kind} {kd : Kind} {i t : Int} (h0 : 0 ≤ i) (hk : P[i.toNat]? = some kd) (hK : KindOk kd) (ht : 0 ≤ t) (h : Q (.int (seatsOf kd.st t)) false pn) : WC F_find_seats [poolD P, .int i, .int t] pn Q := by
  have l1 := hK.st.len
  have hne : (kd.st.filter fun p => decide (p.1 ≤ t)) ≠ [] := by
    cases hs : kd.st with
    | nil => rw [hs] at l1; simp at l1
    | cons p r =>
      have := hK.st.fst p (by rw [hs]; rfl)
      rw [List.filter_cons_of_pos (by rw [this]; exact decide_eq_true ht)]
      simp
  refine w_run ?_
  unfold ir_find_seats
  (repeat' first | refine' wi_mapT (xs := P) (g := kindD) (y := kd) h0 hk ?_ | refine' wlc_map (xs := kd.st) (g := stepD) (p := fun p => decide (p.1 ≤ t)) (f := fun p => .int p.2) rfl ?_ (lenOk (by omega)) (fun x hx => ?_) ?_ ?_ | refine' ⟨fun _ => ?_, fun _ => ?_⟩ | refine' wi_lastI hne ?_ | fail | refine' w1_ite ?_)
  exact h
theorem c_find_serving {P : List Kind} {g f : Int} (hl : P.length ≤ 1000000) (h : Q (.list ((servN P g f).map .int)) true pn) : WC F_find_serving [poolD P, .int g, .int f] pn Q := by
  refine w_run ?_
  unfold ir_find_serving
  (repeat' first | refine' wlc_map (α := Kind × Nat) (p := fun p => servesB p.1 g f) (f := fun p => .int (p.2 : Nat)) it_enum ?_ ?_ (fun x hx => ?_) ?_ ?_ | ((with_reducible show WC F_serves _ _ _); refine' c_serves ?_) | refine' ⟨fun _ => ?_, fun _ => ?_⟩ | fail | refine' w1_ite ?_)
  · rw [List.length_zipIdx]; exact lenOk hl
  · rw [servN, List.map_map] at h
    exact h
theorem c_find_kinds {P : List Kind} {c : Claim} (hl : P.length ≤ 1000000) (h : Q (.list ((kindsN P c).map .int)) true pn) : WC F_find_kinds [poolD P, claimD c] pn Q := by
  refine w_run ?_
  unfold ir_find_kinds
  unfold kindsN at h
  cases hk : c.k with
  | none =>
    rw [hk] at h
    refine ws_cons (w1_iteT ?_)
    (repeat' first | fail | refine' w1_ite ?_)
    rw [hk]
    (repeat' first |  ((with_reducible show WC F_find_serving _ _ _); refine' c_find_serving hl ?_)  | fail | refine' w1_ite ?_)
    exact h
  | some i =>
    rw [hk] at h
    refine ws_cons (w1_iteF ?_)
    (repeat' first | fail | refine' w1_ite ?_)
    rw [hk]
    (repeat' first | fail | refine' w1_ite ?_)
    rw [hk]
    exact h
end
end K1

set_option Elab.async false
set_option linter.all false
set_option maxRecDepth 100000
set_option maxHeartbeats 8000000
namespace Fs
open PySem L2 K1
abbrev nPl : List Str := ["state", "seated", "number", "tried", "pool", "claims", "time", "kind", "other", "here"]
def ir_find_place : ISs := (.cons (.setT [4, 5, 6] (.var 0))
  (.cons (.for (.v 7) (.seq (.call "find_kinds" FNo (.cons (.var 4) (.cons (.ix (.var 5) (.var 2)) .nil))))
  (.cons (.ite (.cmp .NotIn (.var 7) (.var 3))
  (.cons (.app 3 (.var 7))
  (.cons (.setLc 9 (.var 8) (.v 8) (.seq (.var 1)) (.cons (.cmp .Eq (.ix (.var 1) (.var 8)) (.var 7)) .nil))
  (.cons (.ite (.cmp .Lt (.blt .len (.cons (.var 9) .nil)) (.call "find_seats" FNo (.cons (.var 4) (.cons (.var 7) (.cons (.var 6) .nil)))))
  (.cons (.setIx 1 (.var 2) (.var 7))
  (.cons (.ret (.bool true))
  .nil))
  .nil)
  (.cons (.for (.v 8) (.seq (.var 9))
  (.cons (.ite (.call "find_place" FNo (.cons (.var 0) (.cons (.var 1) (.cons (.var 8) (.cons (.var 3) .nil)))))
  (.cons (.setIx 1 (.var 2) (.var 7))
  (.cons (.ret (.bool true))
  .nil))
  .nil)
  .nil))
  .nil))))
  .nil)
  .nil))
  (.cons (.ret (.bool false))
  .nil)))
theorem ints_eq : ∀ {xs : List D} {ks : List Int}, intsOf xs = some ks → xs = ks.map .int
  | [], ks, h => by rw [intsOf] at h; cases h; rfl
  | x :: xs, ks, h => by
    cases x with
    | int i =>
      rw [intsOf] at h
      obtain ⟨js, e, h⟩ := Option.map_eq_some_iff.mp h
      subst h
      rw [List.map_cons, ← ints_eq e]
    | _ => cases h
def kvsOf (sd : Ku.Sd) : List (Key × V) := sd.map fun p => (Sum.inl p.1, V.int p.2)
theorem kvs_val {n : Int} : ∀ {sd : Ku.Sd}, valV (kvsOf sd) (Sum.inl n) = (Ku.at_ sd n).map V.int
  | [] => rfl
  | p :: r => by
    rw [Ku.at_cons]
    show valV ((Sum.inl p.1, V.int p.2) :: kvsOf r) (Sum.inl n) = _
    by_cases h : p.1 = n
    · rw [if_pos h, valV_pos (by rw [h])]; rfl
    · rw [if_neg h, valV_neg (fun e => h (by cases e; rfl)), kvs_val]
theorem kvs_put {sd : Ku.Sd} {n k : Int} : putK (kvsOf sd) (Sum.inl n) (V.int k) = kvsOf (Ku.put sd n k) := by
  unfold putK Ku.put
  have e : ((kvsOf sd).any fun kv => decide (kv.1 = Sum.inl n)) = Ku.has sd n := by
    unfold kvsOf Ku.has
    rw [List.any_map]
    refine congrArg (fun f => sd.any f) (funext fun p => ?_)
    show decide ((Sum.inl p.1 : Key) = Sum.inl n) = decide (p.1 = n)
    exact decide_eq_decide.mpr ⟨fun e => by cases e; rfl, fun e => by rw [e]⟩
  rw [e]
  by_cases h : Ku.has sd n = true
  · rw [if_pos h, if_pos h]
    unfold kvsOf
    rw [List.map_map, List.map_map]
    refine List.map_congr_left fun p _ => ?_
    show (if (Sum.inl p.1 : Key) = Sum.inl n then _ else _) = _
    by_cases z : p.1 = n
    · rw [if_pos (by rw [z])]
      show _ = ((Sum.inl (if p.1 = n then (p.1, k) else p).1 : Key), V.int (if p.1 = n then (p.1, k) else p).2)
      rw [if_pos z]
    · rw [if_neg (fun e => z (by cases e; rfl))]
      show _ = ((Sum.inl (if p.1 = n then (p.1, k) else p).1 : Key), V.int (if p.1 = n then (p.1, k) else p).2)
      rw [if_neg z]
  · rw [if_neg h, if_neg h]
    unfold kvsOf
    rw [List.map_append]; rfl
def kindsD (P c : D) : Option (List Int) := match F_find_kinds [P, c] none with
  | some ((.list xs, _), none) => intsOf xs
  | _ => none
def seatsD0 (P : D) (k t : Int) : Option Int := match F_find_seats [P, .int k, .int t] none with
  | some ((.int i, _), none) => some i
  | _ => none
def inP (P : D) (k : Int) : Bool := match P with
  | .tuple ps => decide (0 ≤ k) && decide (k < (ps.length : Nat))
  | _ => false
def cfgD (P : D) (cs : List D) (t : Int) : Ku.Cfg := ⟨fun n => ((cs[n.toNat]?).bind (kindsD P)).getD [], fun k => if inP P k = true then (seatsD0 P k t).getD 0 else 0⟩
/-- a claim's number, of which all is known -/
def okN (P : D) (cs : List D) (t n : Int) : Prop := (0 ≤ n ∧ n < (cs.length : Nat)) ∧ ∃ c ks, cs[n.toNat]? = some c ∧ kindsD P c = some ks ∧ ∀ k ∈ ks, (0 ≤ k ∧ k < (1000 : Nat)) ∧ inP P k = true ∧ ∃ i, seatsD0 P k t = some i
def okK (k : Int) : Prop := 0 ≤ k ∧ k < (1000 : Nat)
theorem okN.kinds {P : D} {cs : List D} {t n : Int} (h : okN P cs t n) : ∀ k ∈ (cfgD P cs t).ks n, okK k := by
  obtain ⟨_, c, ks, e1, e2, h⟩ := h
  intro k hk
  have : (cfgD P cs t).ks n = ks := by show ((cs[n.toNat]?).bind (kindsD P)).getD [] = _; rw [e1, Option.bind_some, e2]; rfl
  rw [this] at hk
  exact (h k hk).1
theorem kinds_run {P c : D} {ks : List Int} (h : kindsD P c = some ks) : ∃ fr, F_find_kinds [P, c] none = some ((.list (ks.map .int), fr), none) := by
  unfold kindsD at h
  split at h
  · rename_i xs fr e
    exact ⟨fr, by rw [e, ints_eq h]⟩
  · cases h
theorem seats_run {P : D} {k t i : Int} (h : seatsD0 P k t = some i) : ∃ fr, F_find_seats [P, .int k, .int t] none = some ((.int i, fr), none) := by
  unfold seatsD0 at h
  split at h
  · rename_i j fr e
    cases h
    exact ⟨fr, e⟩
  · cases h
/-- where the pieces stand -/
structure Sit (H : Hp) (dd tt : Addr) (sd : Ku.Sd) (tr : List Int) : Prop where
  d : H dd = some (.dK (kvsOf sd))
  t : H tt = some (.lst (tr.map .int))
def Kept (dd tt : Addr) (H H1 : Hp) : Prop := ∀ x o, H x = some o → x ≠ dd → x ≠ tt → H1 x = some o
theorem Kept.refl {dd tt : Addr} {H : Hp} : Kept dd tt H H := fun _ _ h _ _ => h
theorem Kept.trans {dd tt : Addr} {H H1 H2 : Hp} (a : Kept dd tt H H1) (b : Kept dd tt H1 H2) : Kept dd tt H H2 := fun x o h n m => b x o (a x o h n m) n m
theorem Kept.of {dd tt : Addr} {H H1 : Hp} (a : Sub H H1) : Kept dd tt H H1 := fun x o h _ _ => a x o h
theorem Kept.updD {dd tt : Addr} {H : Hp} {o : HO} : Kept dd tt H (upd H dd o) := fun x u h n _ => by rw [upd_ne n]; exact h
theorem Kept.updT {dd tt : Addr} {H : Hp} {o : HO} : Kept dd tt H (upd H tt o) := fun x u h _ n => by rw [upd_ne n]; exact h
structure Std (G H : Hp) (a dd tt : Addr) (vp vc : V) (P : D) (cs : List D) (t : Int) : Prop where
  st : H a = some (.tup [vp, vc, .int t])
  sub : Sub G H
  rp : Rp none G vp P
  rc : Rp none G vc (.tuple cs)
  gd : G dd = none
  gt : G tt = none
  ne : dd ≠ tt
  na : a ≠ dd ∧ a ≠ tt
  cl : cs.length ≤ 1000
theorem Std.next {G H H1 : Hp} {a dd tt : Addr} {vp vc : V} {P : D} {cs : List D} {t : Int} (s : Std G H a dd tt vp vc P cs t) (k : Kept dd tt H H1) : Std G H1 a dd tt vp vc P cs t :=
  ⟨k _ _ s.st s.na.1 s.na.2, fun x o h => k x o (s.sub x o h) (fun e => by rw [e, s.gd] at h; cases h) (fun e => by rw [e, s.gt] at h; cases h), s.rp, s.rc, s.gd, s.gt, s.ne, s.na, s.cl⟩
def spPl (j : Nat) : GSp := fun vs H Q => ∃ (G : Hp) (a dd tt : Addr) (vp vc : V) (P : D) (cs : List D) (t n : Int) (sd : Ku.Sd) (tr : List Int) (b : Bool) (sd' : Ku.Sd) (tr' : List Int),
  vs = [.ref a, .ref dd, .int n, .ref tt] ∧ Std G H a dd tt vp vc P cs t ∧ Sit H dd tt sd tr ∧ okN P cs t n ∧ Ku.SdI (okN P cs t) sd ∧ Ku.TrI okK tr ∧ Ku.place (cfgD P cs t) j n sd tr = some (b, sd', tr') ∧
  ∀ H1, Kept dd tt H H1 → Sit H1 dd tt sd' tr' → Q (.bl b) H1
theorem Sit.tlen {H : Hp} {dd tt : Addr} {sd : Ku.Sd} {tr : List Int} (h : Ku.TrI okK tr) : tr.length ≤ 1000 := Ku.nodup_len h.nd h.ok
theorem sd_len {P : D} {cs : List D} {t : Int} {sd : Ku.Sd} (h : Ku.SdI (okN P cs t) sd) (hc : cs.length ≤ 1000) : sd.length ≤ 1000 := by
  have := Ku.nodup_len (N := cs.length) h.nd fun m hm => (h.ok m hm).1
  unfold Ku.keys at this
  rw [List.length_map] at this
  omega
/-- a def's answer, a list of ints, with no pen -/
theorem call_ints {F : Fn} {n : Nat} {vs : List V} {ds : List D} {G H : Hp} {Q : VK} {ks : List Int} {fr : Bool} (hl : ds.length = n) (gh : Sub G H) (rs : Rps none G vs ds) (e : F ds none = some ((.list (ks.map .int), fr), none))
    (k : ∀ (l : Addr) (H1 : Hp), Sub H H1 → H1 l = some (.lst (ks.map .int)) → (G l = none → H l = none) → Q (.ref l) H1) : spF F n vs H Q := by
  refine ⟨none, G, ds, none, _, fr, none, hl, gh, trivial, rs, e, fun v H1 G1 h1 h2 h3 h4 h5 h6 => ?_⟩
  have sub : Sub H H1 := fun a o h => h1 a o h fun z => by obtain ⟨c, z⟩ := z; cases z
  split at h6
  · obtain ⟨l, xs, es, rfl, e1, e2, e3, e4, e5⟩ := h6
    cases e1
    rw [e4.ints (intsOf_map ks)] at e3
    exact k l H1 sub e3 fun _ => e2
  · cases h6 with
    | lst h r =>
      rename_i l xs
      rw [r.ints (intsOf_map ks)] at h
      refine k l H1 sub (h3 _ _ h) fun z => ?_
      rcases h4 l _ h with q | q
      · rw [z] at q; cases q
      · exact q
theorem call_int {F : Fn} {n : Nat} {vs : List V} {ds : List D} {G H : Hp} {Q : VK} {i : Int} {fr : Bool} (hl : ds.length = n) (gh : Sub G H) (rs : Rps none G vs ds) (e : F ds none = some ((.int i, fr), none))
    (k : ∀ (H1 : Hp), Sub H H1 → Q (.int i) H1) : spF F n vs H Q := by
  refine ⟨none, G, ds, none, _, fr, none, hl, gh, trivial, rs, e, fun v H1 G1 h1 h2 h3 h4 h5 h6 => ?_⟩
  have sub : Sub H H1 := fun a o h => h1 a o h fun z => by obtain ⟨c, z⟩ := z; cases z
  split at h6
  · obtain ⟨l, xs, es, rfl, e1, _⟩ := h6
    cases e1
  · cases h6
    exact k H1 sub
end Fs

set_option Elab.async false
set_option linter.all false
set_option maxRecDepth 100000
set_option maxHeartbeats 8000000
set_option pp.maxSteps 300
set_option pp.deepTerms.threshold 6
namespace Fs
open PySem L2 K1
def plS (a dd tt : Addr) (n : Int) (vp vc : V) (t : Int) (x7 x8 x9 : Option V) : L2.St := [some (.ref a), some (.ref dd), some (.int n), some (.ref tt), some vp, some vc, some (.int t), x7, x8, x9]
theorem cmp_ninL {k : Int} {tr : List Int} : cmpD .NotIn (.int k) (.list (tr.map .int)) = some (!decide (k ∈ tr)) := by
  show (if okEq (.int k) (.list (tr.map .int)) = true then some (!(tr.map PyData.int).any fun z => PyData.eqv z (.int k)) else none) = _
  rw [if_pos okEq_inL, any_ints]
theorem rti {pa : PA} {G H : Hp} {i : Int} : RpT pa G H (.int i) (.int i) := (show Rp pa G (.int i) (.int i) from .int i)
theorem walk_keys (d : Addr) (o : Obj) (kvs : List (Key × V)) : Walk (Itk d o kvs) kvs.length (fun H => H d = some (.frz o (.dK kvs))) (fun i H x H' => H' = H ∧ ∃ k v, kvs[i]? = some (k, v) ∧ x = kV k) :=
  ⟨fun i H h q => ⟨q, h⟩, fun H q => ⟨q, Nat.le_refl _⟩, fun i H x H' _ _ y => y⟩
theorem gfn_place {W : Wd} {k j : Nat} {f : Addr} {name qual : Str} {params : Arguments} {body : List Stmt} {scope : Scope} {dV kV doc pm cdv ct oc : Value} {an od : Option Addr} {osl : Array (Option Value)} (E : Em)
    (lk : W.K.lookup f = some ⟨oc, od, .func (PySem.W.fnOf name qual params body scope dV kV doc pm an cdv ct), osl⟩)
    (hcd : PySem.W.codeIn W.K cdv qual = true) (sc : FnScope nPl ["state", "seated", "number", "tried"] scope) (bl : ∀ x, x ∈ bnames → W.mg x = none)
    (he : (emSs nPl ir_find_place E).1 = body) (ok : okSs nPl scope ir_find_place E = true)
    (fk : Call1 W k "find_kinds" 2 (spF F_find_kinds 2)) (fs : Call1 W k "find_seats" 3 (spF F_find_seats 3)) (fp : Call1 W k "find_place" 4 (spPl j)) :
    GFn W (k + 1) f (PySem.W.fnOf name qual params body scope dV kV doc pm an cdv ct) ["state", "seated", "number", "tried"] (spPl (j + 1)) := by
  subst he
  refine gfn_of lk hcd sc (fun vs H Q h => ?_) fun A outer s H vs Q room hgd promise => ?_
  · obtain ⟨_, _, _, _, _, _, _, _, _, _, _, _, _, _, _, rfl, _⟩ := h
    rfl
  have C : Cd (gx W nPl qual scope f cdv A outer s H) (gx W nPl qual scope f cdv A outer s H).N scope k := ⟨rfl, sc.nd, rfl, rfl, room, hgd, bl⟩
  have B : Bd (gx W nPl qual scope f cdv A outer s H) := bd0 rfl fun _ => rfl
  have hu : (gx W nPl qual scope f cdv A outer s H).A.units + 1 < cLine := by have := C.un; omega
  unfold ir_find_place at ok
  rw [okSs, okSs, okSs] at ok
  obtain ⟨o1, ok⟩ := and1 ok
  obtain ⟨o2, _⟩ := and1 ok
  rw [okS] at o1
  rw [okS] at o2
  obtain ⟨v0, o1⟩ := and1 o1
  obtain ⟨t456, _⟩ := and1 o1
  rw [okE] at v0
  obtain ⟨p1, o2⟩ := and1 o2
  obtain ⟨t7, o2⟩ := and1 o2
  obtain ⟨_, o2⟩ := and1 o2
  simp only [okSr, okE, okEs, Bool.and_eq_true] at p1
  obtain ⟨⟨v4, ⟨v5, v2⟩, _⟩, gk, _⟩ := p1
  rw [okSs, okS] at o2
  obtain ⟨o2, _⟩ := and1 o2
  obtain ⟨c1, o2⟩ := and1 o2
  obtain ⟨o2, _⟩ := and1 o2
  simp only [okE, Bool.and_eq_true] at c1
  obtain ⟨v7, v3⟩ := c1
  rw [okSs, okSs, okSs, okSs] at o2
  obtain ⟨a1, o2⟩ := and1 o2
  obtain ⟨a2, o2⟩ := and1 o2
  obtain ⟨a3, o2⟩ := and1 o2
  obtain ⟨a4, _⟩ := and1 o2
  rw [okS] at a1
  rw [okS] at a2
  rw [okS] at a3
  rw [okS] at a4
  obtain ⟨_, a1⟩ := and1 a1
  obtain ⟨_, ln1⟩ := and1 a1
  obtain ⟨lc, a2⟩ := and1 a2
  obtain ⟨h9, a2⟩ := and1 a2
  obtain ⟨h9l, a2⟩ := and1 a2
  obtain ⟨hkf, a2⟩ := and1 a2
  obtain ⟨ln2, ln3⟩ := and1 a2
  obtain ⟨d1, a3⟩ := and1 a3
  obtain ⟨d2, _⟩ := and1 a3
  rw [okE, okE] at d1
  · obtain ⟨d1, d3⟩ := and1 d1
    obtain ⟨d1, gl⟩ := and1 d1
    rw [okE] at d3
    obtain ⟨d4, d3⟩ := and1 d3
    simp only [okEs, okE, Bool.and_eq_true] at d4
    obtain ⟨_, _, v6, _⟩ := d4
    obtain ⟨gs, _⟩ := and1 d3
    rw [okEs, okE] at d1
    obtain ⟨v9, _⟩ := and1 d1
    simp only [okSs, okS, okE, Bool.and_eq_true] at d2
    obtain ⟨⟨_, _, v1⟩, _⟩ := d2
    obtain ⟨_, a4⟩ := and1 a4
    obtain ⟨t8, a4⟩ := and1 a4
    obtain ⟨_, a4⟩ := and1 a4
    rw [okSs, okS] at a4
    obtain ⟨a4, _⟩ := and1 a4
    obtain ⟨a4, _⟩ := and1 a4
    simp only [okE, okEs, Bool.and_eq_true] at a4
    obtain ⟨⟨_, _, v8, _⟩, gp, _⟩ := a4
    obtain ⟨ft, fdt, pst, Gk, hmk, hkk, hbk⟩ := fk
    obtain ⟨ft2, fdt2, pst2, Gs, hms, hks, hbs⟩ := fs
    obtain ⟨ft3, fdt3, pst3, Gp, hmp, hkp, hbp⟩ := fp
    obtain ⟨l9, l9'⟩ := loc_of h9
    have hy : (gx W nPl qual scope f cdv A outer s H).env.scope.names.lookup (nm nPl 9) = some .local := pl_of h9l
    have lcok := lc
    rw [okE] at lcok
    obtain ⟨w8, lcok⟩ := and1 lcok
    obtain ⟨lcok, lcok2⟩ := and1 lcok
    obtain ⟨_, lcok2⟩ := and1 lcok2
    obtain ⟨_, lcok2⟩ := and1 lcok2
    obtain ⟨ifs, _⟩ := and1 lcok2
    rw [okE] at w8
    simp only [okEs, okE, Bool.and_eq_true] at ifs
    obtain ⟨⟨⟨w1, _⟩, w7⟩, _⟩ := ifs
    obtain ⟨q1, q2, q3, _, _⟩ := lc_parts (.var 8) (.v 8) (.seq (.var 1)) (.cons (.cmp .Eq (.ix (.var 1) (.var 8)) (.var 7)) .nil) (X := gx W nPl qual scope f cdv A outer s H) C lc (by simp [askE, askSr, askEs])
    refine ⟨_, pss_cons (ps_asg (pv C v0) (pg_tr C.nd C.calm (.t [4, 5, 6]) _ (tg_of C B t456)) sw_tup (ss_notup (by rfl))) (pss_cons (ps_for B.passes C.calm (pi_list (pe_gcall Gk C.room C.gd (gl_of C gk).1 hmk hkk hbk (pa_cons (pv C v4) (pa_cons (pe_ix ix_D (pv C v5) (pv C v2) (fun _ _ => rfl)) pa_nil (by rfl)) (by rfl)) (gl_of C gk).2 (by rfl) (by rfl)))
        (pg_tr C.nd C.calm (.v 7) _ (tg_of C B t7))
        (pss_cons (ps_if (pt_cmpR (op_cmp .NotIn C.un) (pv C v7) (pv C v3) (by rfl))
          (pss_cons (ps_expr (pe_bm PySem.F.plainAttrs_list PySem.F.slot_list_append PySem.F.type_list_append mt_append (pv C v3) (pa_cons (pv C v7) pa_nil (by rfl)) (by rfl) (few_one (by rfl)) ln1 (by rfl) (by rfl)))
          (pss_cons (ps_lock (ps_setLc C.calm C.nd l9 hy (sw_true (kind_of hkf) hy ln2 (by simpa using ln3)) (pi_keys (pv C v1)) q2 q3
              (fun s H A cl fp => pts_one (pt_cmpR (op_cmp .Eq (C.blk _ s H A cl fp).un) (pe_dget (Nat.lt_of_le_of_lt (Nat.add_le_add_left (by decide) _) (C.blk _ s H A cl fp).un) (pv (C.blk _ s H A cl fp) w1) (pv (C.blk _ s H A cl fp) w8) (fun _ _ => rfl)) (pv (C.blk _ s H A cl fp) w7) (by rfl)))
              (fun s H A cl fp => pv (C.blk _ s H A cl fp) w8) (by intro _; rfl)))
          (pss_cons (ps_if (pt_cmpR (op_cmp .Lt C.un) (pe_callB b_len (gl_of C gl).1 (C.no _) PySem.boot_len (pa_cons (pv C v9) pa_nil (by rfl)) (by decide) (gl_of C gl).2 (by rfl) (by rfl)) (pe_gcall Gs C.room C.gd (gl_of C gs).1 hms hks hbs (pa_cons (pv C v4) (pa_cons (pv C v7) (pa_cons (pv C v6) pa_nil (by rfl)) (by rfl)) (by rfl)) (gl_of C gs).2 (by rfl) (by rfl)) (by rfl))
              (pss_cons (ps_dput hu (pv C v1) (pv C v2) (pv C v7) (sw_nolc (by rfl))) (pss_cons (ps_ret pe_bl) pss_nil)) pss_nil)
          (pss_cons (ps_for B.passes C.calm (pi_list (pv C v9)) (pg_tr C.nd C.calm (.v 8) _ (tg_of C B t8))
              (pss_cons (ps_if (pt_val (pe_gcall Gp C.room C.gd (gl_of C gp).1 hmp hkp hbp (pa_cons (pv C v0) (pa_cons (pv C v1) (pa_cons (pv C v8) (pa_cons (pv C v3) pa_nil (by rfl)) (by rfl)) (by rfl)) (by rfl)) (gl_of C gp).2 (by rfl) (by rfl)))
                (pss_cons (ps_dput hu (pv C v1) (pv C v2) (pv C v7) (sw_nolc (by rfl))) (pss_cons (ps_ret pe_bl) pss_nil)) pss_nil) pss_nil) (by intro _; rfl)) pss_nil)))) pss_nil) pss_nil) (by intro _; rfl)) (pss_cons (ps_ret pe_bl) pss_nil)), ?_⟩
    obtain ⟨G, a, dd, tt, vp, vc, P, cs, t, n, sd, tr, b, sd', tr', rfl, S, T, okn, hsd, htr, hp, kk⟩ := promise
    obtain ⟨hn, c, ks, e1, e2, hks⟩ := id okn
    obtain ⟨fr, ek⟩ := kinds_run e2
    have eks : (cfgD P cs t).ks n = ks := by show ((cs[n.toNat]?).bind (kindsD P)).getD [] = _; rw [e1, Option.bind_some, e2]; rfl
    rw [Ku.place, eks] at hp
    refine ⟨.ref a, rfl, a, [vp, vc, .int t], rfl, .of S.st, rfl, gn_sets rfl ?_⟩
    refine ⟨vp, rfl, vc, rfl, .int n, rfl, none, G, .tuple cs, .int n, c, S.sub, S.rc, rti, atI_in hn.1 e1, fun v rv => ?_⟩
    refine call_ints (ds := [P, c]) rfl S.sub (.cons S.rp (.cons rv .nil)) ek fun l H1 s1 hl1 nl => ⟨l, rfl, ⟨_, .of hl1⟩, ?_⟩
    have ldd : l ≠ dd := fun z => by
      have := nl (by rw [z]; exact S.gd)
      rw [z, T.d] at this; cases this
    have ltt : l ≠ tt := fun z => by
      have := nl (by rw [z]; exact S.gt)
      rw [z, T.t] at this; cases this
    refine for_list (xs := ks.map V.int) (fun i σ Hc => ∃ sdc trc x7 x8 x9, σ = plS a dd tt n vp vc t x7 x8 x9 ∧ Kept dd tt H Hc ∧ Hc l = some (.lst (ks.map .int)) ∧ Sit Hc dd tt sdc trc ∧ Ku.SdI (okN P cs t) sdc ∧ Ku.TrI okK trc ∧
      Ku.goKs (cfgD P cs t).cap (Ku.place (cfgD P cs t) j) n (ks.drop i) sdc trc = some (b, sd', tr')) ⟨sd, tr, none, none, none, rfl, Kept.of s1, hl1, ⟨s1 _ _ T.d, s1 _ _ T.t⟩, hsd, htr, hp⟩ (fun i σ Hc _ q => ?_) (fun i x σ Hc hx q => ?_) (fun σ Hc q => ?_)
    · obtain ⟨_, _, _, _, _, _, _, q, _⟩ := q
      exact .of q
    · obtain ⟨sdc, trc, x7, x8, x9, rfl, kc, hlc, Tc, hsc, htc, hg⟩ := q
      rw [List.getElem?_map] at hx
      obtain ⟨kd, hkd, rfl⟩ := Option.map_eq_some_iff.mp hx
      obtain ⟨hil, hie⟩ := List.getElem?_eq_some_iff.mp hkd
      have hdrop : ks.drop i = kd :: ks.drop (i + 1) := by rw [← hie]; exact List.drop_eq_getElem_cons hil
      have hkm : kd ∈ ks := by rw [← hie]; exact List.getElem_mem hil
      rw [hdrop, Ku.goKs] at hg
      have Sc := S.next kc
      refine ⟨.int kd, rfl, .ref tt, rfl, none, G, .int kd, .list (trc.map .int), _, Sc.sub, rti, ⟨tt, _, rfl, Tc.t, Rps.ofInts _⟩, cmp_ninL, _, rfl, ?_⟩
      by_cases hin : kd ∈ trc
      · rw [if_pos hin] at hg
        rw [decide_eq_true hin, if_neg (by decide)]
        exact ⟨sdc, trc, some (.int kd), x8, x9, rfl, kc, hlc, Tc, hsc, htc, hg⟩
      · rw [if_neg hin] at hg
        rw [decide_eq_false hin, if_pos (by decide)]
        obtain ⟨okk, hinP, cap, ecap⟩ := hks kd hkm
        obtain ⟨frs, es⟩ := seats_run ecap
        have ecap2 : (cfgD P cs t).cap kd = cap := by show (if inP P kd = true then (seatsD0 P kd t).getD 0 else 0) = _; rw [if_pos hinP, ecap]; rfl
        rw [ecap2] at hg
        have ht2 := htc.add okk hin
        have l1 := Sit.tlen (H := Hc) (dd := dd) (tt := tt) (sd := sdc) htc
        have l2 := sd_len hsc S.cl
        have line : sizeLine = 16777216 := sizeLine_eq
        refine ⟨.ref tt, rfl, .inl ⟨rfl, _, .of Tc.t⟩, .int kd, rfl, tt, _, _, rfl, rfl, Tc.t, by rw [List.length_map, line]; omega, ?_⟩
        have eapp : trc.map V.int ++ [V.int kd] = (trc ++ [kd]).map V.int := by rw [List.map_append]; rfl
        rw [eapp]
        generalize hHb : upd Hc tt (.lst ((trc ++ [kd]).map V.int)) = Hb
        have kb : Kept dd tt Hc Hb := by rw [← hHb]; exact .updT
        have bd : Hb dd = some (.dK (kvsOf sdc)) := by rw [← hHb, upd_ne S.ne]; exact Tc.d
        have bt : Hb tt = some (.lst ((trc ++ [kd]).map V.int)) := by rw [← hHb, upd_same]
        refine ⟨dd, .dK (kvsOf sdc), bd, trivial, fun od => ?_⟩
        refine ⟨.ref dd, rfl, dd, od, rfl, .inl ⟨kvsOf sdc, upd_same, fun D0 hD0 => ?_⟩⟩
        have nD : D0 ≠ dd := fun z => by rw [z, upd_same] at hD0; cases hD0
        have hD0b : Hb D0 = none := by rw [upd_ne nD] at hD0; exact hD0
        have nDt : D0 ≠ tt := fun z => by rw [z, bt] at hD0b; cases hD0b
        have nDl : D0 ≠ l := fun z => by
          have := kb l _ hlc ldd ltt
          rw [z, this] at hD0b; cases hD0b
        have gD : G D0 = none := by
          cases z : G D0 with
          | none => rfl
          | some o =>
            have := (Sc.next kb).sub _ _ z
            rw [hD0b] at this; cases this
        refine lc_it (walk_keys dd od (kvsOf sdc)) (fun i Hi => Hi = upd (upd Hb dd (.frz od (.dK (kvsOf sdc)))) D0 (.lst ((Ku.on (sdc.take i) kd).map V.int))) rfl (fun i Hi _ q => ?_) (fun i x Hi Hi' hi q y => ?_) (fun Hi q => ?_)
        · rw [q, upd_ne (Ne.symm nD), upd_same]
        · subst q
          obtain ⟨rfl, kx, v0', hkx, rfl⟩ := y
          unfold kvsOf at hkx
          rw [List.getElem?_map] at hkx
          obtain ⟨p, hp1, hp2⟩ := Option.map_eq_some_iff.mp hkx
          cases hp2
          obtain ⟨hil2, hie2⟩ := List.getElem?_eq_some_iff.mp hp1
          have htake : sdc.take (i + 1) = sdc.take i ++ [p] := by rw [List.take_succ, hp1]; rfl
          have hat : Ku.at_ sdc p.1 = some p.2 := (Ku.at_mem hsc.nd).mpr (by rw [← hie2]; exact List.getElem_mem hil2)
          have hon : Ku.on (sdc.take (i + 1)) kd = Ku.on (sdc.take i) kd ++ if p.2 = kd then [p.1] else [] := by
            rw [htake]
            unfold Ku.on
            rw [List.filter_append, List.map_append]
            by_cases z : p.2 = kd
            · rw [if_pos z]; simp [z]
            · rw [if_neg z]; simp [z]
          refine ⟨rfl, ?_⟩
          refine ⟨.ref dd, rfl, V.int p.1, rfl, dd, V.int p.2, rfl, ?_, .int kd, rfl, none, G, .int p.2, .int kd, decide (p.2 = kd), ?_, rti, rti, cmp_eqI, _, rfl, ?_⟩
          · have q1 : (upd (upd Hb dd (.frz od (.dK (kvsOf sdc)))) D0 (.lst ((Ku.on (sdc.take i) kd).map V.int))) dd = some (.frz od (.dK (kvsOf sdc))) := by rw [upd_ne (Ne.symm nD), upd_same]
            have q2 : valV (kvsOf sdc) (Sum.inl p.1) = some (V.int p.2) := by rw [kvs_val, hat]; rfl
            rw [← q2]
            exact .inl ⟨_, _, .inr ⟨_, q1⟩, rfl, rfl⟩
          · intro x o hx
            have h1 := (Sc.next kb).sub x o hx
            rw [upd_ne (fun z => by rw [z, gD] at hx; cases hx), upd_ne (fun z => by rw [z, S.gd] at hx; cases hx)]
            exact h1
          · by_cases z : p.2 = kd
            · rw [decide_eq_true z]
              dsimp only
              rw [if_pos rfl]
              refine ⟨V.int p.1, rfl, _, upd_same, ?_, ?_⟩
              · rw [List.length_map, line]
                have : (Ku.on (sdc.take i) kd).length ≤ sdc.length := by
                  unfold Ku.on
                  rw [List.length_map]
                  exact Nat.le_trans (List.length_filter_le _ _) (by rw [List.length_take]; omega)
                omega
              · rw [upd_upd, hon, if_pos z, List.map_append]; rfl
            · rw [decide_eq_false z]
              dsimp only
              rw [if_neg (by decide), hon, if_neg z, List.append_nil]
        · subst q
          have eall : Ku.on (sdc.take (kvsOf sdc).length) kd = Ku.on sdc kd := by unfold kvsOf; rw [List.length_map, List.take_length]
          rw [eall]
          refine ⟨by rw [upd_ne (Ne.symm nD), upd_same], ?_⟩
          generalize hH6 : upd (upd (upd Hb dd (.frz od (.dK (kvsOf sdc)))) D0 (.lst ((Ku.on sdc kd).map V.int))) dd (.dK (kvsOf sdc)) = H6
          have k6 : Kept dd tt Hb H6 := fun x o hx n1 n2 => by
            rw [← hH6, upd_ne n1, upd_ne (fun z => by rw [z, hD0b] at hx; cases hx), upd_ne n1]; exact hx
          have d6 : H6 dd = some (.dK (kvsOf sdc)) := by rw [← hH6, upd_same]
          have t6 : H6 tt = some (.lst ((trc ++ [kd]).map V.int)) := by rw [← hH6, upd_ne (Ne.symm S.ne), upd_ne (Ne.symm nDt), upd_ne (Ne.symm S.ne)]; exact bt
          have D6 : H6 D0 = some (.lst ((Ku.on sdc kd).map V.int)) := by rw [← hH6, upd_ne nD, upd_same]
          have kc6 := (kc.trans kb).trans k6
          have l6 := k6 l _ (kb l _ hlc ldd ltt) ldd ltt
          refine ⟨.ref D0, rfl, none, G, [.list ((Ku.on sdc kd).map .int)], .int (((Ku.on sdc kd).map PyData.int).length : Nat), false, (S.next kc6).sub, ⟨⟨D0, _, rfl, D6, Rps.ofInts _⟩, trivial⟩, rfl, fun u H7 res => ?_⟩
          obtain ⟨s7, res⟩ := res
          have hu7 : u = .int (((Ku.on sdc kd).map PyData.int).length : Nat) := by
            rcases res with ⟨_, r | ⟨_, _, _, _, e, _⟩⟩ | ⟨z, _⟩
            · cases r; rfl
            · cases e
            · cases z
          subst hu7
          rw [List.length_map]
          refine ⟨vp, rfl, .int kd, rfl, .int t, rfl, call_int (ds := [P, .int kd, .int t]) rfl ((S.next kc6).sub.trans s7) (.cons S.rp (.cons (.int _) (.cons (.int _) .nil))) es fun H8 s8 => ?_⟩
          have u8 : Sub H6 H8 := s7.trans s8
          have kc8 := kc6.trans (Kept.of u8)
          refine ⟨none, G, .int ((Ku.on sdc kd).length : Nat), .int cap, decide (((Ku.on sdc kd).length : Int) < cap), (S.next kc8).sub, rti, rti, cmp_lt, _, rfl, ?_⟩
          by_cases hlt : ((Ku.on sdc kd).length : Int) < cap
          · rw [if_pos hlt] at hg
            cases hg
            rw [decide_eq_true hlt, if_pos rfl]
            refine ⟨.int kd, rfl, .ref dd, rfl, .int n, rfl, dd, _, rfl, DPut.k (k := Sum.inl n) (u8 _ _ d6) (by unfold kvsOf; rw [List.length_map, line]; omega), ?_⟩
            rw [kvs_put]
            exact kk _ (kc8.trans .updD) ⟨upd_same, by rw [upd_ne (Ne.symm S.ne)]; exact u8 _ _ t6⟩
          · rw [if_neg hlt] at hg
            rw [decide_eq_false hlt, if_neg (by decide)]
            obtain ⟨r, hr1, hr2⟩ := Option.bind_eq_some_iff.mp hg
            refine ⟨.ref D0, rfl, D0, rfl, ⟨_, .of (u8 _ _ D6)⟩, ?_⟩
            refine for_list (xs := (Ku.on sdc kd).map V.int) (fun i σ Hd => ∃ sde tre y8, σ = plS a dd tt n vp vc t (some (.int kd)) y8 (some (.ref D0)) ∧ Kept dd tt H Hd ∧ Hd l = some (.lst (ks.map .int)) ∧ Hd D0 = some (.lst ((Ku.on sdc kd).map V.int)) ∧ Sit Hd dd tt sde tre ∧ Ku.SdI (okN P cs t) sde ∧ Ku.TrI okK tre ∧
              Ku.goOn (Ku.place (cfgD P cs t) j) ((Ku.on sdc kd).drop i) sde tre = some r) ⟨sdc, trc ++ [kd], x8, rfl, kc8, u8 _ _ l6, u8 _ _ D6, ⟨u8 _ _ d6, u8 _ _ t6⟩, hsc, ht2, hr1⟩ (fun i σ Hd _ q => ?_) (fun i x σ Hd hx q => ?_) (fun σ Hd q => ?_)
            · obtain ⟨_, _, _, _, _, _, q, _⟩ := q
              exact .of q
            · obtain ⟨sde, tre, y8, rfl, ke, hle, hDe, Te, hse, hte, hgo⟩ := q
              rw [List.getElem?_map] at hx
              obtain ⟨o, ho, rfl⟩ := Option.map_eq_some_iff.mp hx
              obtain ⟨hil3, hie3⟩ := List.getElem?_eq_some_iff.mp ho
              have hdrop3 : (Ku.on sdc kd).drop i = o :: (Ku.on sdc kd).drop (i + 1) := by rw [← hie3]; exact List.drop_eq_getElem_cons hil3
              have hom : o ∈ Ku.on sdc kd := by rw [← hie3]; exact List.getElem_mem hil3
              have oko := hsc.ok o (Ku.on_keys hom)
              rw [hdrop3, Ku.goOn] at hgo
              obtain ⟨q, hq1, hq2⟩ := Option.bind_eq_some_iff.mp hgo
              have kq := Ku.place_keeps (T := okK) (fun n h => h.kinds) j o sde tre q oko hse hte hq1
              refine ⟨.ref a, rfl, .ref dd, rfl, .int o, rfl, .ref tt, rfl, ?_⟩
              refine ⟨G, a, dd, tt, vp, vc, P, cs, t, o, sde, tre, q.1, q.2.1, q.2.2, rfl, S.next ke, Te, oko, hse, hte, hq1, fun H9 k9 T9 => ⟨_, rfl, ?_⟩⟩
              cases hqb : q.1 with
              | true =>
                rw [hqb, if_pos rfl] at hq2
                cases hq2
                rw [hqb, if_pos rfl] at hr2
                cases hr2
                rw [if_pos rfl]
                refine ⟨.int kd, rfl, .ref dd, rfl, .int n, rfl, dd, _, rfl, DPut.k (k := Sum.inl n) T9.d (by have := sd_len kq.1 S.cl; unfold kvsOf; rw [List.length_map, line]; omega), ?_⟩
                rw [kvs_put]
                exact kk _ ((ke.trans k9).trans .updD) ⟨upd_same, by rw [upd_ne (Ne.symm S.ne)]; exact T9.t⟩
              | false =>
                rw [hqb, if_neg (by decide)] at hq2
                rw [if_neg (by decide)]
                exact ⟨q.2.1, q.2.2, _, rfl, ke.trans k9, k9 _ _ hle ldd ltt, k9 _ _ hDe nD nDt, T9, kq.1, kq.2, hq2⟩
            · obtain ⟨sde, tre, y8, rfl, ke, hle, hDe, Te, hse, hte, hgo⟩ := q
              rw [List.length_map, List.drop_length, Ku.goOn] at hgo
              cases hgo
              rw [if_neg (by intro z; cases z)] at hr2
              exact ⟨sde, tre, _, _, _, rfl, ke, hle, Te, hse, hte, hr2⟩
    · obtain ⟨sdc, trc, x7, x8, x9, rfl, kc, hlc, Tc, hsc, htc, hg⟩ := q
      rw [List.length_map, List.drop_length, Ku.goKs] at hg
      cases hg
      exact kk _ kc Tc
  all_goals first | (intro z; cases z; done) | (intro m z; cases z; done)
end Fs

set_option Elab.async false
set_option linter.all false
set_option maxRecDepth 100000
set_option maxHeartbeats 8000000
set_option pp.maxSteps 300
set_option pp.deepTerms.threshold 6
namespace Fs
open PySem L2 K1
abbrev nSt : List Str := ["pool", "claims", "time", "seated", "number", "tried", "beside", "other"]
def ir_seat_claims : ISs := (.cons (.set 3 (.blt .dnew .nil))
  (.cons (.for (.v 4) (.seq (.call "find_active" FNo (.cons (.var 1) (.cons (.var 2) .nil))))
  (.cons (.set 5 (.lst .nil))
  (.cons (.ite (.not (.call "find_place" FNo (.cons (.tup (.cons (.var 0) (.cons (.var 1) (.cons (.var 2) .nil)))) (.cons (.var 3) (.cons (.var 4) (.cons (.var 5) .nil))))))
  (.cons (.setLc 6 (.var 7) (.v 7) (.seq (.var 3)) (.cons (.cmp .In (.ix (.var 3) (.var 7)) (.var 5)) .nil))
  (.cons (.ret (.tup (.cons (.var 3) (.cons (.blt .tuple (.cons (.blt .srt (.cons (.bin .Add (.var 6) (.lst (.cons (.var 4) .nil))) .nil)) .nil)) .nil))))
  .nil))
  .nil)
  .nil)))
  (.cons (.ret (.tup (.cons (.var 3) (.cons .non .nil))))
  .nil)))
def stS (vp vc : V) (t : Int) (x3 x4 x5 x6 x7 : Option V) : L2.St := [some vp, some vc, some (.int t), x3, x4, x5, x6, x7]
def OutV (G H H1 : Hp) (o : Option (List Int)) (v : V) : Prop := match o with
  | none => v = .non
  | some S => ∃ q, v = .ref q ∧ TupAt H1 q (S.map .int) ∧ (G q = none → H q = none)
def spSt : GSp := fun vs H Q => ∃ (G : Hp) (vp vc : V) (P : D) (cs : List D) (t : Int) (act : List Int) (fr : Bool) (sd' : Ku.Sd) (o : Option (List Int)),
  vs = [vp, vc, .int t] ∧ Sub G H ∧ Rp none G vp P ∧ Rp none G vc (.tuple cs) ∧ cs.length ≤ 1000 ∧ F_find_active [.tuple cs, .int t] none = some ((.list (act.map .int), fr), none) ∧ (∀ n ∈ act, okN P cs t n) ∧
  Ku.seat (cfgD P cs t) act [] = some (sd', o) ∧
  ∀ (H1 : Hp) (T dd : Addr) (v : V), Sub H H1 → H T = none → H dd = none → H1 T = some (.tup [.ref dd, v]) → H1 dd = some (.dK (kvsOf sd')) → OutV G H H1 o v → Q (.ref T) H1
theorem cmp_inL {k : Int} {tr : List Int} : cmpD .In (.int k) (.list (tr.map .int)) = some (decide (k ∈ tr)) := by
  show (if okEq (.int k) (.list (tr.map .int)) = true then some ((tr.map PyData.int).any fun z => PyData.eqv z (.int k)) else none) = _
  rw [if_pos okEq_inL, any_ints]
theorem gfn_seat {W : Wd} {k : Nat} {f : Addr} {name qual : Str} {params : Arguments} {body : List Stmt} {scope : Scope} {dV kV doc pm cdv ct oc : Value} {an od : Option Addr} {osl : Array (Option Value)} (E : Em)
    (lk : W.K.lookup f = some ⟨oc, od, .func (PySem.W.fnOf name qual params body scope dV kV doc pm an cdv ct), osl⟩)
    (hcd : PySem.W.codeIn W.K cdv qual = true) (sc : FnScope nSt ["pool", "claims", "time"] scope) (bl : ∀ x, x ∈ bnames → W.mg x = none)
    (he : (emSs nSt ir_seat_claims E).1 = body) (ok : okSs nSt scope ir_seat_claims E = true)
    (fa : Call1 W k "find_active" 2 (spF F_find_active 2)) (fp : Call1 W k "find_place" 4 (spPl 12)) :
    GFn W (k + 1) f (PySem.W.fnOf name qual params body scope dV kV doc pm an cdv ct) ["pool", "claims", "time"] spSt := by
  subst he
  refine gfn_of lk hcd sc (fun vs H Q h => ?_) fun A outer s H vs Q room hgd promise => ?_
  · obtain ⟨_, _, _, _, _, _, _, _, _, _, rfl, _⟩ := h
    rfl
  have C : Cd (gx W nSt qual scope f cdv A outer s H) (gx W nSt qual scope f cdv A outer s H).N scope k := ⟨rfl, sc.nd, rfl, rfl, room, hgd, bl⟩
  have B : Bd (gx W nSt qual scope f cdv A outer s H) := bd0 rfl fun _ => rfl
  have hu : (gx W nSt qual scope f cdv A outer s H).A.units + 1 < cLine := by have := C.un; omega
  unfold ir_seat_claims at ok
  rw [okSs, okSs, okSs] at ok
  obtain ⟨o1, ok⟩ := and1 ok
  obtain ⟨o2, ok⟩ := and1 ok
  obtain ⟨o3, _⟩ := and1 ok
  rw [okS] at o1
  rw [okS] at o2
  obtain ⟨_, o1⟩ := and1 o1
  obtain ⟨h3, _⟩ := and1 o1
  obtain ⟨p1, o2⟩ := and1 o2
  obtain ⟨t4, o2⟩ := and1 o2
  obtain ⟨_, o2⟩ := and1 o2
  simp only [okSr, okE, okEs, Bool.and_eq_true] at p1
  obtain ⟨⟨v1, v2, _⟩, ga, _⟩ := p1
  rw [okSs, okSs] at o2
  obtain ⟨a1, o2⟩ := and1 o2
  obtain ⟨a2, _⟩ := and1 o2
  rw [okS] at a1
  obtain ⟨_, a1⟩ := and1 a1
  obtain ⟨h5, _⟩ := and1 a1
  rw [okS] at a2
  obtain ⟨c1, a2⟩ := and1 a2
  obtain ⟨a2, _⟩ := and1 a2
  simp only [okE, okEs, Bool.and_eq_true] at c1
  obtain ⟨⟨⟨⟨v0, _⟩, _⟩, v3, v4, v5, _⟩, gp, _⟩ := c1
  rw [okSs, okSs] at a2
  obtain ⟨b1, a2⟩ := and1 a2
  obtain ⟨b2, _⟩ := and1 a2
  rw [okS] at b1
  obtain ⟨lc, b1⟩ := and1 b1
  obtain ⟨h6, b1⟩ := and1 b1
  obtain ⟨h6l, b1⟩ := and1 b1
  obtain ⟨hkf, b1⟩ := and1 b1
  obtain ⟨ln2, ln3⟩ := and1 b1
  rw [okS, okE, okEs, okE, okEs, okE] at b2
  · obtain ⟨b2, _⟩ := and1 b2
    obtain ⟨_, b2⟩ := and1 b2
    obtain ⟨b2, _⟩ := and1 b2
    obtain ⟨b2, gt⟩ := and1 b2
    rw [okEs, okE] at b2
    · obtain ⟨b2, _⟩ := and1 b2
      obtain ⟨b2, gs⟩ := and1 b2
      rw [okEs, okE] at b2
      obtain ⟨b2, _⟩ := and1 b2
      obtain ⟨v6, _⟩ := and1 b2
      rw [okE] at v6
      obtain ⟨ft, fdt, pst, Ga, hma, hka, hba⟩ := fa
      obtain ⟨ft3, fdt3, pst3, Gp, hmp, hkp, hbp⟩ := fp
      obtain ⟨l3, l3'⟩ := loc_of h3
      obtain ⟨l5, l5'⟩ := loc_of h5
      obtain ⟨l6, l6'⟩ := loc_of h6
      have hy : (gx W nSt qual scope f cdv A outer s H).env.scope.names.lookup (nm nSt 6) = some .local := pl_of h6l
      have lcok := lc
      rw [okE] at lcok
      obtain ⟨w7, lcok⟩ := and1 lcok
      obtain ⟨lcok, lcok2⟩ := and1 lcok
      obtain ⟨_, lcok2⟩ := and1 lcok2
      obtain ⟨_, lcok2⟩ := and1 lcok2
      obtain ⟨ifs, _⟩ := and1 lcok2
      rw [okE] at w7
      simp only [okEs, okE, Bool.and_eq_true] at ifs
      obtain ⟨⟨⟨w3, _⟩, w5⟩, _⟩ := ifs
      obtain ⟨q1, q2, q3, _, _⟩ := lc_parts (.var 7) (.v 7) (.seq (.var 3)) (.cons (.cmp .In (.ix (.var 3) (.var 7)) (.var 5)) .nil) (X := gx W nSt qual scope f cdv A outer s H) C lc (by simp [askE, askSr, askEs])
      refine ⟨_, pss_cons (ps_set C.nd l3 l3' pe_dnewK (by rfl) (.inl rfl)) (pss_cons (ps_for B.passes C.calm (pi_list (pe_gcall Ga C.room C.gd (gl_of C ga).1 hma hka hba (pa_cons (pv C v1) (pa_cons (pv C v2) pa_nil (by rfl)) (by rfl)) (gl_of C ga).2 (by rfl) (by rfl)))
          (pg_tr C.nd C.calm (.v 4) _ (tg_of C B t4))
          (pss_cons (ps_set C.nd l5 l5' (pe_lst pa_nil) (by rfl) (.inl rfl))
          (pss_cons (ps_if (pt_not (pt_val (pe_gcall Gp C.room C.gd (gl_of C gp).1 hmp hkp hbp (pa_cons (pe_tup (pa_cons (pv C v0) (pa_cons (pv C v1) (pa_cons (pv C v2) pa_nil (by rfl)) (by rfl)) (by rfl))) (pa_cons (pv C v3) (pa_cons (pv C v4) (pa_cons (pv C v5) pa_nil (by rfl)) (by rfl)) (by rfl)) (by rfl)) (gl_of C gp).2 (by rfl) (by rfl))))
            (pss_cons (ps_lock (ps_setLc C.calm C.nd l6 hy (sw_true (kind_of hkf) hy ln2 (by simpa using ln3)) (pi_keys (pv C v3)) q2 q3
                (fun s H A cl fp => pts_one (pt_cmpR (op_cmp .In (C.blk _ s H A cl fp).un) (pe_dget (Nat.lt_of_le_of_lt (Nat.add_le_add_left (by decide) _) (C.blk _ s H A cl fp).un) (pv (C.blk _ s H A cl fp) w3) (pv (C.blk _ s H A cl fp) w7) (fun _ _ => rfl)) (pv (C.blk _ s H A cl fp) w5) (by rfl)))
                (fun s H A cl fp => pv (C.blk _ s H A cl fp) w7) (by intro _; rfl)))
            (pss_cons (ps_ret (pe_tup (pa_cons (pv C v3) (pa_cons (pe_callTy b_tuple (gl_of C gt).1 (C.no _) PyProof.Rows.boot_tuple (pa_cons (pe_callB b_srt (gl_of C gs).1 (C.no _) PyProof.Rows.boot_sorted (pa_cons (pe_op (op_bin .Add) (pv C v6) (pe_lst (pa_cons (pv C v4) pa_nil (by rfl)))) pa_nil (by rfl)) (by decide) (gl_of C gs).2 (by rfl) (by rfl)) pa_nil (by rfl)) (by decide) (gl_of C gt).2 (by rfl) (by rfl)) pa_nil (by rfl)) (by rfl)))) pss_nil)) pss_nil) pss_nil)) (by intro _; rfl))
          (pss_cons (ps_ret (pe_tup (pa_cons (pv C v3) (pa_cons pe_non pa_nil (by rfl)) (by rfl)))) pss_nil)), ?_⟩
      obtain ⟨G, vp, vc, P, cs, t, act, fr, sd', o, rfl, gh, rp, rc, hcl, ea, hact, hseat, kk⟩ := promise
      have line : sizeLine = 16777216 := sizeLine_eq
      have z3 : 3 ≤ sizeLine := by rw [line]; omega
      intro dd hdd
      have gnone : ∀ x, H x = none → G x = none := fun x hx => by
        cases z : G x with
        | none => rfl
        | some u => have := gh _ _ z; rw [hx] at this; cases this
      have gdd := gnone dd hdd
      have s1 : Sub H (upd H dd (.dK [])) := .upd hdd
      refine ⟨vc, rfl, .int t, rfl, call_ints (ds := [.tuple cs, .int t]) rfl (gh.trans s1) (.cons rc (.cons (.int _) .nil)) ea fun l H2 s2 hl2 nl => ⟨l, rfl, ⟨_, .of hl2⟩, ?_⟩⟩
      have ldd : l ≠ dd := fun z => by
        have := nl (by rw [z]; exact gdd)
        rw [z, upd_same] at this; cases this
      refine for_list (xs := act.map V.int) (fun i σ Hc => ∃ sdc x4 x5 x6 x7, σ = stS vp vc t (some (.ref dd)) x4 x5 x6 x7 ∧ Sub H Hc ∧ Hc l = some (.lst (act.map .int)) ∧ Hc dd = some (.dK (kvsOf sdc)) ∧ Ku.SdI (okN P cs t) sdc ∧
        Ku.seat (cfgD P cs t) (act.drop i) sdc = some (sd', o)) ⟨[], none, none, none, none, rfl, s1.trans s2, hl2, s2 _ _ upd_same, ⟨List.nodup_nil, fun m hm => by cases hm⟩, hseat⟩ (fun i σ Hc _ q => ?_) (fun i x σ Hc hx q => ?_) (fun σ Hc q => ?_)
      · obtain ⟨_, _, _, _, _, _, _, q, _⟩ := q
        exact .of q
      · obtain ⟨sdc, x4, x5, x6, x7, rfl, sc1, hlc, hdc, hsc, hg⟩ := q
        rw [List.getElem?_map] at hx
        obtain ⟨n, hn, rfl⟩ := Option.map_eq_some_iff.mp hx
        obtain ⟨hil, hie⟩ := List.getElem?_eq_some_iff.mp hn
        have hdrop : act.drop i = n :: act.drop (i + 1) := by rw [← hie]; exact List.drop_eq_getElem_cons hil
        have okn : okN P cs t n := hact n (by rw [← hie]; exact List.getElem_mem hil)
        rw [hdrop, Ku.seat] at hg
        obtain ⟨q, hq1, hq2⟩ := Option.bind_eq_some_iff.mp hg
        refine ⟨Nat.zero_le _, fun tt htt => ?_⟩
        have ntd : dd ≠ tt := fun z => by rw [← z, hdc] at htt; cases htt
        have ntl : l ≠ tt := fun z => by rw [← z, hlc] at htt; cases htt
        have Htt : H tt = none := by
          cases z : H tt with
          | none => rfl
          | some u => have := sc1 _ _ z; rw [htt] at this; cases this
        refine ⟨vp, rfl, vc, rfl, .int t, rfl, z3, fun a ha => ⟨.ref dd, rfl, .int n, rfl, .ref tt, rfl, ?_⟩⟩
        have u1 : Sub Hc (upd Hc tt (.lst [])) := .upd htt
        have u2 := u1.trans (Sub.upd (o := .tup [vp, vc, .int t]) ha)
        have nad : a ≠ dd := fun z => by
          have := u1 _ _ hdc
          rw [z, this] at ha; cases ha
        have nat : a ≠ tt := fun z => by rw [z, upd_same] at ha; cases ha
        have kq := Ku.place_keeps (T := okK) (fun n h => h.kinds) 12 n sdc [] q okn hsc ⟨List.nodup_nil, fun k hk => by cases hk⟩ hq1
        refine ⟨G, a, dd, tt, vp, vc, P, cs, t, n, sdc, [], q.1, q.2.1, q.2.2, rfl, ⟨upd_same, (gh.trans sc1).trans u2, rp, rc, gdd, gnone tt Htt, ntd, ⟨nad, nat⟩, hcl⟩, ⟨u2 _ _ hdc, by rw [upd_ne (Ne.symm nat), upd_same]; rfl⟩, okn, hsc, ⟨List.nodup_nil, fun k hk => by cases hk⟩, hq1, fun H9 k9 T9 => ⟨_, rfl, ?_⟩⟩
        have s9 : Sub H H9 := fun x u hx => k9 x u (u2 _ _ (sc1 x u hx)) (fun z => by rw [z, hdd] at hx; cases hx) (fun z => by rw [z, Htt] at hx; cases hx)
        cases hqb : q.1 with
        | true =>
          rw [hqb, if_pos rfl] at hq2
          dsimp only
          rw [if_neg (by decide)]
          exact ⟨q.2.1, _, _, _, _, rfl, s9, k9 _ _ (u2 _ _ hlc) ldd ntl, T9.d, kq.1, hq2⟩
        | false =>
          rw [hqb, if_neg (by decide)] at hq2
          dsimp only
          rw [if_pos (by decide)]
          cases hq2
          obtain ⟨hsq, htq⟩ := kq
          generalize hsdq : q.2.1 = sdq at *
          generalize htrq : q.2.2 = trq at *
          have l2 := sd_len hsq hcl
          have g9 : Sub G H9 := gh.trans s9
          refine ⟨dd, .dK (kvsOf sdq), T9.d, trivial, fun od => ?_⟩
          refine ⟨.ref dd, rfl, dd, od, rfl, .inl ⟨kvsOf sdq, upd_same, fun D0 hD0 => ?_⟩⟩
          have nD : D0 ≠ dd := fun z => by rw [z, upd_same] at hD0; cases hD0
          have hD0b : H9 D0 = none := by rw [upd_ne nD] at hD0; exact hD0
          have nDt : D0 ≠ tt := fun z => by rw [z, T9.t] at hD0b; cases hD0b
          have gD : G D0 = none := by
            cases z : G D0 with
            | none => rfl
            | some o =>
              have := g9 _ _ z
              rw [hD0b] at this; cases this
          refine lc_it (walk_keys dd od (kvsOf sdq)) (fun i Hi => Hi = upd (upd H9 dd (.frz od (.dK (kvsOf sdq)))) D0 (.lst ((Ku.beside (sdq.take i) trq).map V.int))) rfl (fun i Hi _ q => ?_) (fun i x Hi Hi' hi q y => ?_) (fun Hi q => ?_)
          · rw [q, upd_ne (Ne.symm nD), upd_same]
          · subst q
            obtain ⟨rfl, kx, v0', hkx, rfl⟩ := y
            unfold kvsOf at hkx
            rw [List.getElem?_map] at hkx
            obtain ⟨p, hp1, hp2⟩ := Option.map_eq_some_iff.mp hkx
            cases hp2
            obtain ⟨hil2, hie2⟩ := List.getElem?_eq_some_iff.mp hp1
            have htake : sdq.take (i + 1) = sdq.take i ++ [p] := by rw [List.take_succ, hp1]; rfl
            have hat : Ku.at_ sdq p.1 = some p.2 := (Ku.at_mem hsq.nd).mpr (by rw [← hie2]; exact List.getElem_mem hil2)
            have hon : Ku.beside (sdq.take (i + 1)) trq = Ku.beside (sdq.take i) trq ++ if p.2 ∈ trq then [p.1] else [] := by
              rw [htake]
              unfold Ku.beside
              rw [List.filter_append, List.map_append]
              by_cases z : p.2 ∈ trq
              · rw [if_pos z]; simp [z]
              · rw [if_neg z]; simp [z]
            refine ⟨rfl, ?_⟩
            refine ⟨.ref dd, rfl, V.int p.1, rfl, dd, V.int p.2, rfl, ?_, .ref tt, rfl, none, G, .int p.2, .list (trq.map .int), decide (p.2 ∈ trq), ?_, rti, ⟨tt, trq.map V.int, rfl, ?_, Rps.ofInts _⟩, cmp_inL, _, rfl, ?_⟩
            · have q1 : (upd (upd H9 dd (.frz od (.dK (kvsOf sdq)))) D0 (.lst ((Ku.beside (sdq.take i) trq).map V.int))) dd = some (.frz od (.dK (kvsOf sdq))) := by rw [upd_ne (Ne.symm nD), upd_same]
              have q2 : valV (kvsOf sdq) (Sum.inl p.1) = some (V.int p.2) := by rw [kvs_val, hat]; rfl
              rw [← q2]
              exact .inl ⟨_, _, .inr ⟨_, q1⟩, rfl, rfl⟩
            · intro x o hx
              have h1 := g9 x o hx
              rw [upd_ne (fun z => by rw [z, gD] at hx; cases hx), upd_ne (fun z => by rw [z, gdd] at hx; cases hx)]
              exact h1
            · rw [upd_ne (Ne.symm nDt), upd_ne (Ne.symm ntd)]; exact T9.t
            · by_cases z : p.2 ∈ trq
              · rw [decide_eq_true z]
                dsimp only
                rw [if_pos rfl]
                refine ⟨V.int p.1, rfl, _, upd_same, ?_, ?_⟩
                · rw [List.length_map, line]
                  have : (Ku.beside (sdq.take i) trq).length ≤ sdq.length := by
                    unfold Ku.beside
                    rw [List.length_map]
                    exact Nat.le_trans (List.length_filter_le _ _) (by rw [List.length_take]; omega)
                  omega
                · rw [upd_upd, hon, if_pos z, List.map_append]; rfl
              · rw [decide_eq_false z]
                dsimp only
                rw [if_neg (by decide), hon, if_neg z, List.append_nil]
          · subst q
            have eall : Ku.beside (sdq.take (kvsOf sdq).length) trq = Ku.beside sdq trq := by unfold kvsOf; rw [List.length_map, List.take_length]
            rw [eall]
            refine ⟨by rw [upd_ne (Ne.symm nD), upd_same], ?_⟩
            generalize hH6 : upd (upd (upd H9 dd (.frz od (.dK (kvsOf sdq)))) D0 (.lst ((Ku.beside sdq trq).map V.int))) dd (.dK (kvsOf sdq)) = H6
            have d6 : H6 dd = some (.dK (kvsOf sdq)) := by rw [← hH6, upd_same]
            have D6 : H6 D0 = some (.lst ((Ku.beside sdq trq).map V.int)) := by rw [← hH6, upd_ne nD, upd_same]
            have s6 : Sub H H6 := fun x u hx => by
              have h1 := s9 x u hx
              have n1 : x ≠ dd := fun z => by rw [z, hdd] at hx; cases hx
              rw [← hH6, upd_ne n1, upd_ne (fun z => by rw [z, hD0b] at h1; cases h1), upd_ne n1]
              exact h1
            have hbl : (Ku.beside sdq trq).length ≤ sdq.length := by
              unfold Ku.beside
              rw [List.length_map]
              exact List.length_filter_le _ _
            generalize Ku.beside sdq trq = bs at *
            refine ⟨.ref dd, rfl, .ref D0, rfl, .int n, rfl, (by show 1 ≤ sizeLine; rw [line]; omega), fun e he => ?_⟩
            have s7 : Sub H6 (upd H6 e (.lst [.int n])) := .upd he
            refine ⟨none, G, .list (bs.map .int), .list ([n].map .int), .list ((bs ++ [n]).map .int), true, (gh.trans s6).trans s7, ⟨D0, _, rfl, s7 _ _ D6, Rps.ofInts _⟩, ⟨e, _, rfl, upd_same, Rps.ofInts [n]⟩, ?_, fun u H8 res => ?_⟩
            · show (if (bs.map PyData.int).length + ([n].map PyData.int).length ≤ sizeLine then _ else _) = _
              rw [if_pos (by simp only [List.length_map, List.length_cons, List.length_nil]; rw [line]; omega), List.map_append]
            obtain ⟨s8, res⟩ := res
            rcases res with ⟨z, _⟩ | ⟨_, w, xs, ds, rfl, ed, hw, hw1, rw1⟩
            · cases z
            cases ed
            have g8 := ((gh.trans s6).trans s7).trans s8
            refine ⟨none, G, [.list ((bs ++ [n]).map .int)], .list ((srtI (bs ++ [n])).map .int), true, g8, ⟨⟨w, xs, rfl, hw1, rw1⟩, trivial⟩, ?_, fun u H10 res => ?_⟩
            · show (srtD _).map _ = _
              unfold srtD
              rw [intsOf_map]; rfl
            obtain ⟨s10, res⟩ := res
            rcases res with ⟨z, _⟩ | ⟨_, w2, xs2, ds2, rfl, ed, hw2, hw3, rw2⟩
            · cases z
            cases ed
            refine ⟨none, G, [.list ((srtI (bs ++ [n])).map .int)], .tuple ((srtI (bs ++ [n])).map .int), false, g8.trans s10, ⟨⟨w2, xs2, rfl, hw3, rw2⟩, trivial⟩, rfl, fun u H11 res => ?_⟩
            obtain ⟨s11, res⟩ := res
            have sH : Sub H H11 := (((s6.trans s7).trans s8).trans s10).trans s11
            have s611 : Sub H6 H11 := ((s7.trans s8).trans s10).trans s11
            have out : ∃ q, u = .ref q ∧ TupAt H11 q ((srtI (bs ++ [n])).map .int) ∧ (G q = none → H q = none) := by
              rcases res with ⟨_, r | ⟨q, xs3, ds3, rfl, ed, hq, hq1, rq⟩⟩ | ⟨z, _⟩
              · cases r with
                | tup h r =>
                  rename_i q xs3
                  rw [r.ints (intsOf_map _)] at h
                  exact ⟨q, rfl, ((h.up g8).up s10).up s11, fun z => (h.there z).elim⟩
              · cases ed
                rw [rq.ints (intsOf_map _)] at hq1
                refine ⟨q, rfl, hq1, fun _ => ?_⟩
                cases z : H q with
                | none => rfl
                | some y =>
                  have := s10 _ _ (s8 _ _ (s7 _ _ (s6 _ _ z)))
                  rw [hq] at this; cases this
              · cases z
            obtain ⟨q5, rfl, hq5, hq6⟩ := out
            refine ⟨by show 2 ≤ sizeLine; rw [line]; omega, fun T hT => ?_⟩
            refine kk _ T dd (.ref q5) (sH.trans (.upd hT)) ?_ hdd upd_same ?_ ⟨q5, rfl, hq5.up (Sub.upd hT), hq6⟩
            · cases z : H T with
              | none => rfl
              | some y => have := sH _ _ z; rw [hT] at this; cases this
            · exact Sub.upd hT _ _ (s611 _ _ d6)
      · obtain ⟨sdc, x4, x5, x6, x7, rfl, sc1, hlc, hdc, hsc, hg⟩ := q
        rw [List.length_map, List.drop_length, Ku.seat] at hg
        cases hg
        refine ⟨.ref dd, rfl, by show 2 ≤ sizeLine; rw [line]; omega, fun T hT => ?_⟩
        refine kk _ T dd .non (sc1.trans (.upd hT)) ?_ hdd upd_same (Sub.upd hT _ _ hdc) rfl
        cases z : H T with
        | none => rfl
        | some y => have := sc1 _ _ z; rw [hT] at this; cases this
    all_goals first | (intro z; cases z; done) | (intro m z; cases z; done)
  all_goals first | (intro z; cases z; done) | (intro m z; cases z; done)
end Fs

set_option Elab.async false
set_option linter.all false
set_option maxRecDepth 100000
set_option maxHeartbeats 8000000
set_option pp.maxSteps 300
set_option pp.deepTerms.threshold 6
namespace Fs
open PySem L2 K1
abbrev nFi : List Str := ["pool", "claims", "time"]
abbrev ir_fit_at : ISs := (.cons (.ret (.isN (.ix (.call "seat_claims" FNo (.cons (.var 0) (.cons (.var 1) (.cons (.var 2) .nil)))) (.int 1)))) .nil)
def okNb (P : D) (cs : List D) (t n : Int) : Bool := decide (0 ≤ n) && (decide (n < (cs.length : Nat)) && match cs[n.toNat]? with
  | some c => (match kindsD P c with
    | some ks => ks.all fun k => decide (0 ≤ k) && (decide (k < (1000 : Nat)) && (inP P k && (seatsD0 P k t).isSome))
    | none => false)
  | none => false)
theorem okNb_ok {P : D} {cs : List D} {t n : Int} (h : okNb P cs t n = true) : okN P cs t n := by
  unfold okNb at h
  obtain ⟨h1, h⟩ := and1 h
  obtain ⟨h2, h⟩ := and1 h
  refine ⟨⟨of_decide_eq_true h1, of_decide_eq_true h2⟩, ?_⟩
  split at h
  · rename_i c hc
    split at h
    · rename_i ks hk
      refine ⟨c, ks, hc, hk, fun k hk => ?_⟩
      have := List.all_eq_true.mp h k hk
      obtain ⟨a1, a2⟩ := and1 this
      obtain ⟨a2, a3⟩ := and1 a2
      obtain ⟨a3, a4⟩ := and1 a3
      exact ⟨⟨of_decide_eq_true a1, of_decide_eq_true a2⟩, a3, Option.isSome_iff_exists.mp a4⟩
    · cases h
  · cases h
def actD (cs : List D) (t : Int) : Option (List Int) := match F_find_active [.tuple cs, .int t] none with
  | some ((.list xs, _), none) => intsOf xs
  | _ => none
theorem act_run {cs : List D} {t : Int} {act : List Int} (h : actD cs t = some act) : ∃ fr, F_find_active [.tuple cs, .int t] none = some ((.list (act.map .int), fr), none) := by
  unfold actD at h
  split at h
  · rename_i xs fr e
    exact ⟨fr, by rw [e, ints_eq h]⟩
  · cases h
/-- the seating of the claims -/
def seatF (P : D) (cs : List D) (t : Int) : Option (Ku.Sd × Option (List Int)) :=
  if good 60 P && (good 60 (.tuple cs) && decide (cs.length ≤ 1000)) then (actD cs t).bind fun act => if act.all (okNb P cs t) then Ku.seat (cfgD P cs t) act [] else none else none
def F_fit_at : Fn
  | [P, .tuple cs, .int t], p => (seatF P cs t).map fun r => ((.bool r.2.isNone, false), p)
  | _, _ => none
mutual
theorem Rp.noPen {pa : PA} {G : Hp} : ∀ {n : Nat} {v : V} {d : D}, good n d = true → Rp pa G v d → Rp none G v d
  | _, _, _, _, .non => .non
  | _, _, _, _, .bl b => .bl b
  | _, _, _, _, .int i => .int i
  | _, _, _, _, .str x => .str x
  | 0, _, _, g, .lst h r => by rw [good] at g <;> first | cases g | (intro _ _ z; cases z) | skip
  | n + 1, _, _, g, .lst h r => .lst h (Rps.noPen (by simpa [good] using g) r)
  | 0, _, _, g, .tup h r => by rw [good] at g <;> first | cases g | (intro _ _ z; cases z) | skip
  | n + 1, _, _, g, .tup h r => .tup h (Rps.noPen (by simpa [good] using g) r)
  | 0, _, _, g, .pen h => by cases g
  | n + 1, _, _, g, .pen h => by cases g
theorem Rps.noPen {pa : PA} {G : Hp} : ∀ {n : Nat} {vs : List V} {ds : List D}, goods n ds = true → Rps pa G vs ds → Rps none G vs ds
  | _, _, _, _, .nil => .nil
  | n, _, _, g, .cons r t => by
    rw [goods] at g
    obtain ⟨g1, g2⟩ := and1 g
    exact .cons (Rp.noPen g1 r) (Rps.noPen g2 t)
end
theorem seatF_out {P : D} {cs : List D} {t : Int} {r : Ku.Sd × Option (List Int)} (h : seatF P cs t = some r) : good 60 P = true ∧ good 60 (.tuple cs) = true ∧ cs.length ≤ 1000 ∧
    ∃ (act : List Int) (fr : Bool), F_find_active [.tuple cs, .int t] none = some ((.list (act.map .int), fr), none) ∧ (∀ n ∈ act, okN P cs t n) ∧ Ku.seat (cfgD P cs t) act [] = some r := by
  unfold seatF at h
  split at h
  · rename_i hg
    obtain ⟨g1, hg⟩ := and1 hg
    obtain ⟨g2, g3⟩ := and1 hg
    obtain ⟨act, ea, h⟩ := Option.bind_eq_some_iff.mp h
    split at h
    · rename_i ha
      obtain ⟨fr, e⟩ := act_run ea
      exact ⟨g1, g2, of_decide_eq_true g3, act, fr, e, fun n hn => okNb_ok (List.all_eq_true.mp ha n hn), h⟩
    · cases h
  · cases h
section
variable {W : Wd} {k : Nat} {f : Addr} {name qual : Str} {params : Arguments} {body : List Stmt} {scope : Scope} {dV kV doc pm cdv ct oc : Value} {an od : Option Addr} {osl : Array (Option Value)}
theorem gfn_fit (E : Em)
    (lk : W.K.lookup f = some ⟨oc, od, .func (PySem.W.fnOf name qual params body scope dV kV doc pm an cdv ct), osl⟩)
    (hcd : PySem.W.codeIn W.K cdv qual = true) (sc : FnScope nFi nFi scope) (bl : ∀ x, x ∈ bnames → W.mg x = none)
    (he : (emSs nFi ir_fit_at E).1 = body) (ok : okSs nFi scope ir_fit_at E = true) (fs : Call1 W k "seat_claims" 3 spSt) :
    GFn W (k + 1) f (PySem.W.fnOf name qual params body scope dV kV doc pm an cdv ct) nFi (spF F_fit_at 3) := by
  subst he
  refine gfn_of lk hcd sc (fun vs H Q h => ?_) fun A outer s H vs Q room hgd promise => ?_
  · obtain ⟨pa, G, ds, p, d, fr, p1, hl, gh, hp, rs, e, kk⟩ := h
    exact rs.len.trans hl
  have C : Cd (gx W nFi qual scope f cdv A outer s H) (gx W nFi qual scope f cdv A outer s H).N scope k := ⟨rfl, sc.nd, rfl, rfl, room, hgd, bl⟩
  simp only [okSs, okS, okE, okEs, Bool.and_eq_true] at ok
  obtain ⟨⟨⟨⟨v0, v1, v2, _⟩, gs, _⟩, _⟩, _⟩ := ok
  obtain ⟨ft, fdt, pst, Gs, hms, hks, hbs⟩ := fs
  refine ⟨_, pss_cons (ps_ret (pe_cmp (pc_isN (pe_ix ix_tup (pe_gcall Gs C.room C.gd (gl_of C gs).1 hms hks hbs (pa_cons (pv C v0) (pa_cons (pv C v1) (pa_cons (pv C v2) pa_nil (by rfl)) (by rfl)) (by rfl)) (gl_of C gs).2 (by rfl) (by rfl)) pe_int (fun _ _ => rfl))))) pss_nil, ?_⟩
  obtain ⟨pa, G, ds, p, d, fr, p1, hl, gh, hp, rs, e, kk⟩ := promise
  unfold F_fit_at at e
  split at e
  · rename_i P cs t
    obtain ⟨r, er, e⟩ := Option.map_eq_some_iff.mp e
    cases e
    obtain ⟨g1, g2, hcl, act, fra, ea, hact, hseat⟩ := seatF_out er
    match vs, rs with
    | [vp, vc, vt], .cons rp (.cons rc (.cons rt .nil)) =>
      cases rt
      refine ⟨vp, rfl, vc, rfl, .int t, rfl, G, vp, vc, P, cs, t, act, fra, r.1, r.2, rfl, gh, rp.noPen g1, rc.noPen g2, hcl, ea, hact, hseat, fun H1 T dd v s1 hT hdd h1 h2 ov => ?_⟩
      refine ⟨T, [.ref dd, v], 1, v, rfl, rfl, .of h1, rfl, ?_⟩
      refine kk _ H1 G (fun a o h _ => s1 a o h) .refl (gh.trans s1) (fun a o h => .inl h) (hp.heap s1) ?_
      rw [if_neg (by decide)]
      have : decide (v = V.non) = r.2.isNone := by
        cases z : r.2 with
        | none =>
          rw [z] at ov
          have ov : v = .non := ov
          rw [ov]; rfl
        | some S =>
          rw [z] at ov
          obtain ⟨q, rfl, _⟩ := ov
          rfl
      rw [this]
      exact .bl _
  · cases e
end
section
variable {W : Wd} {k : Nat} {st : Stmt}
theorem place_at {j : Nat} (d : DefAt W.K W.mg "find_place" st) (E : Em) (sc : FnScope nPl ["state", "seated", "number", "tried"] (defScope st)) (bl : ∀ x, x ∈ bnames → W.mg x = none) (he : (emSs nPl ir_find_place E).1 = defBody st) (ok : okSs nPl (defScope st) ir_find_place E = true)
    (fk : Call1 W k "find_kinds" 2 (spF F_find_kinds 2)) (fs : Call1 W k "find_seats" 3 (spF F_find_seats 3)) (fp : Call1 W k "find_place" 4 (spPl j)) (hb : BindsAt "find_place" st ["state", "seated", "number", "tried"]) : Call1 W (k + 1) "find_place" 4 (spPl (j + 1)) := by
  obtain ⟨f, fd, hm, F⟩ := d.of
  have b := F.binds hb
  obtain ⟨oc, od, kV, doc, pm, an, cdv, ct, osl, rfl, lk, hcd⟩ := F.ex
  exact ⟨f, _, _, gfn_place E lk hcd sc bl he ok fk fs fp, hm, F.kp, b⟩
theorem place_0 (d : DefAt W.K W.mg "find_place" st) (sc : FnScope nPl ["state", "seated", "number", "tried"] (defScope st)) (hb : BindsAt "find_place" st ["state", "seated", "number", "tried"]) : Call1 W (k + 1) "find_place" 4 (spPl 0) := by
  obtain ⟨f, fd, hm, F⟩ := d.of
  have b := F.binds hb
  obtain ⟨oc, od, kV, doc, pm, an, cdv, ct, osl, rfl, lk, hcd⟩ := F.ex
  have no : ∀ {vs : List V} {H : Hp} {Q : VK}, ¬ spPl 0 vs H Q := fun ⟨_, _, _, _, _, _, _, _, _, _, _, _, _, _, _, _, _, _, _, _, _, e, _⟩ => by rw [Ku.place] at e; cases e
  exact ⟨f, _, ["state", "seated", "number", "tried"], gfn_of lk hcd sc (fun vs H Q h => (no h).elim) (fun A outer s H vs Q room hgd h => (no h).elim), hm, F.kp, b⟩
theorem place_all {B : Nat} (d : DefAt W.K W.mg "find_place" st) (E : Em) (sc : FnScope nPl ["state", "seated", "number", "tried"] (defScope st)) (bl : ∀ x, x ∈ bnames → W.mg x = none) (he : (emSs nPl ir_find_place E).1 = defBody st) (ok : okSs nPl (defScope st) ir_find_place E = true)
    (fk : Call1 W B "find_kinds" 2 (spF F_find_kinds 2)) (fs : Call1 W B "find_seats" 3 (spF F_find_seats 3)) (hb : BindsAt "find_place" st ["state", "seated", "number", "tried"]) : ∀ j, Call1 W (B + 1 + j) "find_place" 4 (spPl j)
  | 0 => place_0 d sc hb
  | j + 1 => place_at (k := B + 1 + j) d E sc bl he ok (fk.mono (by omega)) (fs.mono (by omega)) (place_all d E sc bl he ok fk fs hb j) hb
theorem seat_at (d : DefAt W.K W.mg "seat_claims" st) (E : Em) (sc : FnScope nSt ["pool", "claims", "time"] (defScope st)) (bl : ∀ x, x ∈ bnames → W.mg x = none) (he : (emSs nSt ir_seat_claims E).1 = defBody st) (ok : okSs nSt (defScope st) ir_seat_claims E = true)
    (fa : Call1 W k "find_active" 2 (spF F_find_active 2)) (fp : Call1 W k "find_place" 4 (spPl 12)) (hb : BindsAt "seat_claims" st ["pool", "claims", "time"]) : Call1 W (k + 1) "seat_claims" 3 spSt := by
  obtain ⟨f, fd, hm, F⟩ := d.of
  have b := F.binds hb
  obtain ⟨oc, od, kV, doc, pm, an, cdv, ct, osl, rfl, lk, hcd⟩ := F.ex
  exact ⟨f, _, _, gfn_seat E lk hcd sc bl he ok fa fp, hm, F.kp, b⟩
theorem fit_at_at (d : DefAt W.K W.mg "fit_at" st) (E : Em) (sc : FnScope nFi nFi (defScope st)) (bl : ∀ x, x ∈ bnames → W.mg x = none) (he : (emSs nFi ir_fit_at E).1 = defBody st) (ok : okSs nFi (defScope st) ir_fit_at E = true)
    (fs : Call1 W k "seat_claims" 3 spSt) (hb : BindsAt "fit_at" st nFi) : Call1 W (k + 1) "fit_at" 3 (spF F_fit_at 3) := by
  obtain ⟨f, fd, hm, F⟩ := d.of
  have b := F.binds hb
  obtain ⟨oc, od, kV, doc, pm, an, cdv, ct, osl, rfl, lk, hcd⟩ := F.ex
  exact ⟨f, _, _, gfn_fit E lk hcd sc bl he ok fs, hm, F.kp, b⟩
end
end Fs

set_option Elab.async false
set_option linter.all false
set_option maxRecDepth 100000
set_option maxHeartbeats 8000000
set_option pp.maxSteps 300
set_option pp.deepTerms.threshold 6
namespace Fs
open PySem L2 K1
theorem Rp.scal {pa pa2 : PA} {G G2 : Hp} {v : V} {d : D} (h : Rp pa G v d) (s : Fs.scal d = true) : Rp pa2 G2 v d := by
  cases h <;> first | exact .non | exact .bl _ | exact .int _ | exact .str _ | (cases s; done)
theorem Rps.scal {pa pa2 : PA} {G G2 : Hp} : ∀ {vs : List V} {ds : List D}, Rps pa G vs ds → (∀ d ∈ ds, Fs.scal d = true) → Rps pa2 G2 vs ds
  | _, _, .nil, _ => .nil
  | _, _, .cons r t, h => .cons (r.scal (h _ (List.mem_cons_self ..))) (t.scal fun d hd => h d (List.mem_cons_of_mem _ hd))
section
variable {W : Wd} {k : Nat} {f : Addr} {name qual : Str} {params : Arguments} {body : List Stmt} {scope : Scope} {dV kV doc pm cdv ct oc : Value} {an od : Option Addr} {osl : Array (Option Value)}
end
end Fs

set_option Elab.async false
set_option linter.all false
set_option maxRecDepth 1000000
set_option maxHeartbeats 8000000
namespace K1
open PySem L2 Fs
def ir_require_waiting : ISs := (.cons (.ite (.not (.call "are_claims" F_are_claims (.cons (.var 0) (.cons (.var 1) (.cons (.glob "MOST_WAITING" (.int 8)) .nil)))))
  (.cons .never
  .nil)
  .nil)
  .nil)
def F_require_waiting : Fn := runF 2 ir_require_waiting
def ir_is_seating_of : ISs := (.cons (.ite (.or (.cons (.not (.isi (.var 3) .tuple)) (.cons (.cmp .NotEq (.blt .len (.cons (.var 3) .nil)) (.blt .len (.cons (.var 1) .nil))) .nil)))
  (.cons (.ret (.bool false))
  .nil)
  .nil)
  (.cons (.set 4 (.call "find_active" F_find_active (.cons (.var 1) (.cons (.var 2) .nil))))
  (.cons (.for (.t [5, 6]) (.enum (.var 3))
  (.cons (.ite (.cmp .NotIn (.var 5) (.var 4))
  (.cons (.ite (.notN (.var 6))
  (.cons (.ret (.bool false))
  .nil)
  .nil)
  .nil)
  (.cons (.ite (.or (.cons (.not (.call "is_integer" F_is_integer (.cons (.var 6) .nil))) (.cons (.cmp .NotIn (.var 6) (.call "find_kinds" F_find_kinds (.cons (.var 0) (.cons (.ix (.var 1) (.var 5)) .nil)))) .nil)))
  (.cons (.ret (.bool false))
  .nil)
  .nil)
  .nil))
  .nil))
  (.cons (.ret (.blt .all (.cons (.lc (.cmp .LtE (.blt .cnt (.cons (.var 3) (.cons (.var 7) .nil))) (.call "find_seats" F_find_seats (.cons (.var 0) (.cons (.var 7) (.cons (.var 2) .nil))))) (.v 7) (.rng (.blt .len (.cons (.var 0) .nil))) .nil) .nil)))
  .nil))))
def F_is_seating_of : Fn := runF 8 ir_is_seating_of
def ir_check_seating_v1 : ISs := (.cons (.ret (.ite (.call "is_seating_of" F_is_seating_of (.cons (.var 0) (.cons (.var 1) (.cons (.var 2) (.cons (.var 3) .nil))))) .non (.int 0)))
  .nil)
def F_check_seating_v1 : Fn := runF 4 ir_check_seating_v1
def ir_is_set : ISs := (.cons (.ite (.or (.cons (.not (.isi (.var 2) .tuple)) (.cons (.not (.blt .all (.cons (.lc (.call "is_integer" F_is_integer (.cons (.var 4) .nil)) (.v 4) (.seq (.var 2)) .nil) .nil))) .nil)))
  (.cons (.ret (.bool false))
  .nil)
  .nil)
  (.cons (.set 3 (.call "find_active" F_find_active (.cons (.var 0) (.cons (.var 1) .nil))))
  (.cons (.ret (.and (.cons (.blt .all (.cons (.lc (.cmp .In (.var 4) (.var 3)) (.v 4) (.seq (.var 2)) .nil) .nil)) (.cons (.cmp .Eq (.blt .list (.cons (.var 2) .nil)) (.blt .sset (.cons (.var 2) .nil))) .nil))))
  .nil)))
def F_is_set : Fn := runF 5 ir_is_set
def ir_set_kinds : ISs := (.cons (.set 3 (.lst .nil))
  (.cons (.for (.v 4) (.seq (.var 2))
  (.cons (.ext 3 (.call "find_kinds" F_find_kinds (.cons (.var 0) (.cons (.ix (.var 1) (.var 4)) .nil))))
  .nil))
  (.cons (.ret (.blt .sset (.cons (.var 3) .nil)))
  .nil)))
def F_set_kinds : Fn := runF 5 ir_set_kinds
def ir_set_seats : ISs := (.cons (.ret (.blt .sum (.cons (.lc (.call "find_seats" F_find_seats (.cons (.var 0) (.cons (.var 4) (.cons (.var 2) .nil)))) (.v 4) (.seq (.call "set_kinds" F_set_kinds (.cons (.var 0) (.cons (.var 1) (.cons (.var 3) .nil))))) .nil) .nil)))
  .nil)
def F_set_seats : Fn := runF 5 ir_set_seats
def ir_is_short : ISs := (.cons (.ret (.and (.cons (.call "is_set" F_is_set (.cons (.var 1) (.cons (.var 2) (.cons (.var 3) .nil)))) (.cons (.cmp .Gt (.blt .len (.cons (.var 3) .nil)) (.call "set_seats" F_set_seats (.cons (.var 0) (.cons (.var 1) (.cons (.var 2) (.cons (.var 3) .nil)))))) .nil))))
  .nil)
def F_is_short : Fn := runF 4 ir_is_short
def ir_check_shortage : ISs := (.cons (.ret (.ite (.call "is_short" F_is_short (.cons (.var 0) (.cons (.var 1) (.cons (.var 2) (.cons (.var 3) .nil))))) .non (.int 0)))
  .nil)
def F_check_shortage : Fn := runF 4 ir_check_shortage
def ir_find_moments : ISs := (.cons (.setLc 2 (.ix (.var 4) (.int 2)) (.v 4) (.seq (.var 1)) .nil)
  (.cons (.for (.v 3) (.seq (.var 0))
  (.cons (.ext 2 (.lc (.var 5) (.t [5, 6]) (.seq (.ix (.var 3) (.int 2))) (.cons (.cmp .NotEq (.call "find_active" F_find_active (.cons (.var 1) (.cons (.var 5) .nil))) (.lst .nil)) .nil)))
  .nil))
  (.cons (.ret (.blt .sset (.cons (.var 2) .nil)))
  .nil)))
def F_find_moments : Fn := runF 7 ir_find_moments
def ir_check_fits_v1 : ISs := (.cons (.set 3 (.call "find_moments" F_find_moments (.cons (.var 0) (.cons (.var 1) .nil))))
  (.cons (.ite (.or (.cons (.not (.isi (.var 2) .list)) (.cons (.cmp .NotEq (.blt .len (.cons (.var 2) .nil)) (.blt .len (.cons (.var 3) .nil))) .nil)))
  (.cons (.ret (.int 0))
  .nil)
  .nil)
  (.cons (.ite (.not (.blt .all (.cons (.lc (.call "is_seating_of" F_is_seating_of (.cons (.var 0) (.cons (.var 1) (.cons (.var 4) (.cons (.var 5) .nil))))) (.t [4, 5]) (.zip (.var 3) (.var 2)) .nil) .nil)))
  (.cons (.ret (.int 1))
  .nil)
  .nil)
  (.cons (.ret .non)
  .nil))))
def F_check_fits_v1 : Fn := runF 6 ir_check_fits_v1
def ir_next_kinds : ISs := (.cons (.set 4 (.lst .nil))
  (.cons (.for (.t [5, 6]) (.enum (.var 2))
  (.cons (.ite (.cmp .In (.var 6) (.var 3))
  (.cons (.ext 4 (.call "find_kinds" F_find_kinds (.cons (.var 0) (.cons (.ix (.var 1) (.var 5)) .nil))))
  .nil)
  .nil)
  .nil))
  (.cons (.ret (.var 4))
  .nil)))
def F_next_kinds : Fn := runF 7 ir_next_kinds
def ir_find_levels : ISs := (.cons (.set 4 (.bin .Mult (.lst (.cons .non .nil)) (.blt .len (.cons (.var 0) .nil))))
  (.cons (.set 5 (.call "find_kinds" F_find_kinds (.cons (.var 0) (.cons (.var 3) .nil))))
  (.cons (.set 6 (.int 0))
  (.cons (.while 100000 (.cmp .NotEq (.var 5) (.lst .nil))
  (.cons (.for (.v 7) (.seq (.var 5))
  (.cons (.setIx 4 (.var 7) (.var 6))
  .nil))
  (.cons (.set 8 (.call "next_kinds" F_next_kinds (.cons (.var 0) (.cons (.var 1) (.cons (.var 2) (.cons (.var 5) .nil))))))
  (.cons (.setLc 5 (.var 7) (.v 7) (.rng (.blt .len (.cons (.var 0) .nil))) (.cons (.and (.cons (.isN (.ix (.var 4) (.var 7))) (.cons (.cmp .In (.var 7) (.var 8)) .nil))) .nil))
  (.cons (.aug .Add 6 (.int 1))
  .nil)))))
  (.cons (.ret (.var 4))
  .nil)))))
def F_find_levels : Fn := runF 9 ir_find_levels
def ir_has_free_seat : ISs := (.cons (.ret (.cmp .Lt (.blt .cnt (.cons (.var 2) (.cons (.var 3) .nil))) (.call "find_seats" F_find_seats (.cons (.var 0) (.cons (.var 3) (.cons (.var 1) .nil))))))
  .nil)
def F_has_free_seat : Fn := runF 4 ir_has_free_seat
def ir_check_fewest_v1 : ISs := (.cons (.ite (.or (.cons (.not (.call "is_claim_of" F_is_claim_of (.cons (.var 0) (.cons (.var 4) .nil)))) (.cons (.not (.call "is_active" F_is_active (.cons (.var 4) (.cons (.var 2) .nil)))) (.cons (.not (.call "is_seating_of" F_is_seating_of (.cons (.var 0) (.cons (.var 1) (.cons (.var 2) (.cons (.var 3) .nil)))))) .nil))))
  (.cons (.ret (.int 0))
  .nil)
  .nil)
  (.cons (.ite (.not (.call "is_seating_of" F_is_seating_of (.cons (.var 0) (.cons (.bin .Add (.var 1) (.tup (.cons (.var 4) .nil))) (.cons (.var 2) (.cons (.var 5) .nil))))))
  (.cons (.ret (.int 1))
  .nil)
  .nil)
  (.cons (.set 6 (.blt .len (.cons (.lc (.var 9) (.v 9) (.rng (.blt .len (.cons (.var 1) .nil))) (.cons (.cmp .NotEq (.ix (.var 5) (.var 9)) (.ix (.var 3) (.var 9))) .nil)) .nil)))
  (.cons (.for (.t [7, 8]) (.enum (.call "find_levels" F_find_levels (.cons (.var 0) (.cons (.var 1) (.cons (.var 3) (.cons (.var 4) .nil))))))
  (.cons (.ite (.and (.cons (.notN (.var 8)) (.cons (.cmp .Lt (.var 8) (.var 6)) (.cons (.call "has_free_seat" F_has_free_seat (.cons (.var 0) (.cons (.var 2) (.cons (.var 3) (.cons (.var 7) .nil))))) .nil))))
  (.cons (.ret (.int 2))
  .nil)
  .nil)
  .nil))
  (.cons (.ret .non)
  .nil)))))
def F_check_fewest_v1 : Fn := runF 10 ir_check_fewest_v1
def ir_check_impossible : ISs := (.cons (.ite (.or (.cons (.not (.call "is_between" F_is_between (.cons (.var 3) (.cons (.int 0) (.cons (.bin .Sub (.blt .len (.cons (.var 1) .nil)) (.int 1)) .nil))))) (.cons (.not (.call "is_active" F_is_active (.cons (.ix (.var 1) (.var 3)) (.cons (.var 2) .nil)))) .nil)))
  (.cons (.ret (.int 0))
  .nil)
  .nil)
  (.cons (.ite (.or (.cons (.not (.call "is_integer" F_is_integer (.cons (.var 4) .nil))) (.cons (.cmp .NotIn (.var 4) (.call "find_kinds" F_find_kinds (.cons (.var 0) (.cons (.ix (.var 1) (.var 3)) .nil)))) .nil)))
  (.cons (.ret (.int 0))
  .nil)
  .nil)
  (.cons (.ite (.or (.cons (.not (.call "is_set" F_is_set (.cons (.var 1) (.cons (.var 2) (.cons (.var 5) .nil))))) (.cons (.cmp .In (.var 3) (.var 5)) .nil)))
  (.cons (.ret (.int 1))
  .nil)
  .nil)
  (.cons (.set 6 (.blt .sset (.cons (.bin .Add (.call "set_kinds" F_set_kinds (.cons (.var 0) (.cons (.var 1) (.cons (.var 5) .nil)))) (.lst (.cons (.var 4) .nil))) .nil)))
  (.cons (.ret (.ite (.cmp .Eq (.blt .sum (.cons (.lc (.call "find_seats" F_find_seats (.cons (.var 0) (.cons (.var 7) (.cons (.var 2) .nil)))) (.v 7) (.seq (.var 6)) .nil) .nil)) (.blt .len (.cons (.var 5) .nil))) .non (.int 2)))
  .nil)))))
def F_check_impossible : Fn := runF 8 ir_check_impossible
def ir_are_numbers : ISs := (.cons (.ite (.or (.cons (.not (.isi (.var 0) .list)) (.cons (.not (.blt .all (.cons (.lc (.call "is_between" F_is_between (.cons (.var 2) (.cons (.int 0) (.cons (.var 1) .nil)))) (.v 2) (.seq (.var 0)) .nil) .nil))) .nil)))
  (.cons (.ret (.bool false))
  .nil)
  .nil)
  (.cons (.ret (.cmp .Eq (.var 0) (.blt .sset (.cons (.var 0) .nil))))
  .nil))
def F_are_numbers : Fn := runF 3 ir_are_numbers
def ir_all_fit : ISs := (.cons (.ret (.blt .all (.cons (.lc (.call "fit_at" F_fit_at (.cons (.var 0) (.cons (.var 1) (.cons (.var 2) .nil)))) (.v 2) (.seq (.call "find_moments" F_find_moments (.cons (.var 0) (.cons (.var 1) .nil)))) .nil) .nil)))
  .nil)
def F_all_fit : Fn := runF 3 ir_all_fit
def ir_is_row : ISs := (.cons (.ret (.and (.cons (.isi (.var 0) .tuple) (.cons (.cmp .Eq (.blt .len (.cons (.var 0) .nil)) (.var 1)) (.cons (.call "is_integer" F_is_integer (.cons (.ix (.var 0) (.int 0)) .nil)) .nil)))))
  .nil)
def F_is_row : Fn := runF 2 ir_is_row
def ir_is_left : ISs := (.cons (.setT [5, 6, 7] (.var 4))
  (.cons (.set 8 (.blt .tuple (.cons (.lc (.ix (.var 2) (.var 9)) (.v 9) (.seq (.var 3)) (.cons (.cmp .Lt (.var 9) (.var 5)) .nil)) .nil)))
  (.cons (.ret (.call "is_short" F_is_short (.cons (.var 0) (.cons (.bin .Add (.bin .Add (.var 1) (.var 8)) (.tup (.cons (.ix (.var 2) (.var 5)) .nil))) (.cons (.var 6) (.cons (.var 7) .nil))))))
  .nil)))
def F_is_left : Fn := runF 10 ir_is_left
def ir_check_left : ISs := (.cons (.ite (.not (.call "are_numbers" F_are_numbers (.cons (.var 3) (.cons (.bin .Sub (.blt .len (.cons (.var 2) .nil)) (.int 1)) .nil))))
  (.cons (.ret (.int 0))
  .nil)
  .nil)
  (.cons (.ite (.not (.call "all_fit" F_all_fit (.cons (.var 0) (.cons (.bin .Add (.var 1) (.blt .tuple (.cons (.lc (.ix (.var 2) (.var 5)) (.v 5) (.seq (.var 3)) .nil) .nil))) .nil))))
  (.cons (.ret (.int 1))
  .nil)
  .nil)
  (.cons (.ite (.or (.cons (.not (.isi (.var 4) .list)) (.cons (.not (.blt .all (.cons (.lc (.and (.cons (.call "is_row" F_is_row (.cons (.var 6) (.cons (.int 3) .nil))) (.cons (.call "is_time" F_is_time (.cons (.ix (.var 6) (.int 1)) .nil)) .nil))) (.v 6) (.seq (.var 4)) .nil) .nil))) .nil)))
  (.cons (.ret (.int 2))
  .nil)
  .nil)
  (.cons (.ite (.cmp .NotEq (.lc (.ix (.var 6) (.int 0)) (.v 6) (.seq (.var 4)) .nil) (.lc (.var 5) (.v 5) (.rng (.blt .len (.cons (.var 2) .nil))) (.cons (.cmp .NotIn (.var 5) (.var 3)) .nil)))
  (.cons (.ret (.int 2))
  .nil)
  .nil)
  (.cons (.ret (.ite (.blt .all (.cons (.lc (.call "is_left" F_is_left (.cons (.var 0) (.cons (.var 1) (.cons (.var 2) (.cons (.var 3) (.cons (.var 6) .nil)))))) (.v 6) (.seq (.var 4)) .nil) .nil)) .non (.int 3)))
  .nil)))))
def F_check_left : Fn := runF 7 ir_check_left
def ir_are_worths : ISs := (.cons (.ite (.or (.cons (.not (.isi (.var 0) .tuple)) (.cons (.cmp .NotEq (.blt .len (.cons (.var 0) .nil)) (.blt .len (.cons (.var 1) .nil))) .nil)))
  (.cons (.ret (.bool false))
  .nil)
  .nil)
  (.cons (.ret (.blt .all (.cons (.lc (.call "is_between" F_is_between (.cons (.var 2) (.cons (.int 0) (.cons (.glob "MOST_WORTH" (.int 100)) .nil)))) (.v 2) (.seq (.var 0)) .nil) .nil)))
  .nil))
def F_are_worths : Fn := runF 3 ir_are_worths
def ir_is_choice : ISs := (.cons (.ite (.or (.cons (.not (.isi (.var 2) .tuple)) (.cons (.not (.call "are_numbers" F_are_numbers (.cons (.blt .list (.cons (.var 2) .nil)) (.cons (.bin .Sub (.blt .len (.cons (.var 0) .nil)) (.int 1)) .nil)))) .nil)))
  (.cons (.ret (.bool false))
  .nil)
  .nil)
  (.cons (.ret (.blt .all (.cons (.lc (.call "is_active" F_is_active (.cons (.ix (.var 0) (.var 3)) (.cons (.var 1) .nil))) (.v 3) (.seq (.var 2)) .nil) .nil)))
  .nil))
def F_is_choice : Fn := runF 4 ir_is_choice
def ir_find_lacked : ISs := (.cons (.setLc 4 (.tup (.cons (.var 6) (.cons (.var 5) .nil))) (.t [5, 6]) (.enum (.var 1)) (.cons (.cmp .NotIn (.var 5) (.var 3)) .nil))
  (.cons (.ret (.lc (.tup (.cons (.var 6) (.cons (.var 5) .nil))) (.t [6, 5]) (.seq (.var 4)) (.cons (.and (.cons (.cmp .Gt (.var 6) (.int 0)) (.cons (.call "is_active" F_is_active (.cons (.ix (.var 0) (.var 5)) (.cons (.var 2) .nil))) .nil))) .nil)))
  .nil))
def F_find_lacked : Fn := runF 7 ir_find_lacked
def ir_is_link : ISs := (.cons (.ite (.or (.cons (.not (.call "is_row" F_is_row (.cons (.var 1) (.cons (.int 2) .nil)))) (.cons (.not (.isi (.ix (.var 1) (.int 1)) .tuple)) .nil)))
  (.cons (.ret (.bool false))
  .nil)
  .nil)
  (.cons (.ret (.call "are_numbers" F_are_numbers (.cons (.blt .list (.cons (.ix (.var 1) (.int 1)) .nil)) (.cons (.bin .Sub (.blt .len (.cons (.var 0) .nil)) (.int 1)) .nil))))
  .nil))
def F_is_link : Fn := runF 2 ir_is_link
def ir_count_within : ISs := (.cons (.setLc 4 (.call "find_kinds" F_find_kinds (.cons (.var 0) (.cons (.ix (.var 1) (.var 5)) .nil))) (.v 5) (.seq (.call "find_active" F_find_active (.cons (.var 1) (.cons (.var 2) .nil)))) .nil)
  (.cons (.ret (.blt .len (.cons (.lc (.var 6) (.v 6) (.seq (.var 4)) (.cons (.blt .all (.cons (.lc (.cmp .In (.var 7) (.var 3)) (.v 7) (.seq (.var 6)) .nil) .nil)) .nil)) .nil)))
  .nil))
def F_count_within : Fn := runF 8 ir_count_within
def ir_check_worthiest : ISs := (.cons (.ite (.or (.cons (.not (.call "are_worths" F_are_worths (.cons (.var 3) (.cons (.var 2) .nil)))) (.cons (.not (.call "is_choice" F_is_choice (.cons (.var 2) (.cons (.var 4) (.cons (.var 5) .nil))))) .nil)))
  (.cons (.ret (.int 0))
  .nil)
  .nil)
  (.cons (.ite (.not (.call "fit_at" F_fit_at (.cons (.var 0) (.cons (.bin .Add (.var 1) (.blt .tuple (.cons (.lc (.ix (.var 2) (.var 7)) (.v 7) (.seq (.var 5)) .nil) .nil))) (.cons (.var 4) .nil)))))
  (.cons (.ret (.int 1))
  .nil)
  .nil)
  (.cons (.set 8 (.call "find_lacked" F_find_lacked (.cons (.var 2) (.cons (.var 3) (.cons (.var 4) (.cons (.var 5) .nil))))))
  (.cons (.set 10 (.blt .rev1 (.cons (.blt .sset (.cons (.lc (.var 9) (.t [9, 7]) (.seq (.var 8)) .nil) .nil)) .nil)))
  (.cons (.ite (.or (.cons (.not (.isi (.var 6) .list)) (.cons (.not (.blt .all (.cons (.lc (.call "is_link" F_is_link (.cons (.var 0) (.cons (.var 16) .nil))) (.v 16) (.seq (.var 6)) .nil) .nil))) (.cons (.cmp .NotEq (.lc (.ix (.var 16) (.int 0)) (.v 16) (.seq (.var 6)) .nil) (.var 10)) .nil))))
  (.cons (.ret (.int 2))
  .nil)
  .nil)
  (.cons (.set 11 (.lst .nil))
  (.cons (.for (.t [12, 13]) (.seq (.var 6))
  (.cons (.for (.t [9, 7]) (.seq (.var 8))
  (.cons (.ite (.cmp .GtE (.var 9) (.var 12))
  (.cons (.ext 11 (.call "find_kinds" F_find_kinds (.cons (.var 0) (.cons (.ix (.var 2) (.var 7)) .nil))))
  .nil)
  .nil)
  .nil))
  (.cons (.set 14 (.bin .Add (.var 1) (.blt .tuple (.cons (.lc (.ix (.var 2) (.var 7)) (.v 7) (.seq (.var 5)) (.cons (.cmp .GtE (.ix (.var 3) (.var 7)) (.var 12)) .nil)) .nil))))
  (.cons (.set 15 (.blt .sum (.cons (.lc (.call "find_seats" F_find_seats (.cons (.var 0) (.cons (.var 17) (.cons (.var 4) .nil)))) (.v 17) (.seq (.var 13)) .nil) .nil)))
  (.cons (.ite (.or (.cons (.not (.blt .all (.cons (.lc (.cmp .In (.var 17) (.var 13)) (.v 17) (.seq (.var 11)) .nil) .nil))) (.cons (.cmp .NotEq (.call "count_within" F_count_within (.cons (.var 0) (.cons (.var 14) (.cons (.var 4) (.cons (.var 13) .nil))))) (.var 15)) .nil)))
  (.cons (.ret (.int 3))
  .nil)
  .nil)
  (.cons (.set 11 (.blt .list (.cons (.var 13) .nil)))
  .nil))))))
  (.cons (.ret .non)
  .nil))))))))
def F_check_worthiest : Fn := runF 18 ir_check_worthiest
def ir_is_online : ISs := (.cons (.ret (.and (.cons (.call "is_claim_of" F_is_claim_of (.cons (.var 0) (.cons (.var 1) .nil))) (.cons (.isN (.ix (.var 1) (.int 4))) .nil))))
  .nil)
def F_is_online : Fn := runF 2 ir_is_online
def ir_are_bars : ISs := (.cons (.ite (.or (.cons (.not (.isi (.var 0) .list)) (.cons (.not (.blt .all (.cons (.lc (.and (.cons (.call "is_row" F_is_row (.cons (.var 1) (.cons (.int 3) .nil))) (.cons (.call "is_integer" F_is_integer (.cons (.ix (.var 1) (.int 1)) .nil)) .nil))) (.v 1) (.seq (.var 0)) .nil) .nil))) .nil)))
  (.cons (.ret (.bool false))
  .nil)
  .nil)
  (.cons (.set 2 (.neg (.int 1)))
  (.cons (.for (.v 1) (.seq (.var 0))
  (.cons (.ite (.not (.cmp3 .Lt .LtE .Lt (.var 2) (.ix (.var 1) (.int 0)) (.ix (.var 1) (.int 1)) (.glob "LAST_TIME" (.int 1000))))
  (.cons (.ret (.bool false))
  .nil)
  .nil)
  (.cons (.set 2 (.ix (.var 1) (.int 1)))
  .nil)))
  (.cons (.ret (.bool true))
  .nil))))
def F_are_bars : Fn := runF 3 ir_are_bars
def ir_find_changes : ISs := (.cons (.set 2 (.lst (.cons (.int 0) .nil)))
  (.cons (.for (.v 3) (.seq (.var 1))
  (.cons (.ext 2 (.lst (.cons (.ix (.var 3) (.int 2)) (.cons (.ix (.var 3) (.int 3)) .nil))))
  .nil))
  (.cons (.for (.v 4) (.seq (.var 0))
  (.cons (.ext 2 (.lc (.var 5) (.t [5, 6]) (.seq (.ix (.var 4) (.int 2))) .nil))
  .nil))
  (.cons (.ret (.blt .sset (.cons (.var 2) .nil)))
  .nil))))
def F_find_changes : Fn := runF 7 ir_find_changes
def ir_is_bar : ISs := (.cons (.setT [4, 5, 6] (.var 3))
  (.cons (.for (.v 7) (.seq (.bin .Add (.lst (.cons (.var 4) .nil)) (.lc (.var 9) (.v 9) (.seq (.call "find_changes" F_find_changes (.cons (.var 0) (.cons (.var 1) .nil)))) (.cons (.cmp2 .Lt .LtE (.var 4) (.var 9) (.var 5)) .nil))))
  (.cons (.set 8 (.tup (.cons (.ix (.var 2) (.int 0)) (.cons (.ix (.var 2) (.int 1)) (.cons (.var 7) (.cons (.bin .Add (.var 7) (.int 1)) (.cons .non .nil)))))))
  (.cons (.ite (.not (.call "is_short" F_is_short (.cons (.var 0) (.cons (.bin .Add (.var 1) (.tup (.cons (.var 8) .nil))) (.cons (.var 7) (.cons (.var 6) .nil))))))
  (.cons (.ret (.bool false))
  .nil)
  .nil)
  .nil)))
  (.cons (.ret (.bool true))
  .nil)))
def F_is_bar : Fn := runF 10 ir_is_bar
def ir_check_bars_v1 : ISs := (.cons (.ite (.or (.cons (.not (.call "is_online" F_is_online (.cons (.var 0) (.cons (.var 2) .nil)))) (.cons (.not (.call "is_integer" F_is_integer (.cons (.var 3) .nil))) (.cons (.cmp .Lt (.var 3) (.ix (.var 2) (.int 2))) .nil))))
  (.cons (.ret (.int 0))
  .nil)
  .nil)
  (.cons (.ite (.not (.call "are_bars" F_are_bars (.cons (.var 4) .nil)))
  (.cons (.ret (.int 1))
  .nil)
  .nil)
  (.cons (.ite (.not (.blt .all (.cons (.lc (.call "is_bar" F_is_bar (.cons (.var 0) (.cons (.var 1) (.cons (.var 2) (.cons (.var 10) .nil))))) (.v 10) (.seq (.var 4)) .nil) .nil)))
  (.cons (.ret (.int 2))
  .nil)
  .nil)
  (.cons (.set 5 (.bin .Sub (.ix (.var 2) (.int 3)) (.ix (.var 2) (.int 2))))
  (.cons (.set 6 (.ix (.var 2) (.int 2)))
  (.cons (.for (.t [7, 8, 9]) (.seq (.var 4))
  (.cons (.ite (.cmp .Lt (.var 7) (.bin .Add (.var 6) (.var 5)))
  (.cons (.set 6 (.blt .max (.cons (.var 6) (.cons (.bin .Add (.var 8) (.int 1)) .nil))))
  .nil)
  .nil)
  .nil))
  (.cons (.ret (.ite (.cmp .GtE (.var 6) (.blt .min (.cons (.var 3) (.cons (.bin .Sub (.bin .Add (.glob "LAST_TIME" (.int 1000)) (.int 1)) (.var 5)) .nil)))) .non (.int 3)))
  .nil)))))))
def F_check_bars_v1 : Fn := runF 11 ir_check_bars_v1
def ir_check_seats : ISs := (.cons (.ite (.or (.cons (.not (.call "is_between" F_is_between (.cons (.var 2) (.cons (.int 0) (.cons (.bin .Sub (.blt .len (.cons (.var 0) .nil)) (.int 1)) .nil))))) (.cons (.and (.cons (.notN (.var 3)) (.cons (.or (.cons (.not (.call "is_integer" F_is_integer (.cons (.var 3) .nil))) (.cons (.cmp .Lt (.var 3) (.int 1)) .nil))) .nil))) .nil)))
  (.cons (.ret (.int 0))
  .nil)
  .nil)
  (.cons (.ite (.not (.call "is_set" F_is_set (.cons (.var 1) (.cons (.var 4) (.cons (.var 5) .nil)))))
  (.cons (.ret (.int 1))
  .nil)
  .nil)
  (.cons (.set 6 (.bin .Sub (.blt .len (.cons (.var 5) .nil)) (.call "set_seats" F_set_seats (.cons (.var 0) (.cons (.var 1) (.cons (.var 4) (.cons (.var 5) .nil)))))))
  (.cons (.set 7 (.cmp .In (.var 2) (.call "set_kinds" F_set_kinds (.cons (.var 0) (.cons (.var 1) (.cons (.var 5) .nil))))))
  (.cons (.ite (.isN (.var 3))
  (.cons (.ret (.ite (.and (.cons (.cmp .Gt (.var 6) (.int 0)) (.cons (.not (.var 7)) .nil))) .non (.int 2)))
  .nil)
  .nil)
  (.cons (.ret (.ite (.and (.cons (.cmp .Eq (.var 6) (.var 3)) (.cons (.var 7) .nil))) .non (.int 2)))
  .nil))))))
def F_check_seats : Fn := runF 8 ir_check_seats
def ir_find_wrong : ISs := (.cons (.set2 [1, 2] (.cons (.ix (.var 0) (.int 0)) (.cons (.sl (.var 0) (.some (.int 1)) .none) .nil)))
  (.cons (.ite (.cmp .Eq (.var 1) (.str "seating"))
  (.cons (.ret (.calS "check_seating" F_check_seating_v1 4 (.var 2)))
  .nil)
  .nil)
  (.cons (.ite (.cmp .Eq (.var 1) (.str "shortage"))
  (.cons (.ret (.calS "check_shortage" F_check_shortage 4 (.var 2)))
  .nil)
  .nil)
  (.cons (.ite (.cmp .Eq (.var 1) (.str "fits"))
  (.cons (.ret (.calS "check_fits" F_check_fits_v1 3 (.var 2)))
  .nil)
  .nil)
  (.cons (.ite (.cmp .Eq (.var 1) (.str "fewest"))
  (.cons (.ret (.calS "check_fewest" F_check_fewest_v1 6 (.var 2)))
  .nil)
  .nil)
  (.cons (.ite (.cmp .Eq (.var 1) (.str "impossible"))
  (.cons (.ret (.calS "check_impossible" F_check_impossible 6 (.var 2)))
  .nil)
  .nil)
  (.cons (.ite (.cmp .Eq (.var 1) (.str "left"))
  (.cons (.ret (.calS "check_left" F_check_left 5 (.var 2)))
  .nil)
  .nil)
  (.cons (.ite (.cmp .Eq (.var 1) (.str "worthiest"))
  (.cons (.ret (.calS "check_worthiest" F_check_worthiest 7 (.var 2)))
  .nil)
  .nil)
  (.cons (.ret (.ite (.cmp .Eq (.var 1) (.str "bars")) (.calS "check_bars" F_check_bars_v1 5 (.var 2)) (.calS "check_seats" F_check_seats 6 (.var 2))))
  .nil)))))))))
def F_find_wrong : Fn := runF 3 ir_find_wrong
def ir_check : ISs := (.cons (.ite (.or (.cons (.not (.isi (.var 0) .tuple)) (.cons (.cmp .Eq (.var 0) (.tup .nil)) (.cons (.not (.isi (.ix (.var 0) (.int 0)) .str)) .nil))))
  (.cons .never
  .nil)
  .nil)
  (.cons (.set 1 (.ix (.var 0) (.int 0)))
  (.cons (.ite (.cmp .NotEq (.tab (.get 0) "SIZES" [("seating", 5), ("shortage", 5), ("fits", 4), ("fewest", 7), ("impossible", 7), ("left", 6), ("bars", 6), ("seats", 7), ("worthiest", 8)] (.var 1)) (.blt .len (.cons (.var 0) .nil)))
  (.cons .never
  .nil)
  .nil)
  (.cons (.expr (.call "require_pool" F_require_pool (.cons (.ix (.var 0) (.int 1)) .nil)))
  (.cons (.expr (.call "require_claims" F_require_claims (.cons (.ix (.var 0) (.int 1)) (.cons (.ix (.var 0) (.int 2)) .nil))))
  (.cons (.ite (.cmp .In (.var 1) (.tup (.cons (.str "left") (.cons (.str "worthiest") .nil))))
  (.cons (.expr (.call "require_waiting" F_require_waiting (.cons (.ix (.var 0) (.int 1)) (.cons (.ix (.var 0) (.int 3)) .nil))))
  .nil)
  .nil)
  (.cons (.ite (.tab .mem "TIMES" [("seating", 3), ("shortage", 3), ("fewest", 3), ("impossible", 3), ("seats", 5), ("worthiest", 5)] (.var 1))
  (.cons (.expr (.call "require_time" F_require_time (.cons (.ix (.var 0) (.tab .ix "TIMES" [("seating", 3), ("shortage", 3), ("fewest", 3), ("impossible", 3), ("seats", 5), ("worthiest", 5)] (.var 1))) .nil)))
  .nil)
  .nil)
  (.cons (.set 2 (.call "find_wrong" F_find_wrong (.cons (.var 0) .nil)))
  (.cons (.ret (.ite (.isN (.var 2)) (.tup (.cons (.str "right") .nil)) (.tup (.cons (.str "wrong") (.cons (.var 2) .nil)))))
  .nil)))))))))
def F_check : Fn := runF 3 ir_check
def irr_law : ISs := (.cons (.set2 [2, 3] (.cons (.tup (.cons (.tup (.cons (.tup (.cons (.int 1) .nil)) (.cons (.tup .nil) (.cons (.tup (.cons (.tup (.cons (.int 0) (.cons (.int 0) .nil))) .nil)) .nil)))) .nil)) (.cons (.tup (.cons (.tup (.cons (.int 0) (.cons (.int 1) (.cons (.int 0) (.cons (.int 5) (.cons .non .nil)))))) .nil)) .nil)))
  (.cons (.set 4 (.bin .Add (.int 1) (.call "_law_take" FTake (.cons (.var 1) (.cons (.int 9) .nil)))))
  (.cons (.set 5 (.lst (.cons .non (.cons (.int 0) (.cons (.int 5) (.cons (.bool true) (.cons (.bool false) (.cons (.str "") (.cons (.str "x") (.cons (.lst .nil) (.cons (.lst (.cons (.int 0) .nil)) (.cons (.tup (.cons (.tup (.cons (.int 0) .nil)) .nil)) (.cons (.tup (.cons (.lst (.cons (.int 0) .nil)) .nil)) (.cons (.tup (.cons .non .nil)) (.cons (.tup (.cons (.int 0) (.cons (.int 0) .nil))) (.cons (.tup (.cons (.int 1) .nil)) (.cons (.tup (.cons (.neg (.int 1)) .nil)) (.cons (.tup (.cons (.bool true) .nil)) .nil))))))))))))))))))
  (.cons (.for (.v 6) (.seq (.bin .Add (.var 5) (.lst (.cons (.one "_law_one" (.var 1) (.var 5)) .nil))))
  (.cons (.set 7 (.lst (.cons (.call "check" F_check (.cons (.tup (.cons (.str "left") (.cons (.var 2) (.cons (.tup .nil) (.cons (.var 3) (.cons (.lst .nil) (.cons (.lst (.cons (.tup (.cons (.int 0) (.cons (.int 0) (.cons (.var 6) .nil)))) .nil)) .nil))))))) .nil)) .nil)))
  (.cons (.app 7 (.call "check" F_check (.cons (.tup (.cons (.str "bars") (.cons (.var 2) (.cons (.tup .nil) (.cons (.tup (.cons (.int 0) (.cons (.int 1) (.cons (.int 0) (.cons (.int 5) (.cons .non .nil)))))) (.cons (.var 4) (.cons (.lst (.cons (.tup (.cons (.int 0) (.cons (.bin .Add (.int 9) (.var 4)) (.cons (.var 6) .nil)))) .nil)) .nil))))))) .nil)))
  (.cons (.ite (.cmp .NotEq (.var 7) (.lst (.cons (.tup (.cons (.str "wrong") (.cons (.int 3) .nil))) (.cons (.tup (.cons (.str "wrong") (.cons (.int 2) .nil))) .nil))))
  (.cons (.ret (.bool false))
  .nil)
  .nil)
  .nil))))
  (.cons (.set 7 (.lst (.cons (.call "check" F_check (.cons (.tup (.cons (.str "left") (.cons (.var 2) (.cons (.tup .nil) (.cons (.var 3) (.cons (.lst .nil) (.cons (.lst (.cons (.tup (.cons (.int 0) (.cons (.int 0) (.cons (.tup (.cons (.int 0) .nil)) .nil)))) .nil)) .nil))))))) .nil)) .nil)))
  (.cons (.app 7 (.call "check" F_check (.cons (.tup (.cons (.str "bars") (.cons (.var 2) (.cons (.tup .nil) (.cons (.tup (.cons (.int 0) (.cons (.int 1) (.cons (.int 0) (.cons (.int 5) (.cons .non .nil)))))) (.cons (.var 4) (.cons (.lst (.cons (.tup (.cons (.int 0) (.cons (.bin .Add (.int 9) (.var 4)) (.cons (.tup (.cons (.int 0) .nil)) .nil)))) .nil)) .nil))))))) .nil)))
  (.cons (.ret (.cmp .Eq (.var 7) (.lst (.cons (.tup (.cons (.str "right") .nil)) (.cons (.tup (.cons (.str "right") .nil)) .nil)))))
  .nil)))))))
end K1

set_option Elab.async false
set_option linter.all false
set_option maxRecDepth 1000000
set_option maxHeartbeats 8000000
namespace K1
open PySem L2 Fs
def top (i : Nat) : Stmt := PySem.Challenge.pw_floatseats_k76_certificates_with_any_set.main.body.getD i (.Pass ⟨0, 0, 0, 0⟩)

abbrev st__law_open : Stmt := top 82
def nN__law_open : List Str := ["_law_script", "_law_cells", "_law_k", "_law_cell"]
def nE__law_open : Em := ⟨[⟨353, 4, 353, 39⟩, ⟨353, 4, 353, 14⟩, ⟨353, 17, 353, 39⟩, ⟨353, 17, 353, 21⟩, ⟨353, 22, 353, 38⟩, ⟨353, 34, 353, 37⟩, ⟨353, 22, 353, 33⟩, ⟨353, 35, 353, 37⟩, ⟨354, 4, 355, 79⟩, ⟨354, 8, 354, 25⟩, ⟨354, 8, 354, 14⟩, ⟨354, 16, 354, 25⟩, ⟨354, 29, 354, 58⟩, ⟨354, 29, 354, 38⟩, ⟨354, 39, 354, 57⟩, ⟨354, 51, 354, 56⟩, ⟨354, 39, 354, 50⟩, ⟨354, 51, 354, 53⟩, ⟨354, 54, 354, 56⟩, ⟨355, 8, 355, 79⟩, ⟨355, 8, 355, 36⟩, ⟨355, 8, 355, 18⟩, ⟨355, 19, 355, 35⟩, ⟨355, 19, 355, 30⟩, ⟨355, 19, 355, 22⟩, ⟨355, 23, 355, 29⟩, ⟨355, 33, 355, 35⟩, ⟨355, 39, 355, 79⟩, ⟨355, 39, 355, 67⟩, ⟨355, 39, 355, 49⟩, ⟨355, 50, 355, 66⟩, ⟨355, 50, 355, 61⟩, ⟨355, 50, 355, 53⟩, ⟨355, 54, 355, 60⟩, ⟨355, 64, 355, 66⟩, ⟨355, 70, 355, 79⟩, ⟨356, 4, 356, 29⟩, ⟨356, 11, 356, 29⟩, ⟨356, 12, 356, 22⟩, ⟨356, 24, 356, 25⟩, ⟨356, 27, 356, 28⟩],
  [],
  []⟩
theorem em__law_open : (emSs nN__law_open ir_open nE__law_open).1 = defBody st__law_open := by rfl
theorem ok__law_open : okSs nN__law_open (defScope st__law_open) ir_open nE__law_open = true := by decide +kernel
theorem sc__law_open : FnScope nN__law_open ["_law_script"] (defScope st__law_open) := ⟨rfl, rfl, rfl, by decide +kernel, rfl, by decide +kernel, by decide +kernel⟩

abbrev st__law_spread : Stmt := top 81
def nN__law_spread : List Str := ["_law_cell", "_law_at", "_law_primes", "_law_mixed", "_law_one_here", "_law_rest", "_law_two", "_law_three"]
def nE__law_spread : Em := ⟨[⟨342, 4, 343, 24⟩, ⟨342, 7, 342, 28⟩, ⟨342, 7, 342, 16⟩, ⟨342, 20, 342, 28⟩, ⟨342, 20, 342, 22⟩, ⟨342, 26, 342, 28⟩, ⟨343, 8, 343, 24⟩, ⟨343, 15, 343, 24⟩, ⟨344, 4, 344, 102⟩, ⟨344, 4, 344, 15⟩, ⟨344, 18, 344, 102⟩, ⟨344, 19, 344, 29⟩, ⟨344, 31, 344, 41⟩, ⟨344, 43, 344, 53⟩, ⟨344, 55, 344, 65⟩, ⟨344, 67, 344, 77⟩, ⟨344, 79, 344, 89⟩, ⟨344, 91, 344, 101⟩, ⟨345, 4, 345, 104⟩, ⟨345, 4, 345, 15⟩, ⟨345, 18, 345, 104⟩, ⟨345, 18, 345, 29⟩, ⟨345, 32, 345, 104⟩, ⟨345, 33, 345, 43⟩, ⟨345, 45, 345, 55⟩, ⟨345, 57, 345, 67⟩, ⟨345, 69, 345, 79⟩, ⟨345, 81, 345, 91⟩, ⟨345, 93, 345, 103⟩, ⟨346, 4, 346, 92⟩, ⟨346, 4, 346, 14⟩, ⟨346, 17, 346, 92⟩, ⟨346, 17, 346, 86⟩, ⟨346, 17, 346, 68⟩, ⟨346, 17, 346, 44⟩, ⟨346, 17, 346, 31⟩, ⟨346, 17, 346, 20⟩, ⟨346, 21, 346, 30⟩, ⟨346, 34, 346, 44⟩, ⟨346, 48, 346, 67⟩, ⟨346, 48, 346, 59⟩, ⟨346, 48, 346, 49⟩, ⟨346, 52, 346, 59⟩, ⟨346, 62, 346, 67⟩, ⟨346, 71, 346, 86⟩, ⟨346, 71, 346, 78⟩, ⟨346, 81, 346, 86⟩, ⟨346, 89, 346, 92⟩, ⟨347, 4, 347, 73⟩, ⟨347, 4, 347, 17⟩, ⟨347, 20, 347, 73⟩, ⟨347, 20, 347, 40⟩, ⟨347, 20, 347, 23⟩, ⟨347, 24, 347, 39⟩, ⟨347, 24, 347, 34⟩, ⟨347, 38, 347, 39⟩, ⟨347, 43, 347, 73⟩, ⟨347, 43, 347, 54⟩, ⟨347, 55, 347, 72⟩, ⟨347, 55, 347, 67⟩, ⟨347, 55, 347, 58⟩, ⟨347, 59, 347, 66⟩, ⟨347, 70, 347, 72⟩, ⟨348, 4, 348, 42⟩, ⟨348, 4, 348, 13⟩, ⟨348, 16, 348, 42⟩, ⟨348, 16, 348, 38⟩, ⟨348, 16, 348, 30⟩, ⟨348, 16, 348, 19⟩, ⟨348, 20, 348, 29⟩, ⟨348, 33, 348, 38⟩, ⟨348, 41, 348, 42⟩, ⟨349, 4, 349, 105⟩, ⟨349, 4, 349, 12⟩, ⟨349, 15, 349, 105⟩, ⟨349, 15, 349, 68⟩, ⟨349, 15, 349, 18⟩, ⟨349, 19, 349, 67⟩, ⟨349, 20, 349, 61⟩, ⟨349, 20, 349, 49⟩, ⟨349, 20, 349, 33⟩, ⟨349, 37, 349, 48⟩, ⟨349, 37, 349, 44⟩, ⟨349, 47, 349, 48⟩, ⟨349, 52, 349, 61⟩, ⟨349, 66, 349, 67⟩, ⟨349, 71, 349, 105⟩, ⟨349, 71, 349, 82⟩, ⟨349, 83, 349, 104⟩, ⟨349, 83, 349, 99⟩, ⟨349, 83, 349, 86⟩, ⟨349, 87, 349, 98⟩, ⟨349, 87, 349, 94⟩, ⟨349, 97, 349, 98⟩, ⟨349, 102, 349, 104⟩, ⟨350, 4, 350, 112⟩, ⟨350, 4, 350, 14⟩, ⟨350, 17, 350, 112⟩, ⟨350, 17, 350, 75⟩, ⟨350, 17, 350, 20⟩, ⟨350, 21, 350, 74⟩, ⟨350, 22, 350, 68⟩, ⟨350, 22, 350, 58⟩, ⟨350, 22, 350, 30⟩, ⟨350, 33, 350, 58⟩, ⟨350, 33, 350, 51⟩, ⟨350, 33, 350, 36⟩, ⟨350, 37, 350, 50⟩, ⟨350, 54, 350, 58⟩, ⟨350, 61, 350, 68⟩, ⟨350, 73, 350, 74⟩, ⟨350, 78, 350, 112⟩, ⟨350, 78, 350, 89⟩, ⟨350, 90, 350, 111⟩, ⟨350, 90, 350, 106⟩, ⟨350, 90, 350, 93⟩, ⟨350, 94, 350, 105⟩, ⟨350, 94, 350, 101⟩, ⟨350, 104, 350, 105⟩, ⟨350, 109, 350, 111⟩, ⟨351, 4, 351, 76⟩, ⟨351, 11, 351, 76⟩, ⟨351, 11, 351, 63⟩, ⟨351, 12, 351, 49⟩, ⟨351, 12, 351, 38⟩, ⟨351, 12, 351, 25⟩, ⟨351, 28, 351, 38⟩, ⟨351, 41, 351, 49⟩, ⟨351, 53, 351, 63⟩, ⟨351, 66, 351, 76⟩],
  [],
  []⟩
theorem em__law_spread : (emSs nN__law_spread ir_spread nE__law_spread).1 = defBody st__law_spread := by rfl
theorem ok__law_spread : okSs nN__law_spread (defScope st__law_spread) ir_spread nE__law_spread = true := by decide +kernel
theorem sc__law_spread : FnScope nN__law_spread ["_law_cell", "_law_at"] (defScope st__law_spread) := ⟨rfl, rfl, rfl, by decide +kernel, rfl, by decide +kernel, by decide +kernel⟩

abbrev st__law_take : Stmt := top 83
def nN__law_take : List Str := ["_law_pen", "_law_many", "_law_at", "_law_cell", "_law_found"]
def nE__law_take : Em := ⟨[⟨358, 4, 366, 53⟩, ⟨358, 7, 358, 30⟩, ⟨358, 7, 358, 18⟩, ⟨358, 7, 358, 15⟩, ⟨358, 16, 358, 17⟩, ⟨358, 21, 358, 30⟩, ⟨359, 8, 359, 29⟩, ⟨359, 8, 359, 15⟩, ⟨359, 18, 359, 29⟩, ⟨359, 18, 359, 26⟩, ⟨359, 27, 359, 28⟩, ⟨360, 8, 360, 21⟩, ⟨360, 8, 360, 17⟩, ⟨360, 20, 360, 21⟩, ⟨361, 8, 364, 104⟩, ⟨361, 11, 361, 37⟩, ⟨361, 11, 361, 18⟩, ⟨361, 21, 361, 37⟩, ⟨361, 21, 361, 24⟩, ⟨361, 25, 361, 36⟩, ⟨361, 25, 361, 33⟩, ⟨361, 34, 361, 35⟩, ⟨362, 12, 362, 44⟩, ⟨362, 12, 362, 21⟩, ⟨362, 24, 362, 44⟩, ⟨362, 24, 362, 35⟩, ⟨362, 24, 362, 32⟩, ⟨362, 33, 362, 34⟩, ⟨362, 36, 362, 43⟩, ⟨363, 8, 364, 104⟩, ⟨363, 13, 363, 33⟩, ⟨363, 13, 363, 29⟩, ⟨363, 13, 363, 16⟩, ⟨363, 17, 363, 28⟩, ⟨363, 17, 363, 25⟩, ⟨363, 26, 363, 27⟩, ⟨363, 32, 363, 33⟩, ⟨364, 12, 364, 104⟩, ⟨364, 12, 364, 21⟩, ⟨364, 24, 364, 104⟩, ⟨364, 24, 364, 81⟩, ⟨364, 24, 364, 27⟩, ⟨364, 28, 364, 80⟩, ⟨364, 28, 364, 39⟩, ⟨364, 28, 364, 36⟩, ⟨364, 37, 364, 38⟩, ⟨364, 40, 364, 79⟩, ⟨364, 40, 364, 60⟩, ⟨364, 40, 364, 43⟩, ⟨364, 44, 364, 59⟩, ⟨364, 44, 364, 55⟩, ⟨364, 44, 364, 51⟩, ⟨364, 54, 364, 55⟩, ⟨364, 58, 364, 59⟩, ⟨364, 63, 364, 79⟩, ⟨364, 63, 364, 66⟩, ⟨364, 67, 364, 78⟩, ⟨364, 67, 364, 75⟩, ⟨364, 76, 364, 77⟩, ⟨364, 85, 364, 103⟩, ⟨364, 85, 364, 93⟩, ⟨364, 85, 364, 87⟩, ⟨364, 91, 364, 93⟩, ⟨364, 96, 364, 103⟩, ⟨365, 8, 365, 33⟩, ⟨365, 8, 365, 19⟩, ⟨365, 8, 365, 16⟩, ⟨365, 17, 365, 18⟩, ⟨365, 22, 365, 33⟩, ⟨365, 22, 365, 29⟩, ⟨365, 32, 365, 33⟩, ⟨366, 8, 366, 53⟩, ⟨366, 8, 366, 19⟩, ⟨366, 8, 366, 16⟩, ⟨366, 17, 366, 18⟩, ⟨366, 22, 366, 53⟩, ⟨366, 22, 366, 33⟩, ⟨366, 34, 366, 43⟩, ⟨366, 45, 366, 52⟩, ⟨367, 4, 367, 45⟩, ⟨367, 4, 367, 14⟩, ⟨367, 17, 367, 45⟩, ⟨367, 17, 367, 33⟩, ⟨367, 17, 367, 20⟩, ⟨367, 21, 367, 32⟩, ⟨367, 21, 367, 29⟩, ⟨367, 30, 367, 31⟩, ⟨367, 36, 367, 45⟩, ⟨368, 4, 368, 42⟩, ⟨368, 4, 368, 15⟩, ⟨368, 4, 368, 12⟩, ⟨368, 13, 368, 14⟩, ⟨368, 18, 368, 42⟩, ⟨368, 18, 368, 29⟩, ⟨368, 18, 368, 26⟩, ⟨368, 27, 368, 28⟩, ⟨368, 33, 368, 42⟩, ⟨369, 4, 369, 21⟩, ⟨369, 11, 369, 21⟩],
  [],
  []⟩
theorem em__law_take : (emSs nN__law_take ir_take nE__law_take).1 = defBody st__law_take := by rfl
theorem ok__law_take : okSs nN__law_take (defScope st__law_take) ir_take nE__law_take = true := by decide +kernel
theorem sc__law_take : FnScope nN__law_take ["_law_pen", "_law_many"] (defScope st__law_take) := ⟨rfl, rfl, rfl, by decide +kernel, rfl, by decide +kernel, by decide +kernel⟩

abbrev st__law_one : Stmt := top 84
def nN__law_one : List Str := ["_law_pen", "_law_some"]
def nE__law_one : Em := ⟨[⟨371, 4, 371, 57⟩, ⟨371, 11, 371, 57⟩, ⟨371, 11, 371, 20⟩, ⟨371, 21, 371, 56⟩, ⟨371, 21, 371, 30⟩, ⟨371, 31, 371, 39⟩, ⟨371, 41, 371, 55⟩, ⟨371, 41, 371, 44⟩, ⟨371, 45, 371, 54⟩],
  [],
  []⟩
theorem em__law_one : (emSs nN__law_one ir_one nE__law_one).1 = defBody st__law_one := by rfl
theorem ok__law_one : okSs nN__law_one (defScope st__law_one) ir_one nE__law_one = true := by decide +kernel
theorem sc__law_one : FnScope nN__law_one ["_law_pen", "_law_some"] (defScope st__law_one) := ⟨rfl, rfl, rfl, by decide +kernel, rfl, by decide +kernel, by decide +kernel⟩

abbrev st_is_integer : Stmt := top 7
def nN_is_integer : List Str := ["value"]
def nE_is_integer : Em := ⟨[⟨14, 4, 14, 67⟩, ⟨14, 11, 14, 67⟩, ⟨14, 11, 14, 33⟩, ⟨14, 11, 14, 21⟩, ⟨14, 22, 14, 27⟩, ⟨14, 29, 14, 32⟩, ⟨14, 39, 14, 66⟩, ⟨14, 43, 14, 66⟩, ⟨14, 43, 14, 53⟩, ⟨14, 54, 14, 59⟩, ⟨14, 61, 14, 65⟩],
  [],
  []⟩
theorem em_is_integer : (emSs nN_is_integer ir_is_integer nE_is_integer).1 = defBody st_is_integer := by rfl
theorem ok_is_integer : okSs nN_is_integer (defScope st_is_integer) ir_is_integer nE_is_integer = true := by decide +kernel
theorem sc_is_integer : FnScope nN_is_integer ["value"] (defScope st_is_integer) := ⟨rfl, rfl, rfl, by decide +kernel, rfl, by decide +kernel, by decide +kernel⟩

abbrev st_is_between : Stmt := top 8
def nN_is_between : List Str := ["value", "least", "most"]
def nE_is_between : Em := ⟨[⟨16, 4, 16, 55⟩, ⟨16, 11, 16, 55⟩, ⟨16, 11, 16, 28⟩, ⟨16, 11, 16, 21⟩, ⟨16, 22, 16, 27⟩, ⟨16, 33, 16, 55⟩, ⟨16, 33, 16, 38⟩, ⟨16, 42, 16, 47⟩, ⟨16, 51, 16, 55⟩],
  [],
  []⟩
theorem em_is_between : (emSs nN_is_between ir_is_between nE_is_between).1 = defBody st_is_between := by rfl
theorem ok_is_between : okSs nN_is_between (defScope st_is_between) ir_is_between nE_is_between = true := by decide +kernel
theorem sc_is_between : FnScope nN_is_between ["value", "least", "most"] (defScope st_is_between) := ⟨rfl, rfl, rfl, by decide +kernel, rfl, by decide +kernel, by decide +kernel⟩

abbrev st_is_digits : Stmt := top 15
def nN_is_digits : List Str := ["value", "entry", "first", "second"]
def nE_is_digits : Em := ⟨[⟨25, 4, 26, 20⟩, ⟨25, 7, 25, 92⟩, ⟨25, 7, 25, 35⟩, ⟨25, 11, 25, 35⟩, ⟨25, 11, 25, 21⟩, ⟨25, 22, 25, 27⟩, ⟨25, 29, 25, 34⟩, ⟨25, 39, 25, 92⟩, ⟨25, 43, 25, 92⟩, ⟨25, 43, 25, 46⟩, ⟨25, 47, 25, 91⟩, ⟨25, 48, 25, 71⟩, ⟨25, 48, 25, 58⟩, ⟨25, 59, 25, 64⟩, ⟨25, 66, 25, 67⟩, ⟨25, 69, 25, 70⟩, ⟨25, 76, 25, 81⟩, ⟨25, 85, 25, 90⟩, ⟨26, 8, 26, 20⟩, ⟨26, 15, 26, 20⟩, ⟨27, 4, 27, 75⟩, ⟨27, 11, 27, 75⟩, ⟨27, 11, 27, 14⟩, ⟨27, 15, 27, 74⟩, ⟨27, 16, 27, 30⟩, ⟨27, 16, 27, 21⟩, ⟨27, 24, 27, 30⟩, ⟨27, 35, 27, 48⟩, ⟨27, 35, 27, 40⟩, ⟨27, 42, 27, 48⟩, ⟨27, 52, 27, 73⟩, ⟨27, 52, 27, 55⟩, ⟨27, 56, 27, 61⟩, ⟨27, 63, 27, 72⟩, ⟨27, 69, 27, 71⟩, ⟨27, 63, 27, 68⟩, ⟨27, 69, 27, 70⟩],
  [{ kind := .function, names := [(".0", .local), ("entry", .local), ("is_between", .globalImplicit)], isGenerator := false, isCoroutine := false, more := [] },
   { kind := .function, names := [(".0", .local), ("first", .local), ("second", .local)], isGenerator := false, isCoroutine := false, more := [] }],
  []⟩
theorem em_is_digits : (emSs nN_is_digits ir_is_digits nE_is_digits).1 = defBody st_is_digits := by rfl
theorem ok_is_digits : okSs nN_is_digits (defScope st_is_digits) ir_is_digits nE_is_digits = true := by decide +kernel
theorem sc_is_digits : FnScope nN_is_digits ["value"] (defScope st_is_digits) := ⟨rfl, rfl, rfl, by decide +kernel, rfl, by decide +kernel, by decide +kernel⟩

abbrev st_is_time : Stmt := top 14
def nN_is_time : List Str := ["value"]
def nE_is_time : Em := ⟨[⟨23, 4, 23, 42⟩, ⟨23, 11, 23, 42⟩, ⟨23, 11, 23, 21⟩, ⟨23, 22, 23, 27⟩, ⟨23, 29, 23, 30⟩, ⟨23, 32, 23, 41⟩],
  [],
  []⟩
theorem em_is_time : (emSs nN_is_time ir_is_time nE_is_time).1 = defBody st_is_time := by rfl
theorem ok_is_time : okSs nN_is_time (defScope st_is_time) ir_is_time nE_is_time = true := by decide +kernel
theorem sc_is_time : FnScope nN_is_time ["value"] (defScope st_is_time) := ⟨rfl, rfl, rfl, by decide +kernel, rfl, by decide +kernel, by decide +kernel⟩

abbrev st_is_step : Stmt := top 16
def nN_is_step : List Str := ["value"]
def nE_is_step : Em := ⟨[⟨29, 4, 30, 20⟩, ⟨29, 7, 29, 54⟩, ⟨29, 7, 29, 35⟩, ⟨29, 11, 29, 35⟩, ⟨29, 11, 29, 21⟩, ⟨29, 22, 29, 27⟩, ⟨29, 29, 29, 34⟩, ⟨29, 39, 29, 54⟩, ⟨29, 39, 29, 49⟩, ⟨29, 39, 29, 42⟩, ⟨29, 43, 29, 48⟩, ⟨29, 53, 29, 54⟩, ⟨30, 8, 30, 20⟩, ⟨30, 15, 30, 20⟩, ⟨31, 4, 31, 68⟩, ⟨31, 11, 31, 68⟩, ⟨31, 11, 31, 28⟩, ⟨31, 11, 31, 18⟩, ⟨31, 19, 31, 27⟩, ⟨31, 19, 31, 24⟩, ⟨31, 25, 31, 26⟩, ⟨31, 33, 31, 68⟩, ⟨31, 33, 31, 43⟩, ⟨31, 44, 31, 52⟩, ⟨31, 44, 31, 49⟩, ⟨31, 50, 31, 51⟩, ⟨31, 54, 31, 55⟩, ⟨31, 57, 31, 67⟩],
  [],
  []⟩
theorem em_is_step : (emSs nN_is_step ir_is_step nE_is_step).1 = defBody st_is_step := by rfl
theorem ok_is_step : okSs nN_is_step (defScope st_is_step) ir_is_step nE_is_step = true := by decide +kernel
theorem sc_is_step : FnScope nN_is_step ["value"] (defScope st_is_step) := ⟨rfl, rfl, rfl, by decide +kernel, rfl, by decide +kernel, by decide +kernel⟩

abbrev st_is_steps : Stmt := top 17
def nN_is_steps : List Str := ["value", "step", "first", "second"]
def nE_is_steps : Em := ⟨[⟨33, 4, 34, 20⟩, ⟨33, 7, 33, 72⟩, ⟨33, 7, 33, 35⟩, ⟨33, 11, 33, 35⟩, ⟨33, 11, 33, 21⟩, ⟨33, 22, 33, 27⟩, ⟨33, 29, 33, 34⟩, ⟨33, 39, 33, 72⟩, ⟨33, 43, 33, 72⟩, ⟨33, 43, 33, 44⟩, ⟨33, 48, 33, 58⟩, ⟨33, 48, 33, 51⟩, ⟨33, 52, 33, 57⟩, ⟨33, 62, 33, 72⟩, ⟨34, 8, 34, 20⟩, ⟨34, 15, 34, 20⟩, ⟨35, 4, 36, 20⟩, ⟨35, 7, 35, 69⟩, ⟨35, 7, 35, 49⟩, ⟨35, 11, 35, 49⟩, ⟨35, 11, 35, 14⟩, ⟨35, 15, 35, 48⟩, ⟨35, 16, 35, 29⟩, ⟨35, 16, 35, 23⟩, ⟨35, 24, 35, 28⟩, ⟨35, 34, 35, 38⟩, ⟨35, 42, 35, 47⟩, ⟨35, 53, 35, 69⟩, ⟨35, 53, 35, 64⟩, ⟨35, 53, 35, 61⟩, ⟨35, 53, 35, 58⟩, ⟨35, 59, 35, 60⟩, ⟨35, 62, 35, 63⟩, ⟨35, 68, 35, 69⟩, ⟨36, 8, 36, 20⟩, ⟨36, 15, 36, 20⟩, ⟨37, 4, 37, 81⟩, ⟨37, 11, 37, 81⟩, ⟨37, 11, 37, 14⟩, ⟨37, 15, 37, 80⟩, ⟨37, 16, 37, 36⟩, ⟨37, 16, 37, 24⟩, ⟨37, 16, 37, 21⟩, ⟨37, 22, 37, 23⟩, ⟨37, 27, 37, 36⟩, ⟨37, 27, 37, 33⟩, ⟨37, 34, 37, 35⟩, ⟨37, 41, 37, 54⟩, ⟨37, 41, 37, 46⟩, ⟨37, 48, 37, 54⟩, ⟨37, 58, 37, 79⟩, ⟨37, 58, 37, 61⟩, ⟨37, 62, 37, 67⟩, ⟨37, 69, 37, 78⟩, ⟨37, 75, 37, 77⟩, ⟨37, 69, 37, 74⟩, ⟨37, 75, 37, 76⟩],
  [{ kind := .function, names := [(".0", .local), ("step", .local), ("is_step", .globalImplicit)], isGenerator := false, isCoroutine := false, more := [] },
   { kind := .function, names := [(".0", .local), ("first", .local), ("second", .local)], isGenerator := false, isCoroutine := false, more := [] }],
  []⟩
theorem em_is_steps : (emSs nN_is_steps ir_is_steps nE_is_steps).1 = defBody st_is_steps := by rfl
theorem ok_is_steps : okSs nN_is_steps (defScope st_is_steps) ir_is_steps nE_is_steps = true := by decide +kernel
theorem sc_is_steps : FnScope nN_is_steps ["value"] (defScope st_is_steps) := ⟨rfl, rfl, rfl, by decide +kernel, rfl, by decide +kernel, by decide +kernel⟩

abbrev st_is_kind : Stmt := top 18
def nN_is_kind : List Str := ["value"]
def nE_is_kind : Em := ⟨[⟨39, 4, 40, 20⟩, ⟨39, 7, 39, 54⟩, ⟨39, 7, 39, 35⟩, ⟨39, 11, 39, 35⟩, ⟨39, 11, 39, 21⟩, ⟨39, 22, 39, 27⟩, ⟨39, 29, 39, 34⟩, ⟨39, 39, 39, 54⟩, ⟨39, 39, 39, 49⟩, ⟨39, 39, 39, 42⟩, ⟨39, 43, 39, 48⟩, ⟨39, 53, 39, 54⟩, ⟨40, 8, 40, 20⟩, ⟨40, 15, 40, 20⟩, ⟨41, 4, 41, 96⟩, ⟨41, 11, 41, 96⟩, ⟨41, 11, 41, 30⟩, ⟨41, 11, 41, 20⟩, ⟨41, 21, 41, 29⟩, ⟨41, 21, 41, 26⟩, ⟨41, 27, 41, 28⟩, ⟨41, 35, 41, 49⟩, ⟨41, 35, 41, 43⟩, ⟨41, 35, 41, 40⟩, ⟨41, 41, 41, 42⟩, ⟨41, 47, 41, 49⟩, ⟨41, 54, 41, 73⟩, ⟨41, 54, 41, 63⟩, ⟨41, 64, 41, 72⟩, ⟨41, 64, 41, 69⟩, ⟨41, 70, 41, 71⟩, ⟨41, 78, 41, 96⟩, ⟨41, 78, 41, 86⟩, ⟨41, 87, 41, 95⟩, ⟨41, 87, 41, 92⟩, ⟨41, 93, 41, 94⟩],
  [],
  []⟩
theorem em_is_kind : (emSs nN_is_kind ir_is_kind nE_is_kind).1 = defBody st_is_kind := by rfl
theorem ok_is_kind : okSs nN_is_kind (defScope st_is_kind) ir_is_kind nE_is_kind = true := by decide +kernel
theorem sc_is_kind : FnScope nN_is_kind ["value"] (defScope st_is_kind) := ⟨rfl, rfl, rfl, by decide +kernel, rfl, by decide +kernel, by decide +kernel⟩

abbrev st_is_pool : Stmt := top 19
def nN_is_pool : List Str := ["value", "kind"]
def nE_is_pool : Em := ⟨[⟨43, 4, 44, 20⟩, ⟨43, 7, 43, 72⟩, ⟨43, 7, 43, 35⟩, ⟨43, 11, 43, 35⟩, ⟨43, 11, 43, 21⟩, ⟨43, 22, 43, 27⟩, ⟨43, 29, 43, 34⟩, ⟨43, 39, 43, 72⟩, ⟨43, 43, 43, 72⟩, ⟨43, 43, 43, 44⟩, ⟨43, 48, 43, 58⟩, ⟨43, 48, 43, 51⟩, ⟨43, 52, 43, 57⟩, ⟨43, 62, 43, 72⟩, ⟨44, 8, 44, 20⟩, ⟨44, 15, 44, 20⟩, ⟨45, 4, 45, 49⟩, ⟨45, 11, 45, 49⟩, ⟨45, 11, 45, 14⟩, ⟨45, 15, 45, 48⟩, ⟨45, 16, 45, 29⟩, ⟨45, 16, 45, 23⟩, ⟨45, 24, 45, 28⟩, ⟨45, 34, 45, 38⟩, ⟨45, 42, 45, 47⟩],
  [{ kind := .function, names := [(".0", .local), ("kind", .local), ("is_kind", .globalImplicit)], isGenerator := false, isCoroutine := false, more := [] }],
  []⟩
theorem em_is_pool : (emSs nN_is_pool ir_is_pool nE_is_pool).1 = defBody st_is_pool := by rfl
theorem ok_is_pool : okSs nN_is_pool (defScope st_is_pool) ir_is_pool nE_is_pool = true := by decide +kernel
theorem sc_is_pool : FnScope nN_is_pool ["value"] (defScope st_is_pool) := ⟨rfl, rfl, rfl, by decide +kernel, rfl, by decide +kernel, by decide +kernel⟩

abbrev st_require_pool : Stmt := top 20
def nN_require_pool : List Str := ["pool"]
def nE_require_pool : Em := ⟨[⟨47, 4, 48, 39⟩, ⟨47, 7, 47, 24⟩, ⟨47, 11, 47, 24⟩, ⟨47, 11, 47, 18⟩, ⟨47, 19, 47, 23⟩],
  [],
  [nav [0, 0, 0] (defBody st_require_pool)]⟩
theorem em_require_pool : (emSs nN_require_pool ir_require_pool nE_require_pool).1 = defBody st_require_pool := by rfl
theorem ok_require_pool : okSs nN_require_pool (defScope st_require_pool) ir_require_pool nE_require_pool = true := by decide +kernel
theorem sc_require_pool : FnScope nN_require_pool ["pool"] (defScope st_require_pool) := ⟨rfl, rfl, rfl, by decide +kernel, rfl, by decide +kernel, by decide +kernel⟩

abbrev st_serves : Stmt := top 22
def nN_serves : List Str := ["kind", "group", "feature"]
def nE_serves : Em := ⟨[⟨53, 4, 53, 69⟩, ⟨53, 11, 53, 69⟩, ⟨53, 11, 53, 29⟩, ⟨53, 11, 53, 18⟩, ⟨53, 22, 53, 29⟩, ⟨53, 22, 53, 26⟩, ⟨53, 27, 53, 28⟩, ⟨53, 35, 53, 68⟩, ⟨53, 35, 53, 48⟩, ⟨53, 35, 53, 42⟩, ⟨53, 35, 53, 39⟩, ⟨53, 40, 53, 41⟩, ⟨53, 46, 53, 48⟩, ⟨53, 52, 53, 68⟩, ⟨53, 52, 53, 57⟩, ⟨53, 61, 53, 68⟩, ⟨53, 61, 53, 65⟩, ⟨53, 66, 53, 67⟩],
  [],
  []⟩
theorem em_serves : (emSs nN_serves ir_serves nE_serves).1 = defBody st_serves := by rfl
theorem ok_serves : okSs nN_serves (defScope st_serves) ir_serves nE_serves = true := by decide +kernel
theorem sc_serves : FnScope nN_serves ["kind", "group", "feature"] (defScope st_serves) := ⟨rfl, rfl, rfl, by decide +kernel, rfl, by decide +kernel, by decide +kernel⟩

abbrev st_is_claim_of : Stmt := top 26
def nN_is_claim_of : List Str := ["pool", "value", "group", "feature", "start", "end", "kind"]
def nE_is_claim_of : Em := ⟨[⟨63, 4, 64, 20⟩, ⟨63, 7, 63, 54⟩, ⟨63, 7, 63, 35⟩, ⟨63, 11, 63, 35⟩, ⟨63, 11, 63, 21⟩, ⟨63, 22, 63, 27⟩, ⟨63, 29, 63, 34⟩, ⟨63, 39, 63, 54⟩, ⟨63, 39, 63, 49⟩, ⟨63, 39, 63, 42⟩, ⟨63, 43, 63, 48⟩, ⟨63, 53, 63, 54⟩, ⟨64, 8, 64, 20⟩, ⟨64, 15, 64, 20⟩, ⟨65, 4, 65, 44⟩, ⟨65, 4, 65, 36⟩, ⟨65, 4, 65, 9⟩, ⟨65, 11, 65, 18⟩, ⟨65, 20, 65, 25⟩, ⟨65, 27, 65, 30⟩, ⟨65, 32, 65, 36⟩, ⟨65, 39, 65, 44⟩, ⟨66, 4, 67, 20⟩, ⟨66, 7, 66, 67⟩, ⟨66, 7, 66, 34⟩, ⟨66, 11, 66, 34⟩, ⟨66, 11, 66, 21⟩, ⟨66, 22, 66, 27⟩, ⟨66, 29, 66, 30⟩, ⟨66, 32, 66, 33⟩, ⟨66, 38, 66, 67⟩, ⟨66, 42, 66, 67⟩, ⟨66, 42, 66, 52⟩, ⟨66, 53, 66, 60⟩, ⟨66, 62, 66, 63⟩, ⟨66, 65, 66, 66⟩, ⟨67, 8, 67, 20⟩, ⟨67, 15, 67, 20⟩, ⟨68, 4, 69, 20⟩, ⟨68, 7, 68, 61⟩, ⟨68, 7, 68, 25⟩, ⟨68, 11, 68, 25⟩, ⟨68, 11, 68, 18⟩, ⟨68, 19, 68, 24⟩, ⟨68, 29, 68, 45⟩, ⟨68, 33, 68, 45⟩, ⟨68, 33, 68, 40⟩, ⟨68, 41, 68, 44⟩, ⟨68, 49, 68, 61⟩, ⟨68, 49, 68, 54⟩, ⟨68, 58, 68, 61⟩, ⟨69, 8, 69, 20⟩, ⟨69, 15, 69, 20⟩, ⟨70, 4, 70, 102⟩, ⟨70, 11, 70, 102⟩, ⟨70, 11, 70, 23⟩, ⟨70, 11, 70, 15⟩, ⟨70, 19, 70, 23⟩, ⟨70, 28, 70, 101⟩, ⟨70, 28, 70, 62⟩, ⟨70, 28, 70, 38⟩, ⟨70, 39, 70, 43⟩, ⟨70, 45, 70, 46⟩, ⟨70, 48, 70, 61⟩, ⟨70, 48, 70, 57⟩, ⟨70, 48, 70, 51⟩, ⟨70, 52, 70, 56⟩, ⟨70, 60, 70, 61⟩, ⟨70, 67, 70, 101⟩, ⟨70, 67, 70, 73⟩, ⟨70, 74, 70, 84⟩, ⟨70, 74, 70, 78⟩, ⟨70, 79, 70, 83⟩, ⟨70, 86, 70, 91⟩, ⟨70, 93, 70, 100⟩],
  [],
  []⟩
theorem em_is_claim_of : (emSs nN_is_claim_of ir_is_claim_of nE_is_claim_of).1 = defBody st_is_claim_of := by rfl
theorem ok_is_claim_of : okSs nN_is_claim_of (defScope st_is_claim_of) ir_is_claim_of nE_is_claim_of = true := by decide +kernel
theorem sc_is_claim_of : FnScope nN_is_claim_of ["pool", "value"] (defScope st_is_claim_of) := ⟨rfl, rfl, rfl, by decide +kernel, rfl, by decide +kernel, by decide +kernel⟩

abbrev st_are_claims : Stmt := top 31
def nN_are_claims : List Str := ["pool", "value", "most", "claim"]
def nE_are_claims : Em := ⟨[⟨77, 4, 78, 20⟩, ⟨77, 7, 77, 56⟩, ⟨77, 7, 77, 35⟩, ⟨77, 11, 77, 35⟩, ⟨77, 11, 77, 21⟩, ⟨77, 22, 77, 27⟩, ⟨77, 29, 77, 34⟩, ⟨77, 39, 77, 56⟩, ⟨77, 39, 77, 49⟩, ⟨77, 39, 77, 42⟩, ⟨77, 43, 77, 48⟩, ⟨77, 52, 77, 56⟩, ⟨78, 8, 78, 20⟩, ⟨78, 15, 78, 20⟩, ⟨79, 4, 79, 61⟩, ⟨79, 11, 79, 61⟩, ⟨79, 11, 79, 14⟩, ⟨79, 15, 79, 60⟩, ⟨79, 16, 79, 40⟩, ⟨79, 16, 79, 27⟩, ⟨79, 28, 79, 32⟩, ⟨79, 34, 79, 39⟩, ⟨79, 45, 79, 50⟩, ⟨79, 54, 79, 59⟩],
  [{ kind := .function, names := [(".0", .local), ("claim", .local), ("is_claim_of", .globalImplicit), ("pool", .free)], isGenerator := false, isCoroutine := false, more := [] }],
  []⟩
theorem em_are_claims : (emSs nN_are_claims ir_are_claims nE_are_claims).1 = defBody st_are_claims := by rfl
theorem ok_are_claims : okSs nN_are_claims (defScope st_are_claims) ir_are_claims nE_are_claims = true := by decide +kernel
theorem sc_are_claims : FnScope nN_are_claims ["pool", "value", "most"] (defScope st_are_claims) := ⟨rfl, rfl, rfl, by decide +kernel, rfl, by decide +kernel, by decide +kernel⟩

abbrev st_require_claims : Stmt := top 32
def nN_require_claims : List Str := ["pool", "claims"]
def nE_require_claims : Em := ⟨[⟨81, 4, 81, 22⟩, ⟨81, 4, 81, 22⟩, ⟨81, 4, 81, 16⟩, ⟨81, 17, 81, 21⟩, ⟨82, 4, 83, 53⟩, ⟨82, 7, 82, 48⟩, ⟨82, 11, 82, 48⟩, ⟨82, 11, 82, 21⟩, ⟨82, 22, 82, 26⟩, ⟨82, 28, 82, 34⟩, ⟨82, 36, 82, 47⟩],
  [],
  [nav [1, 0, 0] (defBody st_require_claims)]⟩
theorem em_require_claims : (emSs nN_require_claims ir_require_claims nE_require_claims).1 = defBody st_require_claims := by rfl
theorem ok_require_claims : okSs nN_require_claims (defScope st_require_claims) ir_require_claims nE_require_claims = true := by decide +kernel
theorem sc_require_claims : FnScope nN_require_claims ["pool", "claims"] (defScope st_require_claims) := ⟨rfl, rfl, rfl, by decide +kernel, rfl, by decide +kernel, by decide +kernel⟩

abbrev st_require_waiting : Stmt := top 33
def nN_require_waiting : List Str := ["pool", "waiting"]
def nE_require_waiting : Em := ⟨[⟨85, 4, 86, 61⟩, ⟨85, 7, 85, 50⟩, ⟨85, 11, 85, 50⟩, ⟨85, 11, 85, 21⟩, ⟨85, 22, 85, 26⟩, ⟨85, 28, 85, 35⟩, ⟨85, 37, 85, 49⟩],
  [],
  [nav [0, 0, 0] (defBody st_require_waiting)]⟩
theorem em_require_waiting : (emSs nN_require_waiting ir_require_waiting nE_require_waiting).1 = defBody st_require_waiting := by rfl
theorem ok_require_waiting : okSs nN_require_waiting (defScope st_require_waiting) ir_require_waiting nE_require_waiting = true := by decide +kernel
theorem sc_require_waiting : FnScope nN_require_waiting ["pool", "waiting"] (defScope st_require_waiting) := ⟨rfl, rfl, rfl, by decide +kernel, rfl, by decide +kernel, by decide +kernel⟩

abbrev st_require_time : Stmt := top 21
def nN_require_time : List Str := ["time"]
def nE_require_time : Em := ⟨[⟨50, 4, 51, 39⟩, ⟨50, 7, 50, 24⟩, ⟨50, 11, 50, 24⟩, ⟨50, 11, 50, 18⟩, ⟨50, 19, 50, 23⟩],
  [],
  [nav [0, 0, 0] (defBody st_require_time)]⟩
theorem em_require_time : (emSs nN_require_time ir_require_time nE_require_time).1 = defBody st_require_time := by rfl
theorem ok_require_time : okSs nN_require_time (defScope st_require_time) ir_require_time nE_require_time = true := by decide +kernel
theorem sc_require_time : FnScope nN_require_time ["time"] (defScope st_require_time) := ⟨rfl, rfl, rfl, by decide +kernel, rfl, by decide +kernel, by decide +kernel⟩

abbrev st_is_active : Stmt := top 34
def nN_is_active : List Str := ["claim", "time"]
def nE_is_active : Em := ⟨[⟨88, 4, 88, 38⟩, ⟨88, 11, 88, 38⟩, ⟨88, 11, 88, 19⟩, ⟨88, 11, 88, 16⟩, ⟨88, 17, 88, 18⟩, ⟨88, 23, 88, 27⟩, ⟨88, 30, 88, 38⟩, ⟨88, 30, 88, 35⟩, ⟨88, 36, 88, 37⟩],
  [],
  []⟩
theorem em_is_active : (emSs nN_is_active ir_is_active nE_is_active).1 = defBody st_is_active := by rfl
theorem ok_is_active : okSs nN_is_active (defScope st_is_active) ir_is_active nE_is_active = true := by decide +kernel
theorem sc_is_active : FnScope nN_is_active ["claim", "time"] (defScope st_is_active) := ⟨rfl, rfl, rfl, by decide +kernel, rfl, by decide +kernel, by decide +kernel⟩

abbrev st_find_active : Stmt := top 35
def nN_find_active : List Str := ["claims", "time", "number", "claim"]
def nE_find_active : Em := ⟨[⟨90, 4, 90, 84⟩, ⟨90, 11, 90, 84⟩, ⟨90, 12, 90, 18⟩, ⟨90, 23, 90, 36⟩, ⟨90, 23, 90, 29⟩, ⟨90, 31, 90, 36⟩, ⟨90, 40, 90, 57⟩, ⟨90, 40, 90, 49⟩, ⟨90, 50, 90, 56⟩, ⟨90, 61, 90, 83⟩, ⟨90, 61, 90, 70⟩, ⟨90, 71, 90, 76⟩, ⟨90, 78, 90, 82⟩],
  [{ kind := .function, names := [(".0", .local), ("number", .local), ("claim", .local), ("is_active", .globalImplicit), ("time", .free)], isGenerator := false, isCoroutine := false, more := [] }],
  []⟩
theorem em_find_active : (emSs nN_find_active ir_find_active nE_find_active).1 = defBody st_find_active := by rfl
theorem ok_find_active : okSs nN_find_active (defScope st_find_active) ir_find_active nE_find_active = true := by decide +kernel
theorem sc_find_active : FnScope nN_find_active ["claims", "time"] (defScope st_find_active) := ⟨rfl, rfl, rfl, by decide +kernel, rfl, by decide +kernel, by decide +kernel⟩

abbrev st_find_serving : Stmt := top 23
def nN_find_serving : List Str := ["pool", "group", "feature", "number", "kind"]
def nE_find_serving : Em := ⟨[⟨55, 4, 55, 87⟩, ⟨55, 11, 55, 87⟩, ⟨55, 12, 55, 18⟩, ⟨55, 23, 55, 35⟩, ⟨55, 23, 55, 29⟩, ⟨55, 31, 55, 35⟩, ⟨55, 39, 55, 54⟩, ⟨55, 39, 55, 48⟩, ⟨55, 49, 55, 53⟩, ⟨55, 58, 55, 86⟩, ⟨55, 58, 55, 64⟩, ⟨55, 65, 55, 69⟩, ⟨55, 71, 55, 76⟩, ⟨55, 78, 55, 85⟩],
  [{ kind := .function, names := [(".0", .local), ("number", .local), ("kind", .local), ("serves", .globalImplicit), ("feature", .free), ("group", .free)], isGenerator := false, isCoroutine := false, more := [] }],
  []⟩
theorem em_find_serving : (emSs nN_find_serving ir_find_serving nE_find_serving).1 = defBody st_find_serving := by rfl
theorem ok_find_serving : okSs nN_find_serving (defScope st_find_serving) ir_find_serving nE_find_serving = true := by decide +kernel
theorem sc_find_serving : FnScope nN_find_serving ["pool", "group", "feature"] (defScope st_find_serving) := ⟨rfl, rfl, rfl, by decide +kernel, rfl, by decide +kernel, by decide +kernel⟩

abbrev st_find_kinds : Stmt := top 24
def nN_find_kinds : List Str := ["pool", "claim"]
def nE_find_kinds : Em := ⟨[⟨57, 4, 58, 53⟩, ⟨57, 7, 57, 23⟩, ⟨57, 7, 57, 15⟩, ⟨57, 7, 57, 12⟩, ⟨57, 13, 57, 14⟩, ⟨57, 19, 57, 23⟩, ⟨58, 8, 58, 53⟩, ⟨58, 15, 58, 53⟩, ⟨58, 15, 58, 27⟩, ⟨58, 28, 58, 32⟩, ⟨58, 34, 58, 42⟩, ⟨58, 34, 58, 39⟩, ⟨58, 40, 58, 41⟩, ⟨58, 44, 58, 52⟩, ⟨58, 44, 58, 49⟩, ⟨58, 50, 58, 51⟩, ⟨59, 4, 59, 21⟩, ⟨59, 11, 59, 21⟩, ⟨59, 12, 59, 20⟩, ⟨59, 12, 59, 17⟩, ⟨59, 18, 59, 19⟩],
  [],
  []⟩
theorem em_find_kinds : (emSs nN_find_kinds ir_find_kinds nE_find_kinds).1 = defBody st_find_kinds := by rfl
theorem ok_find_kinds : okSs nN_find_kinds (defScope st_find_kinds) ir_find_kinds nE_find_kinds = true := by decide +kernel
theorem sc_find_kinds : FnScope nN_find_kinds ["pool", "claim"] (defScope st_find_kinds) := ⟨rfl, rfl, rfl, by decide +kernel, rfl, by decide +kernel, by decide +kernel⟩

abbrev st_find_seats : Stmt := top 25
def nN_find_seats : List Str := ["pool", "kind", "time", "start", "number"]
def nE_find_seats : Em := ⟨[⟨61, 4, 61, 75⟩, ⟨61, 11, 61, 75⟩, ⟨61, 11, 61, 71⟩, ⟨61, 12, 61, 18⟩, ⟨61, 23, 61, 36⟩, ⟨61, 23, 61, 28⟩, ⟨61, 30, 61, 36⟩, ⟨61, 40, 61, 53⟩, ⟨61, 40, 61, 50⟩, ⟨61, 40, 61, 44⟩, ⟨61, 45, 61, 49⟩, ⟨61, 51, 61, 52⟩, ⟨61, 57, 61, 70⟩, ⟨61, 57, 61, 62⟩, ⟨61, 66, 61, 70⟩, ⟨61, 72, 61, 74⟩, ⟨61, 73, 61, 74⟩],
  [{ kind := .function, names := [(".0", .local), ("start", .local), ("number", .local), ("time", .free)], isGenerator := false, isCoroutine := false, more := [] }],
  []⟩
theorem em_find_seats : (emSs nN_find_seats ir_find_seats nE_find_seats).1 = defBody st_find_seats := by rfl
theorem ok_find_seats : okSs nN_find_seats (defScope st_find_seats) ir_find_seats nE_find_seats = true := by decide +kernel
theorem sc_find_seats : FnScope nN_find_seats ["pool", "kind", "time"] (defScope st_find_seats) := ⟨rfl, rfl, rfl, by decide +kernel, rfl, by decide +kernel, by decide +kernel⟩

abbrev st_is_seating_of : Stmt := top 38
def nN_is_seating_of : List Str := ["pool", "claims", "time", "value", "now", "number", "entry", "kind"]
def nE_is_seating_of : Em := ⟨[⟨98, 4, 99, 20⟩, ⟨98, 7, 98, 64⟩, ⟨98, 7, 98, 35⟩, ⟨98, 11, 98, 35⟩, ⟨98, 11, 98, 21⟩, ⟨98, 22, 98, 27⟩, ⟨98, 29, 98, 34⟩, ⟨98, 39, 98, 64⟩, ⟨98, 39, 98, 49⟩, ⟨98, 39, 98, 42⟩, ⟨98, 43, 98, 48⟩, ⟨98, 53, 98, 64⟩, ⟨98, 53, 98, 56⟩, ⟨98, 57, 98, 63⟩, ⟨99, 8, 99, 20⟩, ⟨99, 15, 99, 20⟩, ⟨100, 4, 100, 35⟩, ⟨100, 4, 100, 7⟩, ⟨100, 10, 100, 35⟩, ⟨100, 10, 100, 21⟩, ⟨100, 22, 100, 28⟩, ⟨100, 30, 100, 34⟩, ⟨101, 4, 106, 24⟩, ⟨101, 8, 101, 21⟩, ⟨101, 8, 101, 14⟩, ⟨101, 16, 101, 21⟩, ⟨101, 25, 101, 41⟩, ⟨101, 25, 101, 34⟩, ⟨101, 35, 101, 40⟩, ⟨102, 8, 106, 24⟩, ⟨102, 11, 102, 28⟩, ⟨102, 11, 102, 17⟩, ⟨102, 25, 102, 28⟩, ⟨103, 12, 104, 28⟩, ⟨103, 15, 103, 32⟩, ⟨103, 15, 103, 20⟩, ⟨103, 28, 103, 32⟩, ⟨104, 16, 104, 28⟩, ⟨104, 23, 104, 28⟩, ⟨105, 8, 106, 24⟩, ⟨105, 13, 105, 83⟩, ⟨105, 13, 105, 34⟩, ⟨105, 17, 105, 34⟩, ⟨105, 17, 105, 27⟩, ⟨105, 28, 105, 33⟩, ⟨105, 38, 105, 83⟩, ⟨105, 38, 105, 43⟩, ⟨105, 51, 105, 83⟩, ⟨105, 51, 105, 61⟩, ⟨105, 62, 105, 66⟩, ⟨105, 68, 105, 82⟩, ⟨105, 68, 105, 74⟩, ⟨105, 75, 105, 81⟩, ⟨106, 12, 106, 24⟩, ⟨106, 19, 106, 24⟩, ⟨107, 4, 107, 96⟩, ⟨107, 11, 107, 96⟩, ⟨107, 11, 107, 14⟩, ⟨107, 15, 107, 95⟩, ⟨107, 16, 107, 65⟩, ⟨107, 16, 107, 33⟩, ⟨107, 16, 107, 27⟩, ⟨107, 16, 107, 21⟩, ⟨107, 28, 107, 32⟩, ⟨107, 37, 107, 65⟩, ⟨107, 37, 107, 47⟩, ⟨107, 48, 107, 52⟩, ⟨107, 54, 107, 58⟩, ⟨107, 60, 107, 64⟩, ⟨107, 70, 107, 74⟩, ⟨107, 78, 107, 94⟩, ⟨107, 78, 107, 83⟩, ⟨107, 84, 107, 93⟩, ⟨107, 84, 107, 87⟩, ⟨107, 88, 107, 92⟩],
  [{ kind := .function, names := [(".0", .local), ("kind", .local), ("find_seats", .globalImplicit), ("pool", .free), ("time", .free), ("value", .free)], isGenerator := false, isCoroutine := false, more := [] }],
  []⟩
theorem em_is_seating_of : (emSs nN_is_seating_of ir_is_seating_of nE_is_seating_of).1 = defBody st_is_seating_of := by rfl
theorem ok_is_seating_of : okSs nN_is_seating_of (defScope st_is_seating_of) ir_is_seating_of nE_is_seating_of = true := by decide +kernel
theorem sc_is_seating_of : FnScope nN_is_seating_of ["pool", "claims", "time", "value"] (defScope st_is_seating_of) := ⟨rfl, rfl, rfl, by decide +kernel, rfl, by decide +kernel, by decide +kernel⟩

abbrev st_check_seating : Stmt := top 61
def nN_check_seating : List Str := ["pool", "claims", "time", "places"]
def nE_check_seating : Em := ⟨[⟨190, 4, 190, 67⟩, ⟨190, 11, 190, 67⟩, ⟨190, 19, 190, 60⟩, ⟨190, 19, 190, 32⟩, ⟨190, 33, 190, 37⟩, ⟨190, 39, 190, 45⟩, ⟨190, 47, 190, 51⟩, ⟨190, 53, 190, 59⟩, ⟨190, 11, 190, 15⟩, ⟨190, 66, 190, 67⟩],
  [],
  []⟩
theorem em_check_seating : (emSs nN_check_seating ir_check_seating_v1 nE_check_seating).1 = defBody st_check_seating := by rfl
theorem ok_check_seating : okSs nN_check_seating (defScope st_check_seating) ir_check_seating_v1 nE_check_seating = true := by decide +kernel
theorem sc_check_seating : FnScope nN_check_seating ["pool", "claims", "time", "places"] (defScope st_check_seating) := ⟨rfl, rfl, rfl, by decide +kernel, rfl, by decide +kernel, by decide +kernel⟩

abbrev st_is_set : Stmt := top 48
def nN_is_set : List Str := ["claims", "time", "value", "now", "number"]
def nE_is_set : Em := ⟨[⟨156, 4, 157, 20⟩, ⟨156, 7, 156, 88⟩, ⟨156, 7, 156, 35⟩, ⟨156, 11, 156, 35⟩, ⟨156, 11, 156, 21⟩, ⟨156, 22, 156, 27⟩, ⟨156, 29, 156, 34⟩, ⟨156, 39, 156, 88⟩, ⟨156, 43, 156, 88⟩, ⟨156, 43, 156, 46⟩, ⟨156, 47, 156, 87⟩, ⟨156, 48, 156, 66⟩, ⟨156, 48, 156, 58⟩, ⟨156, 59, 156, 65⟩, ⟨156, 71, 156, 77⟩, ⟨156, 81, 156, 86⟩, ⟨157, 8, 157, 20⟩, ⟨157, 15, 157, 20⟩, ⟨158, 4, 158, 35⟩, ⟨158, 4, 158, 7⟩, ⟨158, 10, 158, 35⟩, ⟨158, 10, 158, 21⟩, ⟨158, 22, 158, 28⟩, ⟨158, 30, 158, 34⟩, ⟨159, 4, 159, 89⟩, ⟨159, 11, 159, 89⟩, ⟨159, 11, 159, 51⟩, ⟨159, 11, 159, 14⟩, ⟨159, 15, 159, 50⟩, ⟨159, 16, 159, 29⟩, ⟨159, 16, 159, 22⟩, ⟨159, 26, 159, 29⟩, ⟨159, 34, 159, 40⟩, ⟨159, 44, 159, 49⟩, ⟨159, 56, 159, 89⟩, ⟨159, 56, 159, 67⟩, ⟨159, 56, 159, 60⟩, ⟨159, 61, 159, 66⟩, ⟨159, 71, 159, 89⟩, ⟨159, 71, 159, 77⟩, ⟨159, 78, 159, 88⟩, ⟨159, 78, 159, 81⟩, ⟨159, 82, 159, 87⟩],
  [{ kind := .function, names := [(".0", .local), ("number", .local), ("is_integer", .globalImplicit)], isGenerator := false, isCoroutine := false, more := [] },
   { kind := .function, names := [(".0", .local), ("number", .local), ("now", .free)], isGenerator := false, isCoroutine := false, more := [] }],
  []⟩
theorem em_is_set : (emSs nN_is_set ir_is_set nE_is_set).1 = defBody st_is_set := by rfl
theorem ok_is_set : okSs nN_is_set (defScope st_is_set) ir_is_set nE_is_set = true := by decide +kernel
theorem sc_is_set : FnScope nN_is_set ["claims", "time", "value"] (defScope st_is_set) := ⟨rfl, rfl, rfl, by decide +kernel, rfl, by decide +kernel, by decide +kernel⟩

abbrev st_set_kinds : Stmt := top 49
def nN_set_kinds : List Str := ["pool", "claims", "value", "found", "number"]
def nE_set_kinds : Em := ⟨[⟨161, 4, 161, 14⟩, ⟨161, 4, 161, 9⟩, ⟨161, 12, 161, 14⟩, ⟨162, 4, 163, 54⟩, ⟨162, 8, 162, 14⟩, ⟨162, 18, 162, 23⟩, ⟨163, 8, 163, 54⟩, ⟨163, 8, 163, 54⟩, ⟨163, 8, 163, 20⟩, ⟨163, 8, 163, 13⟩, ⟨163, 21, 163, 53⟩, ⟨163, 21, 163, 31⟩, ⟨163, 32, 163, 36⟩, ⟨163, 38, 163, 52⟩, ⟨163, 38, 163, 44⟩, ⟨163, 45, 163, 51⟩, ⟨164, 4, 164, 29⟩, ⟨164, 11, 164, 29⟩, ⟨164, 11, 164, 17⟩, ⟨164, 18, 164, 28⟩, ⟨164, 18, 164, 21⟩, ⟨164, 22, 164, 27⟩],
  [],
  []⟩
theorem em_set_kinds : (emSs nN_set_kinds ir_set_kinds nE_set_kinds).1 = defBody st_set_kinds := by rfl
theorem ok_set_kinds : okSs nN_set_kinds (defScope st_set_kinds) ir_set_kinds nE_set_kinds = true := by decide +kernel
theorem sc_set_kinds : FnScope nN_set_kinds ["pool", "claims", "value"] (defScope st_set_kinds) := ⟨rfl, rfl, rfl, by decide +kernel, rfl, by decide +kernel, by decide +kernel⟩

abbrev st_set_seats : Stmt := top 50
def nN_set_seats : List Str := ["pool", "claims", "time", "value", "kind"]
def nE_set_seats : Em := ⟨[⟨166, 4, 166, 89⟩, ⟨166, 11, 166, 89⟩, ⟨166, 11, 166, 14⟩, ⟨166, 15, 166, 88⟩, ⟨166, 16, 166, 44⟩, ⟨166, 16, 166, 26⟩, ⟨166, 27, 166, 31⟩, ⟨166, 33, 166, 37⟩, ⟨166, 39, 166, 43⟩, ⟨166, 49, 166, 53⟩, ⟨166, 57, 166, 87⟩, ⟨166, 57, 166, 66⟩, ⟨166, 67, 166, 71⟩, ⟨166, 73, 166, 79⟩, ⟨166, 81, 166, 86⟩],
  [{ kind := .function, names := [(".0", .local), ("kind", .local), ("find_seats", .globalImplicit), ("pool", .free), ("time", .free)], isGenerator := false, isCoroutine := false, more := [] }],
  []⟩
theorem em_set_seats : (emSs nN_set_seats ir_set_seats nE_set_seats).1 = defBody st_set_seats := by rfl
theorem ok_set_seats : okSs nN_set_seats (defScope st_set_seats) ir_set_seats nE_set_seats = true := by decide +kernel
theorem sc_set_seats : FnScope nN_set_seats ["pool", "claims", "time", "value"] (defScope st_set_seats) := ⟨rfl, rfl, rfl, by decide +kernel, rfl, by decide +kernel, by decide +kernel⟩

abbrev st_is_short : Stmt := top 51
def nN_is_short : List Str := ["pool", "claims", "time", "value"]
def nE_is_short : Em := ⟨[⟨168, 4, 168, 92⟩, ⟨168, 11, 168, 92⟩, ⟨168, 11, 168, 38⟩, ⟨168, 11, 168, 17⟩, ⟨168, 18, 168, 24⟩, ⟨168, 26, 168, 30⟩, ⟨168, 32, 168, 37⟩, ⟨168, 43, 168, 92⟩, ⟨168, 43, 168, 53⟩, ⟨168, 43, 168, 46⟩, ⟨168, 47, 168, 52⟩, ⟨168, 56, 168, 92⟩, ⟨168, 56, 168, 65⟩, ⟨168, 66, 168, 70⟩, ⟨168, 72, 168, 78⟩, ⟨168, 80, 168, 84⟩, ⟨168, 86, 168, 91⟩],
  [],
  []⟩
theorem em_is_short : (emSs nN_is_short ir_is_short nE_is_short).1 = defBody st_is_short := by rfl
theorem ok_is_short : okSs nN_is_short (defScope st_is_short) ir_is_short nE_is_short = true := by decide +kernel
theorem sc_is_short : FnScope nN_is_short ["pool", "claims", "time", "value"] (defScope st_is_short) := ⟨rfl, rfl, rfl, by decide +kernel, rfl, by decide +kernel, by decide +kernel⟩

abbrev st_check_shortage : Stmt := top 62
def nN_check_shortage : List Str := ["pool", "claims", "time", "value"]
def nE_check_shortage : Em := ⟨[⟨192, 4, 192, 61⟩, ⟨192, 11, 192, 61⟩, ⟨192, 19, 192, 54⟩, ⟨192, 19, 192, 27⟩, ⟨192, 28, 192, 32⟩, ⟨192, 34, 192, 40⟩, ⟨192, 42, 192, 46⟩, ⟨192, 48, 192, 53⟩, ⟨192, 11, 192, 15⟩, ⟨192, 60, 192, 61⟩],
  [],
  []⟩
theorem em_check_shortage : (emSs nN_check_shortage ir_check_shortage nE_check_shortage).1 = defBody st_check_shortage := by rfl
theorem ok_check_shortage : okSs nN_check_shortage (defScope st_check_shortage) ir_check_shortage nE_check_shortage = true := by decide +kernel
theorem sc_check_shortage : FnScope nN_check_shortage ["pool", "claims", "time", "value"] (defScope st_check_shortage) := ⟨rfl, rfl, rfl, by decide +kernel, rfl, by decide +kernel, by decide +kernel⟩

abbrev st_find_moments : Stmt := top 36
def nN_find_moments : List Str := ["pool", "claims", "times", "kind", "claim", "start", "number"]
def nE_find_moments : Em := ⟨[⟨92, 4, 92, 42⟩, ⟨92, 4, 92, 9⟩, ⟨92, 12, 92, 42⟩, ⟨92, 13, 92, 21⟩, ⟨92, 13, 92, 18⟩, ⟨92, 19, 92, 20⟩, ⟨92, 26, 92, 31⟩, ⟨92, 35, 92, 41⟩, ⟨93, 4, 94, 94⟩, ⟨93, 8, 93, 12⟩, ⟨93, 16, 93, 20⟩, ⟨94, 8, 94, 94⟩, ⟨94, 8, 94, 94⟩, ⟨94, 8, 94, 20⟩, ⟨94, 8, 94, 13⟩, ⟨94, 21, 94, 93⟩, ⟨94, 22, 94, 27⟩, ⟨94, 32, 94, 45⟩, ⟨94, 32, 94, 37⟩, ⟨94, 39, 94, 45⟩, ⟨94, 49, 94, 56⟩, ⟨94, 49, 94, 53⟩, ⟨94, 54, 94, 55⟩, ⟨94, 60, 94, 92⟩, ⟨94, 60, 94, 86⟩, ⟨94, 60, 94, 71⟩, ⟨94, 72, 94, 78⟩, ⟨94, 80, 94, 85⟩, ⟨94, 90, 94, 92⟩, ⟨95, 4, 95, 29⟩, ⟨95, 11, 95, 29⟩, ⟨95, 11, 95, 17⟩, ⟨95, 18, 95, 28⟩, ⟨95, 18, 95, 21⟩, ⟨95, 22, 95, 27⟩],
  [{ kind := .function, names := [(".0", .local), ("claim", .local)], isGenerator := false, isCoroutine := false, more := [] },
   { kind := .function, names := [(".0", .local), ("start", .local), ("number", .local), ("find_active", .globalImplicit), ("claims", .free)], isGenerator := false, isCoroutine := false, more := [] }],
  []⟩
theorem em_find_moments : (emSs nN_find_moments ir_find_moments nE_find_moments).1 = defBody st_find_moments := by rfl
theorem ok_find_moments : okSs nN_find_moments (defScope st_find_moments) ir_find_moments nE_find_moments = true := by decide +kernel
theorem sc_find_moments : FnScope nN_find_moments ["pool", "claims"] (defScope st_find_moments) := ⟨rfl, rfl, rfl, by decide +kernel, rfl, by decide +kernel, by decide +kernel⟩

abbrev st_check_fits : Stmt := top 63
def nN_check_fits : List Str := ["pool", "claims", "rows", "times", "time", "places"]
def nE_check_fits : Em := ⟨[⟨194, 4, 194, 38⟩, ⟨194, 4, 194, 9⟩, ⟨194, 12, 194, 38⟩, ⟨194, 12, 194, 24⟩, ⟨194, 25, 194, 29⟩, ⟨194, 31, 194, 37⟩, ⟨195, 4, 196, 16⟩, ⟨195, 7, 195, 60⟩, ⟨195, 7, 195, 33⟩, ⟨195, 11, 195, 33⟩, ⟨195, 11, 195, 21⟩, ⟨195, 22, 195, 26⟩, ⟨195, 28, 195, 32⟩, ⟨195, 37, 195, 60⟩, ⟨195, 37, 195, 46⟩, ⟨195, 37, 195, 40⟩, ⟨195, 41, 195, 45⟩, ⟨195, 50, 195, 60⟩, ⟨195, 50, 195, 53⟩, ⟨195, 54, 195, 59⟩, ⟨196, 8, 196, 16⟩, ⟨196, 15, 196, 16⟩, ⟨197, 4, 198, 16⟩, ⟨197, 7, 197, 96⟩, ⟨197, 11, 197, 96⟩, ⟨197, 11, 197, 14⟩, ⟨197, 15, 197, 95⟩, ⟨197, 16, 197, 57⟩, ⟨197, 16, 197, 29⟩, ⟨197, 30, 197, 34⟩, ⟨197, 36, 197, 42⟩, ⟨197, 44, 197, 48⟩, ⟨197, 50, 197, 56⟩, ⟨197, 62, 197, 74⟩, ⟨197, 62, 197, 66⟩, ⟨197, 68, 197, 74⟩, ⟨197, 78, 197, 94⟩, ⟨197, 78, 197, 81⟩, ⟨197, 82, 197, 87⟩, ⟨197, 89, 197, 93⟩, ⟨198, 8, 198, 16⟩, ⟨198, 15, 198, 16⟩, ⟨199, 4, 199, 15⟩, ⟨199, 11, 199, 15⟩],
  [{ kind := .function, names := [(".0", .local), ("time", .local), ("places", .local), ("is_seating_of", .globalImplicit), ("claims", .free), ("pool", .free)], isGenerator := false, isCoroutine := false, more := [] }],
  []⟩
theorem em_check_fits : (emSs nN_check_fits ir_check_fits_v1 nE_check_fits).1 = defBody st_check_fits := by rfl
theorem ok_check_fits : okSs nN_check_fits (defScope st_check_fits) ir_check_fits_v1 nE_check_fits = true := by decide +kernel
theorem sc_check_fits : FnScope nN_check_fits ["pool", "claims", "rows"] (defScope st_check_fits) := ⟨rfl, rfl, rfl, by decide +kernel, rfl, by decide +kernel, by decide +kernel⟩

abbrev st_next_kinds : Stmt := top 44
def nN_next_kinds : List Str := ["pool", "claims", "seating", "layer", "found", "number", "kind"]
def nE_next_kinds : Em := ⟨[⟨136, 4, 136, 14⟩, ⟨136, 4, 136, 9⟩, ⟨136, 12, 136, 14⟩, ⟨137, 4, 139, 58⟩, ⟨137, 8, 137, 20⟩, ⟨137, 8, 137, 14⟩, ⟨137, 16, 137, 20⟩, ⟨137, 24, 137, 42⟩, ⟨137, 24, 137, 33⟩, ⟨137, 34, 137, 41⟩, ⟨138, 8, 139, 58⟩, ⟨138, 11, 138, 24⟩, ⟨138, 11, 138, 15⟩, ⟨138, 19, 138, 24⟩, ⟨139, 12, 139, 58⟩, ⟨139, 12, 139, 58⟩, ⟨139, 12, 139, 24⟩, ⟨139, 12, 139, 17⟩, ⟨139, 25, 139, 57⟩, ⟨139, 25, 139, 35⟩, ⟨139, 36, 139, 40⟩, ⟨139, 42, 139, 56⟩, ⟨139, 42, 139, 48⟩, ⟨139, 49, 139, 55⟩, ⟨140, 4, 140, 16⟩, ⟨140, 11, 140, 16⟩],
  [],
  []⟩
theorem em_next_kinds : (emSs nN_next_kinds ir_next_kinds nE_next_kinds).1 = defBody st_next_kinds := by rfl
theorem ok_next_kinds : okSs nN_next_kinds (defScope st_next_kinds) ir_next_kinds nE_next_kinds = true := by decide +kernel
theorem sc_next_kinds : FnScope nN_next_kinds ["pool", "claims", "seating", "layer"] (defScope st_next_kinds) := ⟨rfl, rfl, rfl, by decide +kernel, rfl, by decide +kernel, by decide +kernel⟩

abbrev st_find_levels : Stmt := top 45
def nN_find_levels : List Str := ["pool", "claims", "seating", "claim", "found", "layer", "level", "kind", "reached"]
def nE_find_levels : Em := ⟨[⟨142, 4, 142, 30⟩, ⟨142, 4, 142, 9⟩, ⟨142, 12, 142, 30⟩, ⟨142, 12, 142, 18⟩, ⟨142, 13, 142, 17⟩, ⟨142, 21, 142, 30⟩, ⟨142, 21, 142, 24⟩, ⟨142, 25, 142, 29⟩, ⟨143, 4, 143, 35⟩, ⟨143, 4, 143, 9⟩, ⟨143, 12, 143, 35⟩, ⟨143, 12, 143, 22⟩, ⟨143, 23, 143, 27⟩, ⟨143, 29, 143, 34⟩, ⟨144, 4, 144, 13⟩, ⟨144, 4, 144, 9⟩, ⟨144, 12, 144, 13⟩, ⟨145, 4, 150, 18⟩, ⟨145, 10, 145, 21⟩, ⟨145, 10, 145, 15⟩, ⟨145, 19, 145, 21⟩, ⟨146, 8, 147, 31⟩, ⟨146, 12, 146, 16⟩, ⟨146, 20, 146, 25⟩, ⟨147, 12, 147, 31⟩, ⟨147, 12, 147, 23⟩, ⟨147, 12, 147, 17⟩, ⟨147, 18, 147, 22⟩, ⟨147, 26, 147, 31⟩, ⟨148, 8, 148, 58⟩, ⟨148, 8, 148, 15⟩, ⟨148, 18, 148, 58⟩, ⟨148, 18, 148, 28⟩, ⟨148, 29, 148, 33⟩, ⟨148, 35, 148, 41⟩, ⟨148, 43, 148, 50⟩, ⟨148, 52, 148, 57⟩, ⟨149, 8, 149, 94⟩, ⟨149, 8, 149, 13⟩, ⟨149, 16, 149, 94⟩, ⟨149, 17, 149, 21⟩, ⟨149, 26, 149, 30⟩, ⟨149, 34, 149, 50⟩, ⟨149, 34, 149, 39⟩, ⟨149, 40, 149, 49⟩, ⟨149, 40, 149, 43⟩, ⟨149, 44, 149, 48⟩, ⟨149, 54, 149, 93⟩, ⟨149, 54, 149, 73⟩, ⟨149, 54, 149, 65⟩, ⟨149, 54, 149, 59⟩, ⟨149, 60, 149, 64⟩, ⟨149, 69, 149, 73⟩, ⟨149, 78, 149, 93⟩, ⟨149, 78, 149, 82⟩, ⟨149, 86, 149, 93⟩, ⟨150, 8, 150, 18⟩, ⟨150, 8, 150, 13⟩, ⟨150, 17, 150, 18⟩, ⟨151, 4, 151, 16⟩, ⟨151, 11, 151, 16⟩],
  [{ kind := .function, names := [(".0", .local), ("kind", .local), ("found", .free), ("reached", .free)], isGenerator := false, isCoroutine := false, more := [] }],
  []⟩
theorem em_find_levels : (emSs nN_find_levels ir_find_levels nE_find_levels).1 = defBody st_find_levels := by rfl
theorem ok_find_levels : okSs nN_find_levels (defScope st_find_levels) ir_find_levels nE_find_levels = true := by decide +kernel
theorem sc_find_levels : FnScope nN_find_levels ["pool", "claims", "seating", "claim"] (defScope st_find_levels) := ⟨rfl, rfl, rfl, by decide +kernel, rfl, by decide +kernel, by decide +kernel⟩

abbrev st_has_free_seat : Stmt := top 46
def nN_has_free_seat : List Str := ["pool", "time", "seating", "kind"]
def nE_has_free_seat : Em := ⟨[⟨153, 4, 153, 61⟩, ⟨153, 11, 153, 61⟩, ⟨153, 11, 153, 30⟩, ⟨153, 11, 153, 24⟩, ⟨153, 11, 153, 18⟩, ⟨153, 25, 153, 29⟩, ⟨153, 33, 153, 61⟩, ⟨153, 33, 153, 43⟩, ⟨153, 44, 153, 48⟩, ⟨153, 50, 153, 54⟩, ⟨153, 56, 153, 60⟩],
  [],
  []⟩
theorem em_has_free_seat : (emSs nN_has_free_seat ir_has_free_seat nE_has_free_seat).1 = defBody st_has_free_seat := by rfl
theorem ok_has_free_seat : okSs nN_has_free_seat (defScope st_has_free_seat) ir_has_free_seat nE_has_free_seat = true := by decide +kernel
theorem sc_has_free_seat : FnScope nN_has_free_seat ["pool", "time", "seating", "kind"] (defScope st_has_free_seat) := ⟨rfl, rfl, rfl, by decide +kernel, rfl, by decide +kernel, by decide +kernel⟩

abbrev st_check_fewest : Stmt := top 64
def nN_check_fewest : List Str := ["pool", "claims", "time", "places", "claim", "after", "many", "kind", "level", "number"]
def nE_check_fewest : Em := ⟨[⟨201, 4, 202, 16⟩, ⟨201, 7, 201, 116⟩, ⟨201, 7, 201, 35⟩, ⟨201, 11, 201, 35⟩, ⟨201, 11, 201, 22⟩, ⟨201, 23, 201, 27⟩, ⟨201, 29, 201, 34⟩, ⟨201, 39, 201, 65⟩, ⟨201, 43, 201, 65⟩, ⟨201, 43, 201, 52⟩, ⟨201, 53, 201, 58⟩, ⟨201, 60, 201, 64⟩, ⟨201, 70, 201, 115⟩, ⟨201, 74, 201, 115⟩, ⟨201, 74, 201, 87⟩, ⟨201, 88, 201, 92⟩, ⟨201, 94, 201, 100⟩, ⟨201, 102, 201, 106⟩, ⟨201, 108, 201, 114⟩, ⟨202, 8, 202, 16⟩, ⟨202, 15, 202, 16⟩, ⟨203, 4, 204, 16⟩, ⟨203, 7, 203, 62⟩, ⟨203, 11, 203, 62⟩, ⟨203, 11, 203, 24⟩, ⟨203, 25, 203, 29⟩, ⟨203, 31, 203, 48⟩, ⟨203, 31, 203, 37⟩, ⟨203, 40, 203, 48⟩, ⟨203, 41, 203, 46⟩, ⟨203, 50, 203, 54⟩, ⟨203, 56, 203, 61⟩, ⟨204, 8, 204, 16⟩, ⟨204, 15, 204, 16⟩, ⟨205, 4, 205, 92⟩, ⟨205, 4, 205, 8⟩, ⟨205, 11, 205, 92⟩, ⟨205, 11, 205, 14⟩, ⟨205, 15, 205, 91⟩, ⟨205, 16, 205, 22⟩, ⟨205, 27, 205, 33⟩, ⟨205, 37, 205, 55⟩, ⟨205, 37, 205, 42⟩, ⟨205, 43, 205, 54⟩, ⟨205, 43, 205, 46⟩, ⟨205, 47, 205, 53⟩, ⟨205, 59, 205, 90⟩, ⟨205, 59, 205, 72⟩, ⟨205, 59, 205, 64⟩, ⟨205, 65, 205, 71⟩, ⟨205, 76, 205, 90⟩, ⟨205, 76, 205, 82⟩, ⟨205, 83, 205, 89⟩, ⟨206, 4, 208, 20⟩, ⟨206, 8, 206, 19⟩, ⟨206, 8, 206, 12⟩, ⟨206, 14, 206, 19⟩, ⟨206, 23, 206, 74⟩, ⟨206, 23, 206, 32⟩, ⟨206, 33, 206, 73⟩, ⟨206, 33, 206, 44⟩, ⟨206, 45, 206, 49⟩, ⟨206, 51, 206, 57⟩, ⟨206, 59, 206, 65⟩, ⟨206, 67, 206, 72⟩, ⟨207, 8, 208, 20⟩, ⟨207, 11, 207, 89⟩, ⟨207, 11, 207, 28⟩, ⟨207, 11, 207, 16⟩, ⟨207, 24, 207, 28⟩, ⟨207, 33, 207, 45⟩, ⟨207, 33, 207, 38⟩, ⟨207, 41, 207, 45⟩, ⟨207, 50, 207, 89⟩, ⟨207, 50, 207, 63⟩, ⟨207, 64, 207, 68⟩, ⟨207, 70, 207, 74⟩, ⟨207, 76, 207, 82⟩, ⟨207, 84, 207, 88⟩, ⟨208, 12, 208, 20⟩, ⟨208, 19, 208, 20⟩, ⟨209, 4, 209, 15⟩, ⟨209, 11, 209, 15⟩],
  [{ kind := .function, names := [(".0", .local), ("number", .local), ("after", .free), ("places", .free)], isGenerator := false, isCoroutine := false, more := [] }],
  []⟩
theorem em_check_fewest : (emSs nN_check_fewest ir_check_fewest_v1 nE_check_fewest).1 = defBody st_check_fewest := by rfl
theorem ok_check_fewest : okSs nN_check_fewest (defScope st_check_fewest) ir_check_fewest_v1 nE_check_fewest = true := by decide +kernel
theorem sc_check_fewest : FnScope nN_check_fewest ["pool", "claims", "time", "places", "claim", "after"] (defScope st_check_fewest) := ⟨rfl, rfl, rfl, by decide +kernel, rfl, by decide +kernel, by decide +kernel⟩

abbrev st_check_impossible : Stmt := top 65
def nN_check_impossible : List Str := ["pool", "claims", "time", "number", "kind", "value", "kinds", "one"]
def nE_check_impossible : Em := ⟨[⟨211, 4, 212, 16⟩, ⟨211, 7, 211, 88⟩, ⟨211, 7, 211, 49⟩, ⟨211, 11, 211, 49⟩, ⟨211, 11, 211, 21⟩, ⟨211, 22, 211, 28⟩, ⟨211, 30, 211, 31⟩, ⟨211, 33, 211, 48⟩, ⟨211, 33, 211, 44⟩, ⟨211, 33, 211, 36⟩, ⟨211, 37, 211, 43⟩, ⟨211, 47, 211, 48⟩, ⟨211, 53, 211, 88⟩, ⟨211, 57, 211, 88⟩, ⟨211, 57, 211, 66⟩, ⟨211, 67, 211, 81⟩, ⟨211, 67, 211, 73⟩, ⟨211, 74, 211, 80⟩, ⟨211, 83, 211, 87⟩, ⟨212, 8, 212, 16⟩, ⟨212, 15, 212, 16⟩, ⟨213, 4, 214, 16⟩, ⟨213, 7, 213, 75⟩, ⟨213, 7, 213, 27⟩, ⟨213, 11, 213, 27⟩, ⟨213, 11, 213, 21⟩, ⟨213, 22, 213, 26⟩, ⟨213, 31, 213, 75⟩, ⟨213, 31, 213, 35⟩, ⟨213, 43, 213, 75⟩, ⟨213, 43, 213, 53⟩, ⟨213, 54, 213, 58⟩, ⟨213, 60, 213, 74⟩, ⟨213, 60, 213, 66⟩, ⟨213, 67, 213, 73⟩, ⟨214, 8, 214, 16⟩, ⟨214, 15, 214, 16⟩, ⟨215, 4, 216, 16⟩, ⟨215, 7, 215, 57⟩, ⟨215, 7, 215, 38⟩, ⟨215, 11, 215, 38⟩, ⟨215, 11, 215, 17⟩, ⟨215, 18, 215, 24⟩, ⟨215, 26, 215, 30⟩, ⟨215, 32, 215, 37⟩, ⟨215, 42, 215, 57⟩, ⟨215, 42, 215, 48⟩, ⟨215, 52, 215, 57⟩, ⟨216, 8, 216, 16⟩, ⟨216, 15, 216, 16⟩, ⟨217, 4, 217, 64⟩, ⟨217, 4, 217, 9⟩, ⟨217, 12, 217, 64⟩, ⟨217, 12, 217, 18⟩, ⟨217, 19, 217, 63⟩, ⟨217, 19, 217, 22⟩, ⟨217, 23, 217, 62⟩, ⟨217, 23, 217, 53⟩, ⟨217, 23, 217, 32⟩, ⟨217, 33, 217, 37⟩, ⟨217, 39, 217, 45⟩, ⟨217, 47, 217, 52⟩, ⟨217, 56, 217, 62⟩, ⟨217, 57, 217, 61⟩, ⟨218, 4, 218, 91⟩, ⟨218, 11, 218, 91⟩, ⟨218, 19, 218, 84⟩, ⟨218, 19, 218, 70⟩, ⟨218, 19, 218, 22⟩, ⟨218, 23, 218, 69⟩, ⟨218, 24, 218, 51⟩, ⟨218, 24, 218, 34⟩, ⟨218, 35, 218, 39⟩, ⟨218, 41, 218, 44⟩, ⟨218, 46, 218, 50⟩, ⟨218, 56, 218, 59⟩, ⟨218, 63, 218, 68⟩, ⟨218, 74, 218, 84⟩, ⟨218, 74, 218, 77⟩, ⟨218, 78, 218, 83⟩, ⟨218, 11, 218, 15⟩, ⟨218, 90, 218, 91⟩],
  [{ kind := .function, names := [(".0", .local), ("one", .local), ("find_seats", .globalImplicit), ("pool", .free), ("time", .free)], isGenerator := false, isCoroutine := false, more := [] }],
  []⟩
theorem em_check_impossible : (emSs nN_check_impossible ir_check_impossible nE_check_impossible).1 = defBody st_check_impossible := by rfl
theorem ok_check_impossible : okSs nN_check_impossible (defScope st_check_impossible) ir_check_impossible nE_check_impossible = true := by decide +kernel
theorem sc_check_impossible : FnScope nN_check_impossible ["pool", "claims", "time", "number", "kind", "value"] (defScope st_check_impossible) := ⟨rfl, rfl, rfl, by decide +kernel, rfl, by decide +kernel, by decide +kernel⟩

abbrev st_are_numbers : Stmt := top 66
def nN_are_numbers : List Str := ["value", "most", "number"]
def nE_are_numbers : Em := ⟨[⟨220, 4, 221, 20⟩, ⟨220, 7, 220, 96⟩, ⟨220, 7, 220, 34⟩, ⟨220, 11, 220, 34⟩, ⟨220, 11, 220, 21⟩, ⟨220, 22, 220, 27⟩, ⟨220, 29, 220, 33⟩, ⟨220, 38, 220, 96⟩, ⟨220, 42, 220, 96⟩, ⟨220, 42, 220, 45⟩, ⟨220, 46, 220, 95⟩, ⟨220, 47, 220, 74⟩, ⟨220, 47, 220, 57⟩, ⟨220, 58, 220, 64⟩, ⟨220, 66, 220, 67⟩, ⟨220, 69, 220, 73⟩, ⟨220, 79, 220, 85⟩, ⟨220, 89, 220, 94⟩, ⟨221, 8, 221, 20⟩, ⟨221, 15, 221, 20⟩, ⟨222, 4, 222, 38⟩, ⟨222, 11, 222, 38⟩, ⟨222, 11, 222, 16⟩, ⟨222, 20, 222, 38⟩, ⟨222, 20, 222, 26⟩, ⟨222, 27, 222, 37⟩, ⟨222, 27, 222, 30⟩, ⟨222, 31, 222, 36⟩],
  [{ kind := .function, names := [(".0", .local), ("number", .local), ("is_between", .globalImplicit), ("most", .free)], isGenerator := false, isCoroutine := false, more := [] }],
  []⟩
theorem em_are_numbers : (emSs nN_are_numbers ir_are_numbers nE_are_numbers).1 = defBody st_are_numbers := by rfl
theorem ok_are_numbers : okSs nN_are_numbers (defScope st_are_numbers) ir_are_numbers nE_are_numbers = true := by decide +kernel
theorem sc_are_numbers : FnScope nN_are_numbers ["value", "most"] (defScope st_are_numbers) := ⟨rfl, rfl, rfl, by decide +kernel, rfl, by decide +kernel, by decide +kernel⟩

abbrev st_find_place : Stmt := top 39
def nN_find_place : List Str := ["state", "seated", "number", "tried", "pool", "claims", "time", "kind", "other", "here"]
def nE_find_place : Em := ⟨[⟨109, 4, 109, 30⟩, ⟨109, 4, 109, 22⟩, ⟨109, 4, 109, 8⟩, ⟨109, 10, 109, 16⟩, ⟨109, 18, 109, 22⟩, ⟨109, 25, 109, 30⟩, ⟨110, 4, 120, 31⟩, ⟨110, 8, 110, 12⟩, ⟨110, 16, 110, 48⟩, ⟨110, 16, 110, 26⟩, ⟨110, 27, 110, 31⟩, ⟨110, 33, 110, 47⟩, ⟨110, 33, 110, 39⟩, ⟨110, 40, 110, 46⟩, ⟨111, 8, 120, 31⟩, ⟨111, 11, 111, 28⟩, ⟨111, 11, 111, 15⟩, ⟨111, 23, 111, 28⟩, ⟨112, 12, 112, 30⟩, ⟨112, 12, 112, 30⟩, ⟨112, 12, 112, 24⟩, ⟨112, 12, 112, 17⟩, ⟨112, 25, 112, 29⟩, ⟨113, 12, 113, 71⟩, ⟨113, 12, 113, 16⟩, ⟨113, 19, 113, 71⟩, ⟨113, 20, 113, 25⟩, ⟨113, 30, 113, 35⟩, ⟨113, 39, 113, 45⟩, ⟨113, 49, 113, 70⟩, ⟨113, 49, 113, 62⟩, ⟨113, 49, 113, 55⟩, ⟨113, 56, 113, 61⟩, ⟨113, 66, 113, 70⟩, ⟨114, 12, 116, 27⟩, ⟨114, 15, 114, 55⟩, ⟨114, 15, 114, 24⟩, ⟨114, 15, 114, 18⟩, ⟨114, 19, 114, 23⟩, ⟨114, 27, 114, 55⟩, ⟨114, 27, 114, 37⟩, ⟨114, 38, 114, 42⟩, ⟨114, 44, 114, 48⟩, ⟨114, 50, 114, 54⟩, ⟨115, 16, 115, 37⟩, ⟨115, 16, 115, 30⟩, ⟨115, 16, 115, 22⟩, ⟨115, 23, 115, 29⟩, ⟨115, 33, 115, 37⟩, ⟨116, 16, 116, 27⟩, ⟨116, 23, 116, 27⟩, ⟨117, 12, 120, 31⟩, ⟨117, 16, 117, 21⟩, ⟨117, 25, 117, 29⟩, ⟨118, 16, 120, 31⟩, ⟨118, 19, 118, 58⟩, ⟨118, 19, 118, 29⟩, ⟨118, 30, 118, 35⟩, ⟨118, 37, 118, 43⟩, ⟨118, 45, 118, 50⟩, ⟨118, 52, 118, 57⟩, ⟨119, 20, 119, 41⟩, ⟨119, 20, 119, 34⟩, ⟨119, 20, 119, 26⟩, ⟨119, 27, 119, 33⟩, ⟨119, 37, 119, 41⟩, ⟨120, 20, 120, 31⟩, ⟨120, 27, 120, 31⟩, ⟨121, 4, 121, 16⟩, ⟨121, 11, 121, 16⟩],
  [{ kind := .function, names := [(".0", .local), ("other", .local), ("kind", .free), ("seated", .free)], isGenerator := false, isCoroutine := false, more := [] }],
  []⟩
theorem em_find_place : (emSs nN_find_place ir_find_place nE_find_place).1 = defBody st_find_place := by rfl
theorem ok_find_place : okSs nN_find_place (defScope st_find_place) ir_find_place nE_find_place = true := by decide +kernel
theorem sc_find_place : FnScope nN_find_place ["state", "seated", "number", "tried"] (defScope st_find_place) := ⟨rfl, rfl, rfl, by decide +kernel, rfl, by decide +kernel, by decide +kernel⟩

abbrev st_seat_claims : Stmt := top 40
def nN_seat_claims : List Str := ["pool", "claims", "time", "seated", "number", "tried", "beside", "other"]
def nE_seat_claims : Em := ⟨[⟨123, 4, 123, 15⟩, ⟨123, 4, 123, 10⟩, ⟨123, 13, 123, 15⟩, ⟨124, 4, 128, 61⟩, ⟨124, 8, 124, 14⟩, ⟨124, 18, 124, 43⟩, ⟨124, 18, 124, 29⟩, ⟨124, 30, 124, 36⟩, ⟨124, 38, 124, 42⟩, ⟨125, 8, 125, 18⟩, ⟨125, 8, 125, 13⟩, ⟨125, 16, 125, 18⟩, ⟨126, 8, 128, 61⟩, ⟨126, 11, 126, 70⟩, ⟨126, 15, 126, 70⟩, ⟨126, 15, 126, 25⟩, ⟨126, 26, 126, 46⟩, ⟨126, 27, 126, 31⟩, ⟨126, 33, 126, 39⟩, ⟨126, 41, 126, 45⟩, ⟨126, 48, 126, 54⟩, ⟨126, 56, 126, 62⟩, ⟨126, 64, 126, 69⟩, ⟨127, 12, 127, 74⟩, ⟨127, 12, 127, 18⟩, ⟨127, 21, 127, 74⟩, ⟨127, 22, 127, 27⟩, ⟨127, 32, 127, 37⟩, ⟨127, 41, 127, 47⟩, ⟨127, 51, 127, 73⟩, ⟨127, 51, 127, 64⟩, ⟨127, 51, 127, 57⟩, ⟨127, 58, 127, 63⟩, ⟨127, 68, 127, 73⟩, ⟨128, 12, 128, 61⟩, ⟨128, 19, 128, 61⟩, ⟨128, 20, 128, 26⟩, ⟨128, 28, 128, 60⟩, ⟨128, 28, 128, 33⟩, ⟨128, 34, 128, 59⟩, ⟨128, 34, 128, 40⟩, ⟨128, 41, 128, 58⟩, ⟨128, 41, 128, 47⟩, ⟨128, 50, 128, 58⟩, ⟨128, 51, 128, 57⟩, ⟨129, 4, 129, 25⟩, ⟨129, 11, 129, 25⟩, ⟨129, 12, 129, 18⟩, ⟨129, 20, 129, 24⟩],
  [{ kind := .function, names := [(".0", .local), ("other", .local), ("seated", .free), ("tried", .free)], isGenerator := false, isCoroutine := false, more := [] }],
  []⟩
theorem em_seat_claims : (emSs nN_seat_claims ir_seat_claims nE_seat_claims).1 = defBody st_seat_claims := by rfl
theorem ok_seat_claims : okSs nN_seat_claims (defScope st_seat_claims) ir_seat_claims nE_seat_claims = true := by decide +kernel
theorem sc_seat_claims : FnScope nN_seat_claims ["pool", "claims", "time"] (defScope st_seat_claims) := ⟨rfl, rfl, rfl, by decide +kernel, rfl, by decide +kernel, by decide +kernel⟩

abbrev st_fit_at : Stmt := top 41
def nN_fit_at : List Str := ["pool", "claims", "time"]
def nE_fit_at : Em := ⟨[⟨131, 4, 131, 53⟩, ⟨131, 11, 131, 53⟩, ⟨131, 11, 131, 45⟩, ⟨131, 11, 131, 42⟩, ⟨131, 11, 131, 22⟩, ⟨131, 23, 131, 27⟩, ⟨131, 29, 131, 35⟩, ⟨131, 37, 131, 41⟩, ⟨131, 43, 131, 44⟩, ⟨131, 49, 131, 53⟩],
  [],
  []⟩
theorem em_fit_at : (emSs nN_fit_at ir_fit_at nE_fit_at).1 = defBody st_fit_at := by rfl
theorem ok_fit_at : okSs nN_fit_at (defScope st_fit_at) ir_fit_at nE_fit_at = true := by decide +kernel
theorem sc_fit_at : FnScope nN_fit_at ["pool", "claims", "time"] (defScope st_fit_at) := ⟨rfl, rfl, rfl, by decide +kernel, rfl, by decide +kernel, by decide +kernel⟩

abbrev st_all_fit : Stmt := top 42
def nN_all_fit : List Str := ["pool", "claims", "moment"]
def nE_all_fit : Em := ⟨[⟨133, 4, 133, 87⟩, ⟨133, 11, 133, 87⟩, ⟨133, 11, 133, 14⟩, ⟨133, 15, 133, 86⟩, ⟨133, 16, 133, 44⟩, ⟨133, 16, 133, 22⟩, ⟨133, 23, 133, 27⟩, ⟨133, 29, 133, 35⟩, ⟨133, 37, 133, 43⟩, ⟨133, 49, 133, 55⟩, ⟨133, 59, 133, 85⟩, ⟨133, 59, 133, 71⟩, ⟨133, 72, 133, 76⟩, ⟨133, 78, 133, 84⟩],
  [{ kind := .function, names := [(".0", .local), ("moment", .local), ("fit_at", .globalImplicit), ("claims", .free), ("pool", .free)], isGenerator := false, isCoroutine := false, more := [] }],
  []⟩
theorem em_all_fit : (emSs nN_all_fit ir_all_fit nE_all_fit).1 = defBody st_all_fit := by rfl
theorem ok_all_fit : okSs nN_all_fit (defScope st_all_fit) ir_all_fit nE_all_fit = true := by decide +kernel
theorem sc_all_fit : FnScope nN_all_fit ["pool", "claims"] (defScope st_all_fit) := ⟨rfl, rfl, rfl, by decide +kernel, rfl, by decide +kernel, by decide +kernel⟩

abbrev st_is_row : Stmt := top 67
def nN_is_row : List Str := ["value", "size"]
def nE_is_row : Em := ⟨[⟨224, 4, 224, 83⟩, ⟨224, 11, 224, 83⟩, ⟨224, 11, 224, 35⟩, ⟨224, 11, 224, 21⟩, ⟨224, 22, 224, 27⟩, ⟨224, 29, 224, 34⟩, ⟨224, 40, 224, 58⟩, ⟨224, 40, 224, 50⟩, ⟨224, 40, 224, 43⟩, ⟨224, 44, 224, 49⟩, ⟨224, 54, 224, 58⟩, ⟨224, 63, 224, 83⟩, ⟨224, 63, 224, 73⟩, ⟨224, 74, 224, 82⟩, ⟨224, 74, 224, 79⟩, ⟨224, 80, 224, 81⟩],
  [],
  []⟩
theorem em_is_row : (emSs nN_is_row ir_is_row nE_is_row).1 = defBody st_is_row := by rfl
theorem ok_is_row : okSs nN_is_row (defScope st_is_row) ir_is_row nE_is_row = true := by decide +kernel
theorem sc_is_row : FnScope nN_is_row ["value", "size"] (defScope st_is_row) := ⟨rfl, rfl, rfl, by decide +kernel, rfl, by decide +kernel, by decide +kernel⟩

abbrev st_is_left : Stmt := top 68
def nN_is_left : List Str := ["pool", "claims", "waiting", "taken", "row", "number", "time", "value", "before", "other"]
def nE_is_left : Em := ⟨[⟨226, 4, 226, 29⟩, ⟨226, 4, 226, 23⟩, ⟨226, 4, 226, 10⟩, ⟨226, 12, 226, 16⟩, ⟨226, 18, 226, 23⟩, ⟨226, 26, 226, 29⟩, ⟨227, 4, 227, 73⟩, ⟨227, 4, 227, 10⟩, ⟨227, 13, 227, 73⟩, ⟨227, 13, 227, 18⟩, ⟨227, 19, 227, 72⟩, ⟨227, 20, 227, 34⟩, ⟨227, 20, 227, 27⟩, ⟨227, 28, 227, 33⟩, ⟨227, 39, 227, 44⟩, ⟨227, 48, 227, 53⟩, ⟨227, 57, 227, 71⟩, ⟨227, 57, 227, 62⟩, ⟨227, 65, 227, 71⟩, ⟨228, 4, 228, 76⟩, ⟨228, 11, 228, 76⟩, ⟨228, 11, 228, 19⟩, ⟨228, 20, 228, 24⟩, ⟨228, 26, 228, 62⟩, ⟨228, 26, 228, 41⟩, ⟨228, 26, 228, 32⟩, ⟨228, 35, 228, 41⟩, ⟨228, 44, 228, 62⟩, ⟨228, 45, 228, 60⟩, ⟨228, 45, 228, 52⟩, ⟨228, 53, 228, 59⟩, ⟨228, 64, 228, 68⟩, ⟨228, 70, 228, 75⟩],
  [{ kind := .function, names := [(".0", .local), ("other", .local), ("number", .free), ("waiting", .free)], isGenerator := false, isCoroutine := false, more := [] }],
  []⟩
theorem em_is_left : (emSs nN_is_left ir_is_left nE_is_left).1 = defBody st_is_left := by rfl
theorem ok_is_left : okSs nN_is_left (defScope st_is_left) ir_is_left nE_is_left = true := by decide +kernel
theorem sc_is_left : FnScope nN_is_left ["pool", "claims", "waiting", "taken", "row"] (defScope st_is_left) := ⟨rfl, rfl, rfl, by decide +kernel, rfl, by decide +kernel, by decide +kernel⟩

abbrev st_check_left : Stmt := top 69
def nN_check_left : List Str := ["pool", "claims", "waiting", "taken", "rows", "number", "row"]
def nE_check_left : Em := ⟨[⟨230, 4, 231, 16⟩, ⟨230, 7, 230, 47⟩, ⟨230, 11, 230, 47⟩, ⟨230, 11, 230, 22⟩, ⟨230, 23, 230, 28⟩, ⟨230, 30, 230, 46⟩, ⟨230, 30, 230, 42⟩, ⟨230, 30, 230, 33⟩, ⟨230, 34, 230, 41⟩, ⟨230, 45, 230, 46⟩, ⟨231, 8, 231, 16⟩, ⟨231, 15, 231, 16⟩, ⟨232, 4, 233, 16⟩, ⟨232, 7, 232, 79⟩, ⟨232, 11, 232, 79⟩, ⟨232, 11, 232, 18⟩, ⟨232, 19, 232, 23⟩, ⟨232, 25, 232, 78⟩, ⟨232, 25, 232, 31⟩, ⟨232, 34, 232, 78⟩, ⟨232, 34, 232, 39⟩, ⟨232, 40, 232, 77⟩, ⟨232, 41, 232, 56⟩, ⟨232, 41, 232, 48⟩, ⟨232, 49, 232, 55⟩, ⟨232, 61, 232, 67⟩, ⟨232, 71, 232, 76⟩, ⟨233, 8, 233, 16⟩, ⟨233, 15, 233, 16⟩, ⟨234, 4, 235, 16⟩, ⟨234, 7, 234, 98⟩, ⟨234, 7, 234, 33⟩, ⟨234, 11, 234, 33⟩, ⟨234, 11, 234, 21⟩, ⟨234, 22, 234, 26⟩, ⟨234, 28, 234, 32⟩, ⟨234, 37, 234, 98⟩, ⟨234, 41, 234, 98⟩, ⟨234, 41, 234, 44⟩, ⟨234, 45, 234, 97⟩, ⟨234, 46, 234, 80⟩, ⟨234, 46, 234, 60⟩, ⟨234, 46, 234, 52⟩, ⟨234, 53, 234, 56⟩, ⟨234, 58, 234, 59⟩, ⟨234, 65, 234, 80⟩, ⟨234, 65, 234, 72⟩, ⟨234, 73, 234, 79⟩, ⟨234, 73, 234, 76⟩, ⟨234, 77, 234, 78⟩, ⟨234, 85, 234, 88⟩, ⟨234, 92, 234, 96⟩, ⟨235, 8, 235, 16⟩, ⟨235, 15, 235, 16⟩, ⟨236, 4, 237, 16⟩, ⟨236, 7, 236, 100⟩, ⟨236, 7, 236, 31⟩, ⟨236, 8, 236, 14⟩, ⟨236, 8, 236, 11⟩, ⟨236, 12, 236, 13⟩, ⟨236, 19, 236, 22⟩, ⟨236, 26, 236, 30⟩, ⟨236, 35, 236, 100⟩, ⟨236, 36, 236, 42⟩, ⟨236, 47, 236, 53⟩, ⟨236, 57, 236, 76⟩, ⟨236, 57, 236, 62⟩, ⟨236, 63, 236, 75⟩, ⟨236, 63, 236, 66⟩, ⟨236, 67, 236, 74⟩, ⟨236, 80, 236, 99⟩, ⟨236, 80, 236, 86⟩, ⟨236, 94, 236, 99⟩, ⟨237, 8, 237, 16⟩, ⟨237, 15, 237, 16⟩, ⟨238, 4, 238, 91⟩, ⟨238, 11, 238, 91⟩, ⟨238, 19, 238, 84⟩, ⟨238, 19, 238, 22⟩, ⟨238, 23, 238, 83⟩, ⟨238, 24, 238, 66⟩, ⟨238, 24, 238, 31⟩, ⟨238, 32, 238, 36⟩, ⟨238, 38, 238, 44⟩, ⟨238, 46, 238, 53⟩, ⟨238, 55, 238, 60⟩, ⟨238, 62, 238, 65⟩, ⟨238, 71, 238, 74⟩, ⟨238, 78, 238, 82⟩, ⟨238, 11, 238, 15⟩, ⟨238, 90, 238, 91⟩],
  [{ kind := .function, names := [(".0", .local), ("number", .local), ("waiting", .free)], isGenerator := false, isCoroutine := false, more := [] },
   { kind := .function, names := [(".0", .local), ("row", .local), ("is_row", .globalImplicit), ("is_time", .globalImplicit)], isGenerator := false, isCoroutine := false, more := [] },
   { kind := .function, names := [(".0", .local), ("row", .local)], isGenerator := false, isCoroutine := false, more := [] },
   { kind := .function, names := [(".0", .local), ("number", .local), ("taken", .free)], isGenerator := false, isCoroutine := false, more := [] },
   { kind := .function, names := [(".0", .local), ("row", .local), ("is_left", .globalImplicit), ("claims", .free), ("pool", .free), ("taken", .free), ("waiting", .free)], isGenerator := false, isCoroutine := false, more := [] }],
  []⟩
theorem em_check_left : (emSs nN_check_left ir_check_left nE_check_left).1 = defBody st_check_left := by rfl
theorem ok_check_left : okSs nN_check_left (defScope st_check_left) ir_check_left nE_check_left = true := by decide +kernel
theorem sc_check_left : FnScope nN_check_left ["pool", "claims", "waiting", "taken", "rows"] (defScope st_check_left) := ⟨rfl, rfl, rfl, by decide +kernel, rfl, by decide +kernel, by decide +kernel⟩

abbrev st_are_worths : Stmt := top 56
def nN_are_worths : List Str := ["value", "waiting", "worth"]
def nE_are_worths : Em := ⟨[⟨180, 4, 181, 20⟩, ⟨180, 7, 180, 65⟩, ⟨180, 7, 180, 35⟩, ⟨180, 11, 180, 35⟩, ⟨180, 11, 180, 21⟩, ⟨180, 22, 180, 27⟩, ⟨180, 29, 180, 34⟩, ⟨180, 39, 180, 65⟩, ⟨180, 39, 180, 49⟩, ⟨180, 39, 180, 42⟩, ⟨180, 43, 180, 48⟩, ⟨180, 53, 180, 65⟩, ⟨180, 53, 180, 56⟩, ⟨180, 57, 180, 64⟩, ⟨181, 8, 181, 20⟩, ⟨181, 15, 181, 20⟩, ⟨182, 4, 182, 69⟩, ⟨182, 11, 182, 69⟩, ⟨182, 11, 182, 14⟩, ⟨182, 15, 182, 68⟩, ⟨182, 16, 182, 48⟩, ⟨182, 16, 182, 26⟩, ⟨182, 27, 182, 32⟩, ⟨182, 34, 182, 35⟩, ⟨182, 37, 182, 47⟩, ⟨182, 53, 182, 58⟩, ⟨182, 62, 182, 67⟩],
  [{ kind := .function, names := [(".0", .local), ("worth", .local), ("is_between", .globalImplicit), ("MOST_WORTH", .globalImplicit)], isGenerator := false, isCoroutine := false, more := [] }],
  []⟩
theorem em_are_worths : (emSs nN_are_worths ir_are_worths nE_are_worths).1 = defBody st_are_worths := by rfl
theorem ok_are_worths : okSs nN_are_worths (defScope st_are_worths) ir_are_worths nE_are_worths = true := by decide +kernel
theorem sc_are_worths : FnScope nN_are_worths ["value", "waiting"] (defScope st_are_worths) := ⟨rfl, rfl, rfl, by decide +kernel, rfl, by decide +kernel, by decide +kernel⟩

abbrev st_is_choice : Stmt := top 73
def nN_is_choice : List Str := ["waiting", "time", "value", "number"]
def nE_is_choice : Em := ⟨[⟨269, 4, 270, 20⟩, ⟨269, 7, 269, 85⟩, ⟨269, 7, 269, 35⟩, ⟨269, 11, 269, 35⟩, ⟨269, 11, 269, 21⟩, ⟨269, 22, 269, 27⟩, ⟨269, 29, 269, 34⟩, ⟨269, 39, 269, 85⟩, ⟨269, 43, 269, 85⟩, ⟨269, 43, 269, 54⟩, ⟨269, 55, 269, 66⟩, ⟨269, 55, 269, 59⟩, ⟨269, 60, 269, 65⟩, ⟨269, 68, 269, 84⟩, ⟨269, 68, 269, 80⟩, ⟨269, 68, 269, 71⟩, ⟨269, 72, 269, 79⟩, ⟨269, 83, 269, 84⟩, ⟨270, 8, 270, 20⟩, ⟨270, 15, 270, 20⟩, ⟨271, 4, 271, 70⟩, ⟨271, 11, 271, 70⟩, ⟨271, 11, 271, 14⟩, ⟨271, 15, 271, 69⟩, ⟨271, 16, 271, 48⟩, ⟨271, 16, 271, 25⟩, ⟨271, 26, 271, 41⟩, ⟨271, 26, 271, 33⟩, ⟨271, 34, 271, 40⟩, ⟨271, 43, 271, 47⟩, ⟨271, 53, 271, 59⟩, ⟨271, 63, 271, 68⟩],
  [{ kind := .function, names := [(".0", .local), ("number", .local), ("is_active", .globalImplicit), ("time", .free), ("waiting", .free)], isGenerator := false, isCoroutine := false, more := [] }],
  []⟩
theorem em_is_choice : (emSs nN_is_choice ir_is_choice nE_is_choice).1 = defBody st_is_choice := by rfl
theorem ok_is_choice : okSs nN_is_choice (defScope st_is_choice) ir_is_choice nE_is_choice = true := by decide +kernel
theorem sc_is_choice : FnScope nN_is_choice ["waiting", "time", "value"] (defScope st_is_choice) := ⟨rfl, rfl, rfl, by decide +kernel, rfl, by decide +kernel, by decide +kernel⟩

abbrev st_find_lacked : Stmt := top 57
def nN_find_lacked : List Str := ["waiting", "worths", "time", "choice", "rows", "number", "worth"]
def nE_find_lacked : Em := ⟨[⟨184, 4, 184, 91⟩, ⟨184, 4, 184, 8⟩, ⟨184, 11, 184, 91⟩, ⟨184, 12, 184, 27⟩, ⟨184, 13, 184, 18⟩, ⟨184, 20, 184, 26⟩, ⟨184, 32, 184, 45⟩, ⟨184, 32, 184, 38⟩, ⟨184, 40, 184, 45⟩, ⟨184, 49, 184, 66⟩, ⟨184, 49, 184, 58⟩, ⟨184, 59, 184, 65⟩, ⟨184, 70, 184, 90⟩, ⟨184, 70, 184, 76⟩, ⟨184, 84, 184, 90⟩, ⟨185, 4, 185, 104⟩, ⟨185, 11, 185, 104⟩, ⟨185, 12, 185, 27⟩, ⟨185, 13, 185, 18⟩, ⟨185, 20, 185, 26⟩, ⟨185, 32, 185, 45⟩, ⟨185, 32, 185, 37⟩, ⟨185, 39, 185, 45⟩, ⟨185, 49, 185, 53⟩, ⟨185, 57, 185, 103⟩, ⟨185, 57, 185, 66⟩, ⟨185, 57, 185, 62⟩, ⟨185, 65, 185, 66⟩, ⟨185, 71, 185, 103⟩, ⟨185, 71, 185, 80⟩, ⟨185, 81, 185, 96⟩, ⟨185, 81, 185, 88⟩, ⟨185, 89, 185, 95⟩, ⟨185, 98, 185, 102⟩],
  [{ kind := .function, names := [(".0", .local), ("number", .local), ("worth", .local), ("choice", .free)], isGenerator := false, isCoroutine := false, more := [] },
   { kind := .function, names := [(".0", .local), ("worth", .local), ("number", .local), ("is_active", .globalImplicit), ("time", .free), ("waiting", .free)], isGenerator := false, isCoroutine := false, more := [] }],
  []⟩
theorem em_find_lacked : (emSs nN_find_lacked ir_find_lacked nE_find_lacked).1 = defBody st_find_lacked := by rfl
theorem ok_find_lacked : okSs nN_find_lacked (defScope st_find_lacked) ir_find_lacked nE_find_lacked = true := by decide +kernel
theorem sc_find_lacked : FnScope nN_find_lacked ["waiting", "worths", "time", "choice"] (defScope st_find_lacked) := ⟨rfl, rfl, rfl, by decide +kernel, rfl, by decide +kernel, by decide +kernel⟩

abbrev st_is_link : Stmt := top 74
def nN_is_link : List Str := ["pool", "value"]
def nE_is_link : Em := ⟨[⟨273, 4, 274, 20⟩, ⟨273, 7, 273, 62⟩, ⟨273, 7, 273, 27⟩, ⟨273, 11, 273, 27⟩, ⟨273, 11, 273, 17⟩, ⟨273, 18, 273, 23⟩, ⟨273, 25, 273, 26⟩, ⟨273, 31, 273, 62⟩, ⟨273, 35, 273, 62⟩, ⟨273, 35, 273, 45⟩, ⟨273, 46, 273, 54⟩, ⟨273, 46, 273, 51⟩, ⟨273, 52, 273, 53⟩, ⟨273, 56, 273, 61⟩, ⟨274, 8, 274, 20⟩, ⟨274, 15, 274, 20⟩, ⟨275, 4, 275, 53⟩, ⟨275, 11, 275, 53⟩, ⟨275, 11, 275, 22⟩, ⟨275, 23, 275, 37⟩, ⟨275, 23, 275, 27⟩, ⟨275, 28, 275, 36⟩, ⟨275, 28, 275, 33⟩, ⟨275, 34, 275, 35⟩, ⟨275, 39, 275, 52⟩, ⟨275, 39, 275, 48⟩, ⟨275, 39, 275, 42⟩, ⟨275, 43, 275, 47⟩, ⟨275, 51, 275, 52⟩],
  [],
  []⟩
theorem em_is_link : (emSs nN_is_link ir_is_link nE_is_link).1 = defBody st_is_link := by rfl
theorem ok_is_link : okSs nN_is_link (defScope st_is_link) ir_is_link nE_is_link = true := by decide +kernel
theorem sc_is_link : FnScope nN_is_link ["pool", "value"] (defScope st_is_link) := ⟨rfl, rfl, rfl, by decide +kernel, rfl, by decide +kernel, by decide +kernel⟩

abbrev st_count_within : Stmt := top 75
def nN_count_within : List Str := ["pool", "claims", "time", "kinds", "own", "number", "some", "kind"]
def nE_count_within : Em := ⟨[⟨277, 4, 277, 84⟩, ⟨277, 4, 277, 7⟩, ⟨277, 10, 277, 84⟩, ⟨277, 11, 277, 43⟩, ⟨277, 11, 277, 21⟩, ⟨277, 22, 277, 26⟩, ⟨277, 28, 277, 42⟩, ⟨277, 28, 277, 34⟩, ⟨277, 35, 277, 41⟩, ⟨277, 48, 277, 54⟩, ⟨277, 58, 277, 83⟩, ⟨277, 58, 277, 69⟩, ⟨277, 70, 277, 76⟩, ⟨277, 78, 277, 82⟩, ⟨278, 4, 278, 79⟩, ⟨278, 11, 278, 79⟩, ⟨278, 11, 278, 14⟩, ⟨278, 15, 278, 78⟩, ⟨278, 16, 278, 20⟩, ⟨278, 25, 278, 29⟩, ⟨278, 33, 278, 36⟩, ⟨278, 40, 278, 77⟩, ⟨278, 40, 278, 43⟩, ⟨278, 44, 278, 76⟩, ⟨278, 45, 278, 58⟩, ⟨278, 45, 278, 49⟩, ⟨278, 53, 278, 58⟩, ⟨278, 63, 278, 67⟩, ⟨278, 71, 278, 75⟩],
  [{ kind := .function, names := [(".0", .local), ("number", .local), ("find_kinds", .globalImplicit), ("claims", .free), ("pool", .free)], isGenerator := false, isCoroutine := false, more := [] },
   { kind := .function, names := [(".0", .local), ("some", .local), ("all", .globalImplicit), ("kinds", .free)], isGenerator := false, isCoroutine := false, more := [] },
   { kind := .function, names := [(".0", .local), ("kind", .local), ("kinds", .free)], isGenerator := false, isCoroutine := false, more := [] }],
  []⟩
theorem em_count_within : (emSs nN_count_within ir_count_within nE_count_within).1 = defBody st_count_within := by rfl
theorem ok_count_within : okSs nN_count_within (defScope st_count_within) ir_count_within nE_count_within = true := by decide +kernel
theorem sc_count_within : FnScope nN_count_within ["pool", "claims", "time", "kinds"] (defScope st_count_within) := ⟨rfl, rfl, rfl, by decide +kernel, rfl, by decide +kernel, by decide +kernel⟩

abbrev st_check_worthiest : Stmt := top 76
def nN_check_worthiest : List Str := ["pool", "claims", "waiting", "worths", "time", "choice", "rows", "number", "lacked", "worth", "due", "before", "least", "kinds", "whole", "seats", "row", "kind"]
def nE_check_worthiest : Em := ⟨[⟨280, 4, 281, 16⟩, ⟨280, 7, 280, 78⟩, ⟨280, 7, 280, 38⟩, ⟨280, 11, 280, 38⟩, ⟨280, 11, 280, 21⟩, ⟨280, 22, 280, 28⟩, ⟨280, 30, 280, 37⟩, ⟨280, 42, 280, 78⟩, ⟨280, 46, 280, 78⟩, ⟨280, 46, 280, 55⟩, ⟨280, 56, 280, 63⟩, ⟨280, 65, 280, 69⟩, ⟨280, 71, 280, 77⟩, ⟨281, 8, 281, 16⟩, ⟨281, 15, 281, 16⟩, ⟨282, 4, 283, 16⟩, ⟨282, 7, 282, 85⟩, ⟨282, 11, 282, 85⟩, ⟨282, 11, 282, 17⟩, ⟨282, 18, 282, 22⟩, ⟨282, 24, 282, 78⟩, ⟨282, 24, 282, 30⟩, ⟨282, 33, 282, 78⟩, ⟨282, 33, 282, 38⟩, ⟨282, 39, 282, 77⟩, ⟨282, 40, 282, 55⟩, ⟨282, 40, 282, 47⟩, ⟨282, 48, 282, 54⟩, ⟨282, 60, 282, 66⟩, ⟨282, 70, 282, 76⟩, ⟨282, 80, 282, 84⟩, ⟨283, 8, 283, 16⟩, ⟨283, 15, 283, 16⟩, ⟨284, 4, 284, 55⟩, ⟨284, 4, 284, 10⟩, ⟨284, 13, 284, 55⟩, ⟨284, 13, 284, 24⟩, ⟨284, 25, 284, 32⟩, ⟨284, 34, 284, 40⟩, ⟨284, 42, 284, 46⟩, ⟨284, 48, 284, 54⟩, ⟨285, 4, 285, 64⟩, ⟨285, 4, 285, 7⟩, ⟨285, 10, 285, 64⟩, ⟨285, 59, 285, 63⟩, ⟨285, 61, 285, 63⟩, ⟨285, 62, 285, 63⟩, ⟨285, 10, 285, 58⟩, ⟨285, 10, 285, 16⟩, ⟨285, 17, 285, 57⟩, ⟨285, 17, 285, 20⟩, ⟨285, 21, 285, 56⟩, ⟨285, 22, 285, 27⟩, ⟨285, 32, 285, 45⟩, ⟨285, 32, 285, 37⟩, ⟨285, 39, 285, 45⟩, ⟨285, 49, 285, 55⟩, ⟨286, 4, 287, 16⟩, ⟨286, 7, 286, 117⟩, ⟨286, 7, 286, 33⟩, ⟨286, 11, 286, 33⟩, ⟨286, 11, 286, 21⟩, ⟨286, 22, 286, 26⟩, ⟨286, 28, 286, 32⟩, ⟨286, 37, 286, 82⟩, ⟨286, 41, 286, 82⟩, ⟨286, 41, 286, 44⟩, ⟨286, 45, 286, 81⟩, ⟨286, 46, 286, 64⟩, ⟨286, 46, 286, 53⟩, ⟨286, 54, 286, 58⟩, ⟨286, 60, 286, 63⟩, ⟨286, 69, 286, 72⟩, ⟨286, 76, 286, 80⟩, ⟨286, 86, 286, 117⟩, ⟨286, 86, 286, 110⟩, ⟨286, 87, 286, 93⟩, ⟨286, 87, 286, 90⟩, ⟨286, 91, 286, 92⟩, ⟨286, 98, 286, 101⟩, ⟨286, 105, 286, 109⟩, ⟨286, 114, 286, 117⟩, ⟨287, 8, 287, 16⟩, ⟨287, 15, 287, 16⟩, ⟨288, 4, 288, 15⟩, ⟨288, 4, 288, 10⟩, ⟨288, 13, 288, 15⟩, ⟨289, 4, 297, 28⟩, ⟨289, 8, 289, 20⟩, ⟨289, 8, 289, 13⟩, ⟨289, 15, 289, 20⟩, ⟨289, 24, 289, 28⟩, ⟨290, 8, 292, 64⟩, ⟨290, 12, 290, 25⟩, ⟨290, 12, 290, 17⟩, ⟨290, 19, 290, 25⟩, ⟨290, 29, 290, 35⟩, ⟨291, 12, 292, 64⟩, ⟨291, 15, 291, 29⟩, ⟨291, 15, 291, 20⟩, ⟨291, 24, 291, 29⟩, ⟨292, 16, 292, 64⟩, ⟨292, 16, 292, 64⟩, ⟨292, 16, 292, 29⟩, ⟨292, 16, 292, 22⟩, ⟨292, 30, 292, 63⟩, ⟨292, 30, 292, 40⟩, ⟨292, 41, 292, 45⟩, ⟨292, 47, 292, 62⟩, ⟨292, 47, 292, 54⟩, ⟨292, 55, 292, 61⟩, ⟨293, 8, 293, 97⟩, ⟨293, 8, 293, 13⟩, ⟨293, 16, 293, 97⟩, ⟨293, 16, 293, 22⟩, ⟨293, 25, 293, 97⟩, ⟨293, 25, 293, 30⟩, ⟨293, 31, 293, 96⟩, ⟨293, 32, 293, 47⟩, ⟨293, 32, 293, 39⟩, ⟨293, 40, 293, 46⟩, ⟨293, 52, 293, 58⟩, ⟨293, 62, 293, 68⟩, ⟨293, 72, 293, 95⟩, ⟨293, 72, 293, 86⟩, ⟨293, 72, 293, 78⟩, ⟨293, 79, 293, 85⟩, ⟨293, 90, 293, 95⟩, ⟨294, 8, 294, 69⟩, ⟨294, 8, 294, 13⟩, ⟨294, 16, 294, 69⟩, ⟨294, 16, 294, 19⟩, ⟨294, 20, 294, 68⟩, ⟨294, 21, 294, 49⟩, ⟨294, 21, 294, 31⟩, ⟨294, 32, 294, 36⟩, ⟨294, 38, 294, 42⟩, ⟨294, 44, 294, 48⟩, ⟨294, 54, 294, 58⟩, ⟨294, 62, 294, 67⟩, ⟨295, 8, 296, 20⟩, ⟨295, 11, 295, 105⟩, ⟨295, 11, 295, 54⟩, ⟨295, 15, 295, 54⟩, ⟨295, 15, 295, 18⟩, ⟨295, 19, 295, 53⟩, ⟨295, 20, 295, 33⟩, ⟨295, 20, 295, 24⟩, ⟨295, 28, 295, 33⟩, ⟨295, 38, 295, 42⟩, ⟨295, 46, 295, 52⟩, ⟨295, 58, 295, 105⟩, ⟨295, 58, 295, 96⟩, ⟨295, 58, 295, 70⟩, ⟨295, 71, 295, 75⟩, ⟨295, 77, 295, 82⟩, ⟨295, 84, 295, 88⟩, ⟨295, 90, 295, 95⟩, ⟨295, 100, 295, 105⟩, ⟨296, 12, 296, 20⟩, ⟨296, 19, 296, 20⟩, ⟨297, 8, 297, 28⟩, ⟨297, 8, 297, 14⟩, ⟨297, 17, 297, 28⟩, ⟨297, 17, 297, 21⟩, ⟨297, 22, 297, 27⟩, ⟨298, 4, 298, 15⟩, ⟨298, 11, 298, 15⟩],
  [{ kind := .function, names := [(".0", .local), ("number", .local), ("waiting", .free)], isGenerator := false, isCoroutine := false, more := [] },
   { kind := .function, names := [(".0", .local), ("worth", .local), ("number", .local)], isGenerator := false, isCoroutine := false, more := [] },
   { kind := .function, names := [(".0", .local), ("row", .local), ("is_link", .globalImplicit), ("pool", .free)], isGenerator := false, isCoroutine := false, more := [] },
   { kind := .function, names := [(".0", .local), ("row", .local)], isGenerator := false, isCoroutine := false, more := [] },
   { kind := .function, names := [(".0", .local), ("number", .local), ("least", .free), ("waiting", .free), ("worths", .free)], isGenerator := false, isCoroutine := false, more := [] },
   { kind := .function, names := [(".0", .local), ("kind", .local), ("find_seats", .globalImplicit), ("pool", .free), ("time", .free)], isGenerator := false, isCoroutine := false, more := [] },
   { kind := .function, names := [(".0", .local), ("kind", .local), ("kinds", .free)], isGenerator := false, isCoroutine := false, more := [] }],
  []⟩
theorem em_check_worthiest : (emSs nN_check_worthiest ir_check_worthiest nE_check_worthiest).1 = defBody st_check_worthiest := by rfl
theorem ok_check_worthiest : okSs nN_check_worthiest (defScope st_check_worthiest) ir_check_worthiest nE_check_worthiest = true := by decide +kernel
theorem sc_check_worthiest : FnScope nN_check_worthiest ["pool", "claims", "waiting", "worths", "time", "choice", "rows"] (defScope st_check_worthiest) := ⟨rfl, rfl, rfl, by decide +kernel, rfl, by decide +kernel, by decide +kernel⟩

abbrev st_is_online : Stmt := top 27
def nN_is_online : List Str := ["pool", "value"]
def nE_is_online : Em := ⟨[⟨72, 4, 72, 56⟩, ⟨72, 11, 72, 56⟩, ⟨72, 11, 72, 35⟩, ⟨72, 11, 72, 22⟩, ⟨72, 23, 72, 27⟩, ⟨72, 29, 72, 34⟩, ⟨72, 40, 72, 56⟩, ⟨72, 40, 72, 48⟩, ⟨72, 40, 72, 45⟩, ⟨72, 46, 72, 47⟩, ⟨72, 52, 72, 56⟩],
  [],
  []⟩
theorem em_is_online : (emSs nN_is_online ir_is_online nE_is_online).1 = defBody st_is_online := by rfl
theorem ok_is_online : okSs nN_is_online (defScope st_is_online) ir_is_online nE_is_online = true := by decide +kernel
theorem sc_is_online : FnScope nN_is_online ["pool", "value"] (defScope st_is_online) := ⟨rfl, rfl, rfl, by decide +kernel, rfl, by decide +kernel, by decide +kernel⟩

abbrev st_are_bars : Stmt := top 70
def nN_are_bars : List Str := ["rows", "row", "last"]
def nE_are_bars : Em := ⟨[⟨240, 4, 241, 20⟩, ⟨240, 7, 240, 101⟩, ⟨240, 7, 240, 33⟩, ⟨240, 11, 240, 33⟩, ⟨240, 11, 240, 21⟩, ⟨240, 22, 240, 26⟩, ⟨240, 28, 240, 32⟩, ⟨240, 37, 240, 101⟩, ⟨240, 41, 240, 101⟩, ⟨240, 41, 240, 44⟩, ⟨240, 45, 240, 100⟩, ⟨240, 46, 240, 83⟩, ⟨240, 46, 240, 60⟩, ⟨240, 46, 240, 52⟩, ⟨240, 53, 240, 56⟩, ⟨240, 58, 240, 59⟩, ⟨240, 65, 240, 83⟩, ⟨240, 65, 240, 75⟩, ⟨240, 76, 240, 82⟩, ⟨240, 76, 240, 79⟩, ⟨240, 80, 240, 81⟩, ⟨240, 88, 240, 91⟩, ⟨240, 95, 240, 99⟩, ⟨241, 8, 241, 20⟩, ⟨241, 15, 241, 20⟩, ⟨242, 4, 242, 13⟩, ⟨242, 4, 242, 8⟩, ⟨242, 11, 242, 13⟩, ⟨242, 12, 242, 13⟩, ⟨243, 4, 246, 21⟩, ⟨243, 8, 243, 11⟩, ⟨243, 15, 243, 19⟩, ⟨244, 8, 245, 24⟩, ⟨244, 11, 244, 50⟩, ⟨244, 15, 244, 50⟩, ⟨244, 15, 244, 19⟩, ⟨244, 22, 244, 28⟩, ⟨244, 22, 244, 25⟩, ⟨244, 26, 244, 27⟩, ⟨244, 32, 244, 38⟩, ⟨244, 32, 244, 35⟩, ⟨244, 36, 244, 37⟩, ⟨244, 41, 244, 50⟩, ⟨245, 12, 245, 24⟩, ⟨245, 19, 245, 24⟩, ⟨246, 8, 246, 21⟩, ⟨246, 8, 246, 12⟩, ⟨246, 15, 246, 21⟩, ⟨246, 15, 246, 18⟩, ⟨246, 19, 246, 20⟩, ⟨247, 4, 247, 15⟩, ⟨247, 11, 247, 15⟩],
  [{ kind := .function, names := [(".0", .local), ("row", .local), ("is_row", .globalImplicit), ("is_integer", .globalImplicit)], isGenerator := false, isCoroutine := false, more := [] }],
  []⟩
theorem em_are_bars : (emSs nN_are_bars ir_are_bars nE_are_bars).1 = defBody st_are_bars := by rfl
theorem ok_are_bars : okSs nN_are_bars (defScope st_are_bars) ir_are_bars nE_are_bars = true := by decide +kernel
theorem sc_are_bars : FnScope nN_are_bars ["rows"] (defScope st_are_bars) := ⟨rfl, rfl, rfl, by decide +kernel, rfl, by decide +kernel, by decide +kernel⟩

abbrev st_find_changes : Stmt := top 53
def nN_find_changes : List Str := ["pool", "claims", "times", "claim", "kind", "start", "number"]
def nE_find_changes : Em := ⟨[⟨171, 4, 171, 15⟩, ⟨171, 4, 171, 9⟩, ⟨171, 12, 171, 15⟩, ⟨171, 13, 171, 14⟩, ⟨172, 4, 173, 42⟩, ⟨172, 8, 172, 13⟩, ⟨172, 17, 172, 23⟩, ⟨173, 8, 173, 42⟩, ⟨173, 8, 173, 42⟩, ⟨173, 8, 173, 20⟩, ⟨173, 8, 173, 13⟩, ⟨173, 21, 173, 41⟩, ⟨173, 22, 173, 30⟩, ⟨173, 22, 173, 27⟩, ⟨173, 28, 173, 29⟩, ⟨173, 32, 173, 40⟩, ⟨173, 32, 173, 37⟩, ⟨173, 38, 173, 39⟩, ⟨174, 4, 175, 58⟩, ⟨174, 8, 174, 12⟩, ⟨174, 16, 174, 20⟩, ⟨175, 8, 175, 58⟩, ⟨175, 8, 175, 58⟩, ⟨175, 8, 175, 20⟩, ⟨175, 8, 175, 13⟩, ⟨175, 21, 175, 57⟩, ⟨175, 22, 175, 27⟩, ⟨175, 32, 175, 45⟩, ⟨175, 32, 175, 37⟩, ⟨175, 39, 175, 45⟩, ⟨175, 49, 175, 56⟩, ⟨175, 49, 175, 53⟩, ⟨175, 54, 175, 55⟩, ⟨176, 4, 176, 29⟩, ⟨176, 11, 176, 29⟩, ⟨176, 11, 176, 17⟩, ⟨176, 18, 176, 28⟩, ⟨176, 18, 176, 21⟩, ⟨176, 22, 176, 27⟩],
  [{ kind := .function, names := [(".0", .local), ("start", .local), ("number", .local)], isGenerator := false, isCoroutine := false, more := [] }],
  []⟩
theorem em_find_changes : (emSs nN_find_changes ir_find_changes nE_find_changes).1 = defBody st_find_changes := by rfl
theorem ok_find_changes : okSs nN_find_changes (defScope st_find_changes) ir_find_changes nE_find_changes = true := by decide +kernel
theorem sc_find_changes : FnScope nN_find_changes ["pool", "claims"] (defScope st_find_changes) := ⟨rfl, rfl, rfl, by decide +kernel, rfl, by decide +kernel, by decide +kernel⟩

abbrev st_is_bar : Stmt := top 71
def nN_is_bar : List Str := ["pool", "claims", "claim", "row", "first", "last", "value", "time", "own", "change"]
def nE_is_bar : Em := ⟨[⟨249, 4, 249, 28⟩, ⟨249, 4, 249, 22⟩, ⟨249, 4, 249, 9⟩, ⟨249, 11, 249, 15⟩, ⟨249, 17, 249, 22⟩, ⟨249, 25, 249, 28⟩, ⟨250, 4, 253, 24⟩, ⟨250, 8, 250, 12⟩, ⟨250, 16, 250, 101⟩, ⟨250, 16, 250, 23⟩, ⟨250, 17, 250, 22⟩, ⟨250, 26, 250, 101⟩, ⟨250, 27, 250, 33⟩, ⟨250, 38, 250, 44⟩, ⟨250, 48, 250, 74⟩, ⟨250, 48, 250, 60⟩, ⟨250, 61, 250, 65⟩, ⟨250, 67, 250, 73⟩, ⟨250, 78, 250, 100⟩, ⟨250, 78, 250, 83⟩, ⟨250, 86, 250, 92⟩, ⟨250, 96, 250, 100⟩, ⟨251, 8, 251, 56⟩, ⟨251, 8, 251, 11⟩, ⟨251, 14, 251, 56⟩, ⟨251, 15, 251, 23⟩, ⟨251, 15, 251, 20⟩, ⟨251, 21, 251, 22⟩, ⟨251, 25, 251, 33⟩, ⟨251, 25, 251, 30⟩, ⟨251, 31, 251, 32⟩, ⟨251, 35, 251, 39⟩, ⟨251, 41, 251, 49⟩, ⟨251, 41, 251, 45⟩, ⟨251, 48, 251, 49⟩, ⟨251, 51, 251, 55⟩, ⟨252, 8, 253, 24⟩, ⟨252, 11, 252, 59⟩, ⟨252, 15, 252, 59⟩, ⟨252, 15, 252, 23⟩, ⟨252, 24, 252, 28⟩, ⟨252, 30, 252, 45⟩, ⟨252, 30, 252, 36⟩, ⟨252, 39, 252, 45⟩, ⟨252, 40, 252, 43⟩, ⟨252, 47, 252, 51⟩, ⟨252, 53, 252, 58⟩, ⟨253, 12, 253, 24⟩, ⟨253, 19, 253, 24⟩, ⟨254, 4, 254, 15⟩, ⟨254, 11, 254, 15⟩],
  [{ kind := .function, names := [(".0", .local), ("change", .local), ("first", .free), ("last", .free)], isGenerator := false, isCoroutine := false, more := [] }],
  []⟩
theorem em_is_bar : (emSs nN_is_bar ir_is_bar nE_is_bar).1 = defBody st_is_bar := by rfl
theorem ok_is_bar : okSs nN_is_bar (defScope st_is_bar) ir_is_bar nE_is_bar = true := by decide +kernel
theorem sc_is_bar : FnScope nN_is_bar ["pool", "claims", "claim", "row"] (defScope st_is_bar) := ⟨rfl, rfl, rfl, by decide +kernel, rfl, by decide +kernel, by decide +kernel⟩

abbrev st_check_bars : Stmt := top 72
def nN_check_bars : List Str := ["pool", "claims", "claim", "start", "rows", "length", "free", "first", "last", "value", "row"]
def nE_check_bars : Em := ⟨[⟨256, 4, 257, 16⟩, ⟨256, 7, 256, 78⟩, ⟨256, 7, 256, 33⟩, ⟨256, 11, 256, 33⟩, ⟨256, 11, 256, 20⟩, ⟨256, 21, 256, 25⟩, ⟨256, 27, 256, 32⟩, ⟨256, 37, 256, 58⟩, ⟨256, 41, 256, 58⟩, ⟨256, 41, 256, 51⟩, ⟨256, 52, 256, 57⟩, ⟨256, 62, 256, 78⟩, ⟨256, 62, 256, 67⟩, ⟨256, 70, 256, 78⟩, ⟨256, 70, 256, 75⟩, ⟨256, 76, 256, 77⟩, ⟨257, 8, 257, 16⟩, ⟨257, 15, 257, 16⟩, ⟨258, 4, 259, 16⟩, ⟨258, 7, 258, 25⟩, ⟨258, 11, 258, 25⟩, ⟨258, 11, 258, 19⟩, ⟨258, 20, 258, 24⟩, ⟨259, 8, 259, 16⟩, ⟨259, 15, 259, 16⟩, ⟨260, 4, 261, 16⟩, ⟨260, 7, 260, 66⟩, ⟨260, 11, 260, 66⟩, ⟨260, 11, 260, 14⟩, ⟨260, 15, 260, 65⟩, ⟨260, 16, 260, 48⟩, ⟨260, 16, 260, 22⟩, ⟨260, 23, 260, 27⟩, ⟨260, 29, 260, 35⟩, ⟨260, 37, 260, 42⟩, ⟨260, 44, 260, 47⟩, ⟨260, 53, 260, 56⟩, ⟨260, 60, 260, 64⟩, ⟨261, 8, 261, 16⟩, ⟨261, 15, 261, 16⟩, ⟨262, 4, 262, 32⟩, ⟨262, 4, 262, 10⟩, ⟨262, 13, 262, 32⟩, ⟨262, 13, 262, 21⟩, ⟨262, 13, 262, 18⟩, ⟨262, 19, 262, 20⟩, ⟨262, 24, 262, 32⟩, ⟨262, 24, 262, 29⟩, ⟨262, 30, 262, 31⟩, ⟨263, 4, 263, 19⟩, ⟨263, 4, 263, 8⟩, ⟨263, 11, 263, 19⟩, ⟨263, 11, 263, 16⟩, ⟨263, 17, 263, 18⟩, ⟨264, 4, 266, 38⟩, ⟨264, 8, 264, 26⟩, ⟨264, 8, 264, 13⟩, ⟨264, 15, 264, 19⟩, ⟨264, 21, 264, 26⟩, ⟨264, 30, 264, 34⟩, ⟨265, 8, 266, 38⟩, ⟨265, 11, 265, 32⟩, ⟨265, 11, 265, 16⟩, ⟨265, 19, 265, 32⟩, ⟨265, 19, 265, 23⟩, ⟨265, 26, 265, 32⟩, ⟨266, 12, 266, 38⟩, ⟨266, 12, 266, 16⟩, ⟨266, 19, 266, 38⟩, ⟨266, 19, 266, 22⟩, ⟨266, 23, 266, 27⟩, ⟨266, 29, 266, 37⟩, ⟨266, 29, 266, 33⟩, ⟨266, 36, 266, 37⟩, ⟨267, 4, 267, 68⟩, ⟨267, 11, 267, 68⟩, ⟨267, 19, 267, 61⟩, ⟨267, 19, 267, 23⟩, ⟨267, 27, 267, 61⟩, ⟨267, 27, 267, 30⟩, ⟨267, 31, 267, 36⟩, ⟨267, 38, 267, 60⟩, ⟨267, 38, 267, 51⟩, ⟨267, 38, 267, 47⟩, ⟨267, 50, 267, 51⟩, ⟨267, 54, 267, 60⟩, ⟨267, 11, 267, 15⟩, ⟨267, 67, 267, 68⟩],
  [{ kind := .function, names := [(".0", .local), ("row", .local), ("is_bar", .globalImplicit), ("claim", .free), ("claims", .free), ("pool", .free)], isGenerator := false, isCoroutine := false, more := [] }],
  []⟩
theorem em_check_bars : (emSs nN_check_bars ir_check_bars_v1 nE_check_bars).1 = defBody st_check_bars := by rfl
theorem ok_check_bars : okSs nN_check_bars (defScope st_check_bars) ir_check_bars_v1 nE_check_bars = true := by decide +kernel
theorem sc_check_bars : FnScope nN_check_bars ["pool", "claims", "claim", "start", "rows"] (defScope st_check_bars) := ⟨rfl, rfl, rfl, by decide +kernel, rfl, by decide +kernel, by decide +kernel⟩

abbrev st_check_seats : Stmt := top 77
def nN_check_seats : List Str := ["pool", "claims", "kind", "number", "time", "value", "more", "has_kind"]
def nE_check_seats : Em := ⟨[⟨300, 4, 301, 16⟩, ⟨300, 7, 300, 112⟩, ⟨300, 7, 300, 45⟩, ⟨300, 11, 300, 45⟩, ⟨300, 11, 300, 21⟩, ⟨300, 22, 300, 26⟩, ⟨300, 28, 300, 29⟩, ⟨300, 31, 300, 44⟩, ⟨300, 31, 300, 40⟩, ⟨300, 31, 300, 34⟩, ⟨300, 35, 300, 39⟩, ⟨300, 43, 300, 44⟩, ⟨300, 50, 300, 111⟩, ⟨300, 50, 300, 68⟩, ⟨300, 50, 300, 56⟩, ⟨300, 64, 300, 68⟩, ⟨300, 74, 300, 110⟩, ⟨300, 74, 300, 96⟩, ⟨300, 78, 300, 96⟩, ⟨300, 78, 300, 88⟩, ⟨300, 89, 300, 95⟩, ⟨300, 100, 300, 110⟩, ⟨300, 100, 300, 106⟩, ⟨300, 109, 300, 110⟩, ⟨301, 8, 301, 16⟩, ⟨301, 15, 301, 16⟩, ⟨302, 4, 303, 16⟩, ⟨302, 7, 302, 38⟩, ⟨302, 11, 302, 38⟩, ⟨302, 11, 302, 17⟩, ⟨302, 18, 302, 24⟩, ⟨302, 26, 302, 30⟩, ⟨302, 32, 302, 37⟩, ⟨303, 8, 303, 16⟩, ⟨303, 15, 303, 16⟩, ⟨304, 4, 304, 60⟩, ⟨304, 4, 304, 8⟩, ⟨304, 11, 304, 60⟩, ⟨304, 11, 304, 21⟩, ⟨304, 11, 304, 14⟩, ⟨304, 15, 304, 20⟩, ⟨304, 24, 304, 60⟩, ⟨304, 24, 304, 33⟩, ⟨304, 34, 304, 38⟩, ⟨304, 40, 304, 46⟩, ⟨304, 48, 304, 52⟩, ⟨304, 54, 304, 59⟩, ⟨305, 4, 305, 53⟩, ⟨305, 4, 305, 12⟩, ⟨305, 15, 305, 53⟩, ⟨305, 15, 305, 19⟩, ⟨305, 23, 305, 53⟩, ⟨305, 23, 305, 32⟩, ⟨305, 33, 305, 37⟩, ⟨305, 39, 305, 45⟩, ⟨305, 47, 305, 52⟩, ⟨306, 4, 307, 57⟩, ⟨306, 7, 306, 21⟩, ⟨306, 7, 306, 13⟩, ⟨306, 17, 306, 21⟩, ⟨307, 8, 307, 57⟩, ⟨307, 15, 307, 57⟩, ⟨307, 23, 307, 50⟩, ⟨307, 23, 307, 31⟩, ⟨307, 23, 307, 27⟩, ⟨307, 30, 307, 31⟩, ⟨307, 37, 307, 49⟩, ⟨307, 41, 307, 49⟩, ⟨307, 15, 307, 19⟩, ⟨307, 56, 307, 57⟩, ⟨308, 4, 308, 53⟩, ⟨308, 11, 308, 53⟩, ⟨308, 19, 308, 46⟩, ⟨308, 19, 308, 33⟩, ⟨308, 19, 308, 23⟩, ⟨308, 27, 308, 33⟩, ⟨308, 38, 308, 46⟩, ⟨308, 11, 308, 15⟩, ⟨308, 52, 308, 53⟩],
  [],
  []⟩
theorem em_check_seats : (emSs nN_check_seats ir_check_seats nE_check_seats).1 = defBody st_check_seats := by rfl
theorem ok_check_seats : okSs nN_check_seats (defScope st_check_seats) ir_check_seats nE_check_seats = true := by decide +kernel
theorem sc_check_seats : FnScope nN_check_seats ["pool", "claims", "kind", "number", "time", "value"] (defScope st_check_seats) := ⟨rfl, rfl, rfl, by decide +kernel, rfl, by decide +kernel, by decide +kernel⟩

abbrev st_find_wrong : Stmt := top 78
def nN_find_wrong : List Str := ["certificate", "word", "rest"]
def nE_find_wrong : Em := ⟨[⟨310, 4, 310, 50⟩, ⟨310, 4, 310, 14⟩, ⟨310, 4, 310, 8⟩, ⟨310, 10, 310, 14⟩, ⟨310, 17, 310, 50⟩, ⟨310, 18, 310, 32⟩, ⟨310, 18, 310, 29⟩, ⟨310, 30, 310, 31⟩, ⟨310, 34, 310, 49⟩, ⟨310, 46, 310, 48⟩, ⟨310, 34, 310, 45⟩, ⟨310, 46, 310, 47⟩, ⟨311, 4, 312, 35⟩, ⟨311, 7, 311, 24⟩, ⟨311, 7, 311, 11⟩, ⟨311, 15, 311, 24⟩, ⟨312, 8, 312, 35⟩, ⟨312, 15, 312, 35⟩, ⟨312, 15, 312, 28⟩, ⟨312, 29, 312, 34⟩, ⟨312, 30, 312, 34⟩, ⟨313, 4, 314, 36⟩, ⟨313, 7, 313, 25⟩, ⟨313, 7, 313, 11⟩, ⟨313, 15, 313, 25⟩, ⟨314, 8, 314, 36⟩, ⟨314, 15, 314, 36⟩, ⟨314, 15, 314, 29⟩, ⟨314, 30, 314, 35⟩, ⟨314, 31, 314, 35⟩, ⟨315, 4, 316, 32⟩, ⟨315, 7, 315, 21⟩, ⟨315, 7, 315, 11⟩, ⟨315, 15, 315, 21⟩, ⟨316, 8, 316, 32⟩, ⟨316, 15, 316, 32⟩, ⟨316, 15, 316, 25⟩, ⟨316, 26, 316, 31⟩, ⟨316, 27, 316, 31⟩, ⟨317, 4, 318, 34⟩, ⟨317, 7, 317, 23⟩, ⟨317, 7, 317, 11⟩, ⟨317, 15, 317, 23⟩, ⟨318, 8, 318, 34⟩, ⟨318, 15, 318, 34⟩, ⟨318, 15, 318, 27⟩, ⟨318, 28, 318, 33⟩, ⟨318, 29, 318, 33⟩, ⟨319, 4, 320, 38⟩, ⟨319, 7, 319, 27⟩, ⟨319, 7, 319, 11⟩, ⟨319, 15, 319, 27⟩, ⟨320, 8, 320, 38⟩, ⟨320, 15, 320, 38⟩, ⟨320, 15, 320, 31⟩, ⟨320, 32, 320, 37⟩, ⟨320, 33, 320, 37⟩, ⟨321, 4, 322, 32⟩, ⟨321, 7, 321, 21⟩, ⟨321, 7, 321, 11⟩, ⟨321, 15, 321, 21⟩, ⟨322, 8, 322, 32⟩, ⟨322, 15, 322, 32⟩, ⟨322, 15, 322, 25⟩, ⟨322, 26, 322, 31⟩, ⟨322, 27, 322, 31⟩, ⟨323, 4, 324, 37⟩, ⟨323, 7, 323, 26⟩, ⟨323, 7, 323, 11⟩, ⟨323, 15, 323, 26⟩, ⟨324, 8, 324, 37⟩, ⟨324, 15, 324, 37⟩, ⟨324, 15, 324, 30⟩, ⟨324, 31, 324, 36⟩, ⟨324, 32, 324, 36⟩, ⟨325, 4, 325, 70⟩, ⟨325, 11, 325, 70⟩, ⟨325, 32, 325, 46⟩, ⟨325, 32, 325, 36⟩, ⟨325, 40, 325, 46⟩, ⟨325, 11, 325, 28⟩, ⟨325, 11, 325, 21⟩, ⟨325, 22, 325, 27⟩, ⟨325, 23, 325, 27⟩, ⟨325, 52, 325, 70⟩, ⟨325, 52, 325, 63⟩, ⟨325, 64, 325, 69⟩, ⟨325, 65, 325, 69⟩],
  [],
  []⟩
theorem em_find_wrong : (emSs nN_find_wrong ir_find_wrong nE_find_wrong).1 = defBody st_find_wrong := by rfl
theorem ok_find_wrong : okSs nN_find_wrong (defScope st_find_wrong) ir_find_wrong nE_find_wrong = true := by decide +kernel
theorem sc_find_wrong : FnScope nN_find_wrong ["certificate"] (defScope st_find_wrong) := ⟨rfl, rfl, rfl, by decide +kernel, rfl, by decide +kernel, by decide +kernel⟩

abbrev st_check : Stmt := top 79
def nN_check : List Str := ["certificate", "word", "wrong"]
def nE_check : Em := ⟨[⟨327, 4, 328, 50⟩, ⟨327, 7, 327, 103⟩, ⟨327, 7, 327, 41⟩, ⟨327, 11, 327, 41⟩, ⟨327, 11, 327, 21⟩, ⟨327, 22, 327, 33⟩, ⟨327, 35, 327, 40⟩, ⟨327, 45, 327, 62⟩, ⟨327, 45, 327, 56⟩, ⟨327, 60, 327, 62⟩, ⟨327, 67, 327, 102⟩, ⟨327, 71, 327, 102⟩, ⟨327, 71, 327, 81⟩, ⟨327, 82, 327, 96⟩, ⟨327, 82, 327, 93⟩, ⟨327, 94, 327, 95⟩, ⟨327, 98, 327, 101⟩, ⟨329, 4, 329, 25⟩, ⟨329, 4, 329, 8⟩, ⟨329, 11, 329, 25⟩, ⟨329, 11, 329, 22⟩, ⟨329, 23, 329, 24⟩, ⟨330, 4, 331, 50⟩, ⟨330, 7, 330, 45⟩, ⟨330, 7, 330, 25⟩, ⟨330, 7, 330, 16⟩, ⟨330, 7, 330, 12⟩, ⟨330, 17, 330, 21⟩, ⟨330, 23, 330, 24⟩, ⟨330, 29, 330, 45⟩, ⟨330, 29, 330, 32⟩, ⟨330, 33, 330, 44⟩, ⟨332, 4, 332, 32⟩, ⟨332, 4, 332, 32⟩, ⟨332, 4, 332, 16⟩, ⟨332, 17, 332, 31⟩, ⟨332, 17, 332, 28⟩, ⟨332, 29, 332, 30⟩, ⟨333, 4, 333, 50⟩, ⟨333, 4, 333, 50⟩, ⟨333, 4, 333, 18⟩, ⟨333, 19, 333, 33⟩, ⟨333, 19, 333, 30⟩, ⟨333, 31, 333, 32⟩, ⟨333, 35, 333, 49⟩, ⟨333, 35, 333, 46⟩, ⟨333, 47, 333, 48⟩, ⟨334, 4, 335, 55⟩, ⟨334, 7, 334, 36⟩, ⟨334, 7, 334, 11⟩, ⟨334, 15, 334, 36⟩, ⟨334, 16, 334, 22⟩, ⟨334, 24, 334, 35⟩, ⟨335, 8, 335, 55⟩, ⟨335, 8, 335, 55⟩, ⟨335, 8, 335, 23⟩, ⟨335, 24, 335, 38⟩, ⟨335, 24, 335, 35⟩, ⟨335, 36, 335, 37⟩, ⟨335, 40, 335, 54⟩, ⟨335, 40, 335, 51⟩, ⟨335, 52, 335, 53⟩, ⟨336, 4, 337, 46⟩, ⟨336, 7, 336, 20⟩, ⟨336, 7, 336, 11⟩, ⟨336, 15, 336, 20⟩, ⟨337, 8, 337, 46⟩, ⟨337, 8, 337, 46⟩, ⟨337, 8, 337, 20⟩, ⟨337, 21, 337, 45⟩, ⟨337, 21, 337, 32⟩, ⟨337, 33, 337, 44⟩, ⟨337, 33, 337, 38⟩, ⟨337, 39, 337, 43⟩, ⟨338, 4, 338, 35⟩, ⟨338, 4, 338, 9⟩, ⟨338, 12, 338, 35⟩, ⟨338, 12, 338, 22⟩, ⟨338, 23, 338, 34⟩, ⟨339, 4, 339, 60⟩, ⟨339, 11, 339, 60⟩, ⟨339, 25, 339, 38⟩, ⟨339, 25, 339, 30⟩, ⟨339, 34, 339, 38⟩, ⟨339, 11, 339, 21⟩, ⟨339, 12, 339, 19⟩, ⟨339, 44, 339, 60⟩, ⟨339, 45, 339, 52⟩, ⟨339, 54, 339, 59⟩],
  [],
  [nav [0, 0, 0] (defBody st_check), nav [2, 0, 0] (defBody st_check)]⟩
theorem em_check : (emSs nN_check ir_check nE_check).1 = defBody st_check := by rfl
theorem ok_check : okSs nN_check (defScope st_check) ir_check nE_check = true := by decide +kernel
theorem sc_check : FnScope nN_check ["certificate"] (defScope st_check) := ⟨rfl, rfl, rfl, by decide +kernel, rfl, by decide +kernel, by decide +kernel⟩

abbrev st_law : Stmt := top 85
def nN_law : List Str := ["_law_script", "_law_pen", "_law_pool", "_law_waiting", "_law_start", "_law_some", "_law_odd", "_law_told"]
def nE_law : Em := ⟨[⟨373, 4, 373, 37⟩, ⟨373, 4, 373, 12⟩, ⟨373, 15, 373, 37⟩, ⟨373, 15, 373, 24⟩, ⟨373, 25, 373, 36⟩, ⟨374, 4, 374, 79⟩, ⟨374, 4, 374, 27⟩, ⟨374, 4, 374, 13⟩, ⟨374, 15, 374, 27⟩, ⟨374, 30, 374, 79⟩, ⟨374, 31, 374, 55⟩, ⟨374, 32, 374, 53⟩, ⟨374, 33, 374, 37⟩, ⟨374, 34, 374, 35⟩, ⟨374, 39, 374, 41⟩, ⟨374, 43, 374, 52⟩, ⟨374, 44, 374, 50⟩, ⟨374, 45, 374, 46⟩, ⟨374, 48, 374, 49⟩, ⟨374, 57, 374, 78⟩, ⟨374, 58, 374, 76⟩, ⟨374, 59, 374, 60⟩, ⟨374, 62, 374, 63⟩, ⟨374, 65, 374, 66⟩, ⟨374, 68, 374, 69⟩, ⟨374, 71, 374, 75⟩, ⟨375, 4, 375, 43⟩, ⟨375, 4, 375, 14⟩, ⟨375, 17, 375, 43⟩, ⟨375, 17, 375, 18⟩, ⟨375, 21, 375, 43⟩, ⟨375, 21, 375, 30⟩, ⟨375, 31, 375, 39⟩, ⟨375, 41, 375, 42⟩, ⟨376, 4, 376, 115⟩, ⟨376, 4, 376, 13⟩, ⟨376, 16, 376, 115⟩, ⟨376, 17, 376, 21⟩, ⟨376, 23, 376, 24⟩, ⟨376, 26, 376, 27⟩, ⟨376, 29, 376, 33⟩, ⟨376, 35, 376, 40⟩, ⟨376, 42, 376, 44⟩, ⟨376, 46, 376, 49⟩, ⟨376, 51, 376, 53⟩, ⟨376, 55, 376, 58⟩, ⟨376, 56, 376, 57⟩, ⟨376, 60, 376, 67⟩, ⟨376, 61, 376, 65⟩, ⟨376, 62, 376, 63⟩, ⟨376, 69, 376, 75⟩, ⟨376, 70, 376, 73⟩, ⟨376, 71, 376, 72⟩, ⟨376, 77, 376, 84⟩, ⟨376, 78, 376, 82⟩, ⟨376, 86, 376, 92⟩, ⟨376, 87, 376, 88⟩, ⟨376, 90, 376, 91⟩, ⟨376, 94, 376, 98⟩, ⟨376, 95, 376, 96⟩, ⟨376, 100, 376, 105⟩, ⟨376, 101, 376, 103⟩, ⟨376, 102, 376, 103⟩, ⟨376, 107, 376, 114⟩, ⟨376, 108, 376, 112⟩, ⟨377, 4, 381, 24⟩, ⟨377, 8, 377, 16⟩, ⟨377, 20, 377, 63⟩, ⟨377, 20, 377, 29⟩, ⟨377, 32, 377, 63⟩, ⟨377, 33, 377, 62⟩, ⟨377, 33, 377, 41⟩, ⟨377, 42, 377, 50⟩, ⟨377, 52, 377, 61⟩, ⟨378, 8, 378, 90⟩, ⟨378, 8, 378, 17⟩, ⟨378, 20, 378, 90⟩, ⟨378, 21, 378, 89⟩, ⟨378, 21, 378, 26⟩, ⟨378, 27, 378, 88⟩, ⟨378, 28, 378, 34⟩, ⟨378, 36, 378, 45⟩, ⟨378, 47, 378, 49⟩, ⟨378, 51, 378, 63⟩, ⟨378, 65, 378, 67⟩, ⟨378, 69, 378, 87⟩, ⟨378, 70, 378, 86⟩, ⟨378, 71, 378, 72⟩, ⟨378, 74, 378, 75⟩, ⟨378, 77, 378, 85⟩, ⟨379, 8, 379, 121⟩, ⟨379, 8, 379, 121⟩, ⟨379, 8, 379, 24⟩, ⟨379, 8, 379, 17⟩, ⟨379, 25, 379, 120⟩, ⟨379, 25, 379, 30⟩, ⟨379, 31, 379, 119⟩, ⟨379, 32, 379, 38⟩, ⟨379, 40, 379, 49⟩, ⟨379, 51, 379, 53⟩, ⟨379, 55, 379, 73⟩, ⟨379, 56, 379, 57⟩, ⟨379, 59, 379, 60⟩, ⟨379, 62, 379, 63⟩, ⟨379, 65, 379, 66⟩, ⟨379, 68, 379, 72⟩, ⟨379, 75, 379, 85⟩, ⟨379, 87, 379, 118⟩, ⟨379, 88, 379, 117⟩, ⟨379, 89, 379, 90⟩, ⟨379, 92, 379, 106⟩, ⟨379, 92, 379, 93⟩, ⟨379, 96, 379, 106⟩, ⟨379, 108, 379, 116⟩, ⟨380, 8, 381, 24⟩, ⟨380, 11, 380, 52⟩, ⟨380, 11, 380, 20⟩, ⟨380, 24, 380, 52⟩, ⟨380, 25, 380, 37⟩, ⟨380, 26, 380, 33⟩, ⟨380, 35, 380, 36⟩, ⟨380, 39, 380, 51⟩, ⟨380, 40, 380, 47⟩, ⟨380, 49, 380, 50⟩, ⟨381, 12, 381, 24⟩, ⟨381, 19, 381, 24⟩, ⟨382, 4, 382, 82⟩, ⟨382, 4, 382, 13⟩, ⟨382, 16, 382, 82⟩, ⟨382, 17, 382, 81⟩, ⟨382, 17, 382, 22⟩, ⟨382, 23, 382, 80⟩, ⟨382, 24, 382, 30⟩, ⟨382, 32, 382, 41⟩, ⟨382, 43, 382, 45⟩, ⟨382, 47, 382, 59⟩, ⟨382, 61, 382, 63⟩, ⟨382, 65, 382, 79⟩, ⟨382, 66, 382, 78⟩, ⟨382, 67, 382, 68⟩, ⟨382, 70, 382, 71⟩, ⟨382, 73, 382, 77⟩, ⟨382, 74, 382, 75⟩, ⟨383, 4, 383, 113⟩, ⟨383, 4, 383, 113⟩, ⟨383, 4, 383, 20⟩, ⟨383, 4, 383, 13⟩, ⟨383, 21, 383, 112⟩, ⟨383, 21, 383, 26⟩, ⟨383, 27, 383, 111⟩, ⟨383, 28, 383, 34⟩, ⟨383, 36, 383, 45⟩, ⟨383, 47, 383, 49⟩, ⟨383, 51, 383, 69⟩, ⟨383, 52, 383, 53⟩, ⟨383, 55, 383, 56⟩, ⟨383, 58, 383, 59⟩, ⟨383, 61, 383, 62⟩, ⟨383, 64, 383, 68⟩, ⟨383, 71, 383, 81⟩, ⟨383, 83, 383, 110⟩, ⟨383, 84, 383, 109⟩, ⟨383, 85, 383, 86⟩, ⟨383, 88, 383, 102⟩, ⟨383, 88, 383, 89⟩, ⟨383, 92, 383, 102⟩, ⟨383, 104, 383, 108⟩, ⟨383, 105, 383, 106⟩, ⟨384, 4, 384, 48⟩, ⟨384, 11, 384, 48⟩, ⟨384, 11, 384, 20⟩, ⟨384, 24, 384, 48⟩, ⟨384, 25, 384, 35⟩, ⟨384, 26, 384, 33⟩, ⟨384, 37, 384, 47⟩, ⟨384, 38, 384, 45⟩],
  [],
  []⟩
theorem em_law : (emSs nN_law (.cons (.set 1 (.call "_law_open" FNo (.cons (.var 0) .nil))) irr_law) nE_law).1 = defBody st_law := by rfl
theorem ok_law : okSs nN_law (defScope st_law) (.cons (.set 1 (.call "_law_open" FNo (.cons (.var 0) .nil))) irr_law) nE_law = true := by decide +kernel
theorem sc_law : FnScope nN_law ["_law_script"] (defScope st_law) := ⟨rfl, rfl, rfl, by decide +kernel, rfl, by decide +kernel, by decide +kernel⟩

structure Top (K : PySem.W.Frag) (mg : Str → Option Value) (pm : Params) : Prop where
  d__law_open : DefAt K mg "_law_open" st__law_open
  d__law_spread : DefAt K mg "_law_spread" st__law_spread
  d__law_take : DefAt K mg "_law_take" st__law_take
  d__law_one : DefAt K mg "_law_one" st__law_one
  d_is_integer : DefAt K mg "is_integer" st_is_integer
  d_is_between : DefAt K mg "is_between" st_is_between
  d_is_digits : DefAt K mg "is_digits" st_is_digits
  d_is_time : DefAt K mg "is_time" st_is_time
  d_is_step : DefAt K mg "is_step" st_is_step
  d_is_steps : DefAt K mg "is_steps" st_is_steps
  d_is_kind : DefAt K mg "is_kind" st_is_kind
  d_is_pool : DefAt K mg "is_pool" st_is_pool
  d_require_pool : DefAt K mg "require_pool" st_require_pool
  d_serves : DefAt K mg "serves" st_serves
  d_is_claim_of : DefAt K mg "is_claim_of" st_is_claim_of
  d_are_claims : DefAt K mg "are_claims" st_are_claims
  d_require_claims : DefAt K mg "require_claims" st_require_claims
  d_require_waiting : DefAt K mg "require_waiting" st_require_waiting
  d_require_time : DefAt K mg "require_time" st_require_time
  d_is_active : DefAt K mg "is_active" st_is_active
  d_find_active : DefAt K mg "find_active" st_find_active
  d_find_serving : DefAt K mg "find_serving" st_find_serving
  d_find_kinds : DefAt K mg "find_kinds" st_find_kinds
  d_find_seats : DefAt K mg "find_seats" st_find_seats
  d_is_seating_of : DefAt K mg "is_seating_of" st_is_seating_of
  d_check_seating : DefAt K mg "check_seating" st_check_seating
  d_is_set : DefAt K mg "is_set" st_is_set
  d_set_kinds : DefAt K mg "set_kinds" st_set_kinds
  d_set_seats : DefAt K mg "set_seats" st_set_seats
  d_is_short : DefAt K mg "is_short" st_is_short
  d_check_shortage : DefAt K mg "check_shortage" st_check_shortage
  d_find_moments : DefAt K mg "find_moments" st_find_moments
  d_check_fits : DefAt K mg "check_fits" st_check_fits
  d_next_kinds : DefAt K mg "next_kinds" st_next_kinds
  d_find_levels : DefAt K mg "find_levels" st_find_levels
  d_has_free_seat : DefAt K mg "has_free_seat" st_has_free_seat
  d_check_fewest : DefAt K mg "check_fewest" st_check_fewest
  d_check_impossible : DefAt K mg "check_impossible" st_check_impossible
  d_are_numbers : DefAt K mg "are_numbers" st_are_numbers
  d_find_place : DefAt K mg "find_place" st_find_place
  d_seat_claims : DefAt K mg "seat_claims" st_seat_claims
  d_fit_at : DefAt K mg "fit_at" st_fit_at
  d_all_fit : DefAt K mg "all_fit" st_all_fit
  d_is_row : DefAt K mg "is_row" st_is_row
  d_is_left : DefAt K mg "is_left" st_is_left
  d_check_left : DefAt K mg "check_left" st_check_left
  d_are_worths : DefAt K mg "are_worths" st_are_worths
  d_is_choice : DefAt K mg "is_choice" st_is_choice
  d_find_lacked : DefAt K mg "find_lacked" st_find_lacked
  d_is_link : DefAt K mg "is_link" st_is_link
  d_count_within : DefAt K mg "count_within" st_count_within
  d_check_worthiest : DefAt K mg "check_worthiest" st_check_worthiest
  d_is_online : DefAt K mg "is_online" st_is_online
  d_are_bars : DefAt K mg "are_bars" st_are_bars
  d_find_changes : DefAt K mg "find_changes" st_find_changes
  d_is_bar : DefAt K mg "is_bar" st_is_bar
  d_check_bars : DefAt K mg "check_bars" st_check_bars
  d_check_seats : DefAt K mg "check_seats" st_check_seats
  d_find_wrong : DefAt K mg "find_wrong" st_find_wrong
  d_check : DefAt K mg "check" st_check
  d_law : DefAt K mg "law" st_law
  g_LAST_TIME : ∃ v u, mg "LAST_TIME" = some u ∧ RelV v u ∧ Rp none (fun _ => none) v (.int 1000)
  g_MOST_CLAIMS : ∃ v u, mg "MOST_CLAIMS" = some u ∧ RelV v u ∧ Rp none (fun _ => none) v (.int 12)
  g_MOST_KINDS : ∃ v u, mg "MOST_KINDS" = some u ∧ RelV v u ∧ Rp none (fun _ => none) v (.int 6)
  g_MOST_SEATS : ∃ v u, mg "MOST_SEATS" = some u ∧ RelV v u ∧ Rp none (fun _ => none) v (.int 20)
  g_MOST_STEPS : ∃ v u, mg "MOST_STEPS" = some u ∧ RelV v u ∧ Rp none (fun _ => none) v (.int 4)
  g_MOST_WAITING : ∃ v u, mg "MOST_WAITING" = some u ∧ RelV v u ∧ Rp none (fun _ => none) v (.int 8)
  g_MOST_WORTH : ∃ v u, mg "MOST_WORTH" = some u ∧ RelV v u ∧ Rp none (fun _ => none) v (.int 100)
  b_SIZES : ∀ (P : Program) (w : World) (base : Heap), w.params = pm → TabAt ⟨P, w, K, mg, base⟩ "SIZES" [("seating", 5), ("shortage", 5), ("fits", 4), ("fewest", 7), ("impossible", 7), ("left", 6), ("bars", 6), ("seats", 7), ("worthiest", 8)]
  b_TIMES : ∀ (P : Program) (w : World) (base : Heap), w.params = pm → TabAt ⟨P, w, K, mg, base⟩ "TIMES" [("seating", 3), ("shortage", 3), ("fewest", 3), ("impossible", 3), ("seats", 5), ("worthiest", 5)]
  bl : ∀ x, x ∈ bnames → mg x = none
section
variable {W : Wd}
theorem C__law_open (T : Top W.K W.mg W.w.params) : Call1 W 1 "_law_open" 1 (spOpen W.K) := by
  exact open_at T.d__law_open nE__law_open sc__law_open T.bl em__law_open ok__law_open (fun _ _ _ _ _ _ us hl => match us, hl with | [_], _ => rfl)
theorem C__law_spread (T : Top W.K W.mg W.w.params) : Call1 W 1 "_law_spread" 2 (spF (runF 8 ir_spread) 2) := by
  have ask : askSs (askOf W 0) ir_spread := by
    unfold ir_spread; simp only [askSs, askS, askE, askEs, askO, askSr]
    repeat' apply And.intro
    all_goals first | exact trivial
  exact def_at T.d__law_spread ir_spread nE__law_spread sc__law_spread T.bl em__law_spread ok__law_spread ask (fun _ _ _ _ _ _ us hl => match us, hl with | [_, _], _ => rfl)
theorem C__law_take (T : Top W.K W.mg W.w.params) : Call1 W 2 "_law_take" 2 (spF FTake 2) := by
  have c__law_spread := (C__law_spread T).mono (show 1 ≤ 1 by decide)
  have ask : askSs (askOf W 1) ir_take := by
    unfold ir_take; simp only [askSs, askS, askE, askEs, askO, askSr]
    repeat' apply And.intro
    all_goals first | exact trivial | exact c__law_spread
  exact def_imp FTake_run (def_at T.d__law_take ir_take nE__law_take sc__law_take T.bl em__law_take ok__law_take ask (fun _ _ _ _ _ _ us hl => match us, hl with | [_, _], _ => rfl))
theorem C__law_one (T : Top W.K W.mg W.w.params) : Call1 W 3 "_law_one" 2 spOne := by
  have c__law_take := (C__law_take T).mono (show 2 ≤ 2 by decide)
  exact one_at T.d__law_one nE__law_one sc__law_one T.bl em__law_one ok__law_one c__law_take (fun _ _ _ _ _ _ us hl => match us, hl with | [_, _], _ => rfl)
theorem C_is_integer (T : Top W.K W.mg W.w.params) : Call1 W 1 "is_integer" 1 (spF F_is_integer 1) := by
  have ask : askSs (askOf W 0) ir_is_integer := by
    unfold ir_is_integer; simp only [askSs, askS, askE, askEs, askO, askSr]
    repeat' apply And.intro
    all_goals first | exact trivial
  exact def_at T.d_is_integer ir_is_integer nE_is_integer sc_is_integer T.bl em_is_integer ok_is_integer ask (fun _ _ _ _ _ _ us hl => match us, hl with | [_], _ => rfl)
theorem C_is_between (T : Top W.K W.mg W.w.params) : Call1 W 2 "is_between" 3 (spF F_is_between 3) := by
  have c_is_integer := (C_is_integer T).mono (show 1 ≤ 1 by decide)
  have ask : askSs (askOf W 1) ir_is_between := by
    unfold ir_is_between; simp only [askSs, askS, askE, askEs, askO, askSr]
    repeat' apply And.intro
    all_goals first | exact trivial | exact c_is_integer
  exact def_at T.d_is_between ir_is_between nE_is_between sc_is_between T.bl em_is_between ok_is_between ask (fun _ _ _ _ _ _ us hl => match us, hl with | [_, _, _], _ => rfl)
theorem C_is_digits (T : Top W.K W.mg W.w.params) : Call1 W 3 "is_digits" 1 (spF F_is_digits 1) := by
  have c_is_between := (C_is_between T).mono (show 2 ≤ 2 by decide)
  have ask : askSs (askOf W 2) ir_is_digits := by
    unfold ir_is_digits; simp only [askSs, askS, askE, askEs, askO, askSr]
    repeat' apply And.intro
    all_goals first | exact trivial | exact c_is_between
  exact def_at T.d_is_digits ir_is_digits nE_is_digits sc_is_digits T.bl em_is_digits ok_is_digits ask (fun _ _ _ _ _ _ us hl => match us, hl with | [_], _ => rfl)
theorem C_is_time (T : Top W.K W.mg W.w.params) : Call1 W 3 "is_time" 1 (spF F_is_time 1) := by
  have c_is_between := (C_is_between T).mono (show 2 ≤ 2 by decide)
  have ask : askSs (askOf W 2) ir_is_time := by
    unfold ir_is_time; simp only [askSs, askS, askE, askEs, askO, askSr]
    repeat' apply And.intro
    all_goals first | exact trivial | exact c_is_between | exact T.g_LAST_TIME
  exact def_at T.d_is_time ir_is_time nE_is_time sc_is_time T.bl em_is_time ok_is_time ask (fun _ _ _ _ _ _ us hl => match us, hl with | [_], _ => rfl)
theorem C_is_step (T : Top W.K W.mg W.w.params) : Call1 W 4 "is_step" 1 (spF F_is_step 1) := by
  have c_is_time := (C_is_time T).mono (show 3 ≤ 3 by decide)
  have c_is_between := (C_is_between T).mono (show 2 ≤ 3 by decide)
  have ask : askSs (askOf W 3) ir_is_step := by
    unfold ir_is_step; simp only [askSs, askS, askE, askEs, askO, askSr]
    repeat' apply And.intro
    all_goals first | exact trivial | exact c_is_time | exact c_is_between | exact T.g_MOST_SEATS
  exact def_at T.d_is_step ir_is_step nE_is_step sc_is_step T.bl em_is_step ok_is_step ask (fun _ _ _ _ _ _ us hl => match us, hl with | [_], _ => rfl)
theorem C_is_steps (T : Top W.K W.mg W.w.params) : Call1 W 5 "is_steps" 1 (spF F_is_steps 1) := by
  have c_is_step := (C_is_step T).mono (show 4 ≤ 4 by decide)
  have ask : askSs (askOf W 4) ir_is_steps := by
    unfold ir_is_steps; simp only [askSs, askS, askE, askEs, askO, askSr]
    repeat' apply And.intro
    all_goals first | exact trivial | exact c_is_step | exact T.g_MOST_STEPS
  exact def_at T.d_is_steps ir_is_steps nE_is_steps sc_is_steps T.bl em_is_steps ok_is_steps ask (fun _ _ _ _ _ _ us hl => match us, hl with | [_], _ => rfl)
theorem C_is_kind (T : Top W.K W.mg W.w.params) : Call1 W 6 "is_kind" 1 (spF F_is_kind 1) := by
  have c_is_digits := (C_is_digits T).mono (show 3 ≤ 5 by decide)
  have c_is_steps := (C_is_steps T).mono (show 5 ≤ 5 by decide)
  have ask : askSs (askOf W 5) ir_is_kind := by
    unfold ir_is_kind; simp only [askSs, askS, askE, askEs, askO, askSr]
    repeat' apply And.intro
    all_goals first | exact trivial | exact c_is_digits | exact c_is_steps
  exact def_at T.d_is_kind ir_is_kind nE_is_kind sc_is_kind T.bl em_is_kind ok_is_kind ask (fun _ _ _ _ _ _ us hl => match us, hl with | [_], _ => rfl)
theorem C_is_pool (T : Top W.K W.mg W.w.params) : Call1 W 7 "is_pool" 1 (spF F_is_pool 1) := by
  have c_is_kind := (C_is_kind T).mono (show 6 ≤ 6 by decide)
  have ask : askSs (askOf W 6) ir_is_pool := by
    unfold ir_is_pool; simp only [askSs, askS, askE, askEs, askO, askSr]
    repeat' apply And.intro
    all_goals first | exact trivial | exact c_is_kind | exact T.g_MOST_KINDS
  exact def_at T.d_is_pool ir_is_pool nE_is_pool sc_is_pool T.bl em_is_pool ok_is_pool ask (fun _ _ _ _ _ _ us hl => match us, hl with | [_], _ => rfl)
theorem C_require_pool (T : Top W.K W.mg W.w.params) : Call1 W 8 "require_pool" 1 (spF F_require_pool 1) := by
  have c_is_pool := (C_is_pool T).mono (show 7 ≤ 7 by decide)
  have ask : askSs (askOf W 7) ir_require_pool := by
    unfold ir_require_pool; simp only [askSs, askS, askE, askEs, askO, askSr]
    repeat' apply And.intro
    all_goals first | exact trivial | exact c_is_pool
  exact def_at T.d_require_pool ir_require_pool nE_require_pool sc_require_pool T.bl em_require_pool ok_require_pool ask (fun _ _ _ _ _ _ us hl => match us, hl with | [_], _ => rfl)
theorem C_serves (T : Top W.K W.mg W.w.params) : Call1 W 1 "serves" 3 (spF F_serves 3) := by
  have ask : askSs (askOf W 0) ir_serves := by
    unfold ir_serves; simp only [askSs, askS, askE, askEs, askO, askSr]
    repeat' apply And.intro
    all_goals first | exact trivial
  exact def_at T.d_serves ir_serves nE_serves sc_serves T.bl em_serves ok_serves ask (fun _ _ _ _ _ _ us hl => match us, hl with | [_, _, _], _ => rfl)
theorem C_is_claim_of (T : Top W.K W.mg W.w.params) : Call1 W 4 "is_claim_of" 2 (spF F_is_claim_of 2) := by
  have c_is_between := (C_is_between T).mono (show 2 ≤ 3 by decide)
  have c_is_time := (C_is_time T).mono (show 3 ≤ 3 by decide)
  have c_serves := (C_serves T).mono (show 1 ≤ 3 by decide)
  have ask : askSs (askOf W 3) ir_is_claim_of := by
    unfold ir_is_claim_of; simp only [askSs, askS, askE, askEs, askO, askSr]
    repeat' apply And.intro
    all_goals first | exact trivial | exact c_is_between | exact c_is_time | exact c_serves
  exact def_at T.d_is_claim_of ir_is_claim_of nE_is_claim_of sc_is_claim_of T.bl em_is_claim_of ok_is_claim_of ask (fun _ _ _ _ _ _ us hl => match us, hl with | [_, _], _ => rfl)
theorem C_are_claims (T : Top W.K W.mg W.w.params) : Call1 W 5 "are_claims" 3 (spF F_are_claims 3) := by
  have c_is_claim_of := (C_is_claim_of T).mono (show 4 ≤ 4 by decide)
  have ask : askSs (askOf W 4) ir_are_claims := by
    unfold ir_are_claims; simp only [askSs, askS, askE, askEs, askO, askSr]
    repeat' apply And.intro
    all_goals first | exact trivial | exact c_is_claim_of
  exact def_at T.d_are_claims ir_are_claims nE_are_claims sc_are_claims T.bl em_are_claims ok_are_claims ask (fun _ _ _ _ _ _ us hl => match us, hl with | [_, _, _], _ => rfl)
theorem C_require_claims (T : Top W.K W.mg W.w.params) : Call1 W 9 "require_claims" 2 (spF F_require_claims 2) := by
  have c_require_pool := (C_require_pool T).mono (show 8 ≤ 8 by decide)
  have c_are_claims := (C_are_claims T).mono (show 5 ≤ 8 by decide)
  have ask : askSs (askOf W 8) ir_require_claims := by
    unfold ir_require_claims; simp only [askSs, askS, askE, askEs, askO, askSr]
    repeat' apply And.intro
    all_goals first | exact trivial | exact c_require_pool | exact c_are_claims | exact T.g_MOST_CLAIMS
  exact def_at T.d_require_claims ir_require_claims nE_require_claims sc_require_claims T.bl em_require_claims ok_require_claims ask (fun _ _ _ _ _ _ us hl => match us, hl with | [_, _], _ => rfl)
theorem C_require_waiting (T : Top W.K W.mg W.w.params) : Call1 W 6 "require_waiting" 2 (spF F_require_waiting 2) := by
  have c_are_claims := (C_are_claims T).mono (show 5 ≤ 5 by decide)
  have ask : askSs (askOf W 5) ir_require_waiting := by
    unfold ir_require_waiting; simp only [askSs, askS, askE, askEs, askO, askSr]
    repeat' apply And.intro
    all_goals first | exact trivial | exact c_are_claims | exact T.g_MOST_WAITING
  exact def_at T.d_require_waiting ir_require_waiting nE_require_waiting sc_require_waiting T.bl em_require_waiting ok_require_waiting ask (fun _ _ _ _ _ _ us hl => match us, hl with | [_, _], _ => rfl)
theorem C_require_time (T : Top W.K W.mg W.w.params) : Call1 W 4 "require_time" 1 (spF F_require_time 1) := by
  have c_is_time := (C_is_time T).mono (show 3 ≤ 3 by decide)
  have ask : askSs (askOf W 3) ir_require_time := by
    unfold ir_require_time; simp only [askSs, askS, askE, askEs, askO, askSr]
    repeat' apply And.intro
    all_goals first | exact trivial | exact c_is_time
  exact def_at T.d_require_time ir_require_time nE_require_time sc_require_time T.bl em_require_time ok_require_time ask (fun _ _ _ _ _ _ us hl => match us, hl with | [_], _ => rfl)
theorem C_is_active (T : Top W.K W.mg W.w.params) : Call1 W 1 "is_active" 2 (spF F_is_active 2) := by
  have ask : askSs (askOf W 0) ir_is_active := by
    unfold ir_is_active; simp only [askSs, askS, askE, askEs, askO, askSr]
    repeat' apply And.intro
    all_goals first | exact trivial
  exact def_at T.d_is_active ir_is_active nE_is_active sc_is_active T.bl em_is_active ok_is_active ask (fun _ _ _ _ _ _ us hl => match us, hl with | [_, _], _ => rfl)
theorem C_find_active (T : Top W.K W.mg W.w.params) : Call1 W 2 "find_active" 2 (spF F_find_active 2) := by
  have c_is_active := (C_is_active T).mono (show 1 ≤ 1 by decide)
  have ask : askSs (askOf W 1) ir_find_active := by
    unfold ir_find_active; simp only [askSs, askS, askE, askEs, askO, askSr]
    repeat' apply And.intro
    all_goals first | exact trivial | exact c_is_active
  exact def_at T.d_find_active ir_find_active nE_find_active sc_find_active T.bl em_find_active ok_find_active ask (fun _ _ _ _ _ _ us hl => match us, hl with | [_, _], _ => rfl)
theorem C_find_serving (T : Top W.K W.mg W.w.params) : Call1 W 2 "find_serving" 3 (spF F_find_serving 3) := by
  have c_serves := (C_serves T).mono (show 1 ≤ 1 by decide)
  have ask : askSs (askOf W 1) ir_find_serving := by
    unfold ir_find_serving; simp only [askSs, askS, askE, askEs, askO, askSr]
    repeat' apply And.intro
    all_goals first | exact trivial | exact c_serves
  exact def_at T.d_find_serving ir_find_serving nE_find_serving sc_find_serving T.bl em_find_serving ok_find_serving ask (fun _ _ _ _ _ _ us hl => match us, hl with | [_, _, _], _ => rfl)
theorem C_find_kinds (T : Top W.K W.mg W.w.params) : Call1 W 3 "find_kinds" 2 (spF F_find_kinds 2) := by
  have c_find_serving := (C_find_serving T).mono (show 2 ≤ 2 by decide)
  have ask : askSs (askOf W 2) ir_find_kinds := by
    unfold ir_find_kinds; simp only [askSs, askS, askE, askEs, askO, askSr]
    repeat' apply And.intro
    all_goals first | exact trivial | exact c_find_serving
  exact def_at T.d_find_kinds ir_find_kinds nE_find_kinds sc_find_kinds T.bl em_find_kinds ok_find_kinds ask (fun _ _ _ _ _ _ us hl => match us, hl with | [_, _], _ => rfl)
theorem C_find_seats (T : Top W.K W.mg W.w.params) : Call1 W 1 "find_seats" 3 (spF F_find_seats 3) := by
  have ask : askSs (askOf W 0) ir_find_seats := by
    unfold ir_find_seats; simp only [askSs, askS, askE, askEs, askO, askSr]
    repeat' apply And.intro
    all_goals first | exact trivial
  exact def_at T.d_find_seats ir_find_seats nE_find_seats sc_find_seats T.bl em_find_seats ok_find_seats ask (fun _ _ _ _ _ _ us hl => match us, hl with | [_, _, _], _ => rfl)
theorem C_is_seating_of (T : Top W.K W.mg W.w.params) : Call1 W 4 "is_seating_of" 4 (spF F_is_seating_of 4) := by
  have c_find_active := (C_find_active T).mono (show 2 ≤ 3 by decide)
  have c_is_integer := (C_is_integer T).mono (show 1 ≤ 3 by decide)
  have c_find_kinds := (C_find_kinds T).mono (show 3 ≤ 3 by decide)
  have c_find_seats := (C_find_seats T).mono (show 1 ≤ 3 by decide)
  have ask : askSs (askOf W 3) ir_is_seating_of := by
    unfold ir_is_seating_of; simp only [askSs, askS, askE, askEs, askO, askSr]
    repeat' apply And.intro
    all_goals first | exact trivial | exact c_find_active | exact c_is_integer | exact c_find_kinds | exact c_find_seats
  exact def_at T.d_is_seating_of ir_is_seating_of nE_is_seating_of sc_is_seating_of T.bl em_is_seating_of ok_is_seating_of ask (fun _ _ _ _ _ _ us hl => match us, hl with | [_, _, _, _], _ => rfl)
theorem C_check_seating (T : Top W.K W.mg W.w.params) : Call1 W 5 "check_seating" 4 (spF F_check_seating_v1 4) := by
  have c_is_seating_of := (C_is_seating_of T).mono (show 4 ≤ 4 by decide)
  have ask : askSs (askOf W 4) ir_check_seating_v1 := by
    unfold ir_check_seating_v1; simp only [askSs, askS, askE, askEs, askO, askSr]
    repeat' apply And.intro
    all_goals first | exact trivial | exact c_is_seating_of
  exact def_at T.d_check_seating ir_check_seating_v1 nE_check_seating sc_check_seating T.bl em_check_seating ok_check_seating ask (fun _ _ _ _ _ _ us hl => match us, hl with | [_, _, _, _], _ => rfl)
theorem C_is_set (T : Top W.K W.mg W.w.params) : Call1 W 3 "is_set" 3 (spF F_is_set 3) := by
  have c_is_integer := (C_is_integer T).mono (show 1 ≤ 2 by decide)
  have c_find_active := (C_find_active T).mono (show 2 ≤ 2 by decide)
  have ask : askSs (askOf W 2) ir_is_set := by
    unfold ir_is_set; simp only [askSs, askS, askE, askEs, askO, askSr]
    repeat' apply And.intro
    all_goals first | exact trivial | exact c_is_integer | exact c_find_active
  exact def_at T.d_is_set ir_is_set nE_is_set sc_is_set T.bl em_is_set ok_is_set ask (fun _ _ _ _ _ _ us hl => match us, hl with | [_, _, _], _ => rfl)
theorem C_set_kinds (T : Top W.K W.mg W.w.params) : Call1 W 4 "set_kinds" 3 (spF F_set_kinds 3) := by
  have c_find_kinds := (C_find_kinds T).mono (show 3 ≤ 3 by decide)
  have ask : askSs (askOf W 3) ir_set_kinds := by
    unfold ir_set_kinds; simp only [askSs, askS, askE, askEs, askO, askSr]
    repeat' apply And.intro
    all_goals first | exact trivial | exact c_find_kinds
  exact def_at T.d_set_kinds ir_set_kinds nE_set_kinds sc_set_kinds T.bl em_set_kinds ok_set_kinds ask (fun _ _ _ _ _ _ us hl => match us, hl with | [_, _, _], _ => rfl)
theorem C_set_seats (T : Top W.K W.mg W.w.params) : Call1 W 5 "set_seats" 4 (spF F_set_seats 4) := by
  have c_find_seats := (C_find_seats T).mono (show 1 ≤ 4 by decide)
  have c_set_kinds := (C_set_kinds T).mono (show 4 ≤ 4 by decide)
  have ask : askSs (askOf W 4) ir_set_seats := by
    unfold ir_set_seats; simp only [askSs, askS, askE, askEs, askO, askSr]
    repeat' apply And.intro
    all_goals first | exact trivial | exact c_find_seats | exact c_set_kinds
  exact def_at T.d_set_seats ir_set_seats nE_set_seats sc_set_seats T.bl em_set_seats ok_set_seats ask (fun _ _ _ _ _ _ us hl => match us, hl with | [_, _, _, _], _ => rfl)
theorem C_is_short (T : Top W.K W.mg W.w.params) : Call1 W 6 "is_short" 4 (spF F_is_short 4) := by
  have c_is_set := (C_is_set T).mono (show 3 ≤ 5 by decide)
  have c_set_seats := (C_set_seats T).mono (show 5 ≤ 5 by decide)
  have ask : askSs (askOf W 5) ir_is_short := by
    unfold ir_is_short; simp only [askSs, askS, askE, askEs, askO, askSr]
    repeat' apply And.intro
    all_goals first | exact trivial | exact c_is_set | exact c_set_seats
  exact def_at T.d_is_short ir_is_short nE_is_short sc_is_short T.bl em_is_short ok_is_short ask (fun _ _ _ _ _ _ us hl => match us, hl with | [_, _, _, _], _ => rfl)
theorem C_check_shortage (T : Top W.K W.mg W.w.params) : Call1 W 7 "check_shortage" 4 (spF F_check_shortage 4) := by
  have c_is_short := (C_is_short T).mono (show 6 ≤ 6 by decide)
  have ask : askSs (askOf W 6) ir_check_shortage := by
    unfold ir_check_shortage; simp only [askSs, askS, askE, askEs, askO, askSr]
    repeat' apply And.intro
    all_goals first | exact trivial | exact c_is_short
  exact def_at T.d_check_shortage ir_check_shortage nE_check_shortage sc_check_shortage T.bl em_check_shortage ok_check_shortage ask (fun _ _ _ _ _ _ us hl => match us, hl with | [_, _, _, _], _ => rfl)
theorem C_find_moments (T : Top W.K W.mg W.w.params) : Call1 W 3 "find_moments" 2 (spF F_find_moments 2) := by
  have c_find_active := (C_find_active T).mono (show 2 ≤ 2 by decide)
  have ask : askSs (askOf W 2) ir_find_moments := by
    unfold ir_find_moments; simp only [askSs, askS, askE, askEs, askO, askSr]
    repeat' apply And.intro
    all_goals first | exact trivial | exact c_find_active
  exact def_at T.d_find_moments ir_find_moments nE_find_moments sc_find_moments T.bl em_find_moments ok_find_moments ask (fun _ _ _ _ _ _ us hl => match us, hl with | [_, _], _ => rfl)
theorem C_check_fits (T : Top W.K W.mg W.w.params) : Call1 W 5 "check_fits" 3 (spF F_check_fits_v1 3) := by
  have c_find_moments := (C_find_moments T).mono (show 3 ≤ 4 by decide)
  have c_is_seating_of := (C_is_seating_of T).mono (show 4 ≤ 4 by decide)
  have ask : askSs (askOf W 4) ir_check_fits_v1 := by
    unfold ir_check_fits_v1; simp only [askSs, askS, askE, askEs, askO, askSr]
    repeat' apply And.intro
    all_goals first | exact trivial | exact c_find_moments | exact c_is_seating_of
  exact def_at T.d_check_fits ir_check_fits_v1 nE_check_fits sc_check_fits T.bl em_check_fits ok_check_fits ask (fun _ _ _ _ _ _ us hl => match us, hl with | [_, _, _], _ => rfl)
theorem C_next_kinds (T : Top W.K W.mg W.w.params) : Call1 W 4 "next_kinds" 4 (spF F_next_kinds 4) := by
  have c_find_kinds := (C_find_kinds T).mono (show 3 ≤ 3 by decide)
  have ask : askSs (askOf W 3) ir_next_kinds := by
    unfold ir_next_kinds; simp only [askSs, askS, askE, askEs, askO, askSr]
    repeat' apply And.intro
    all_goals first | exact trivial | exact c_find_kinds
  exact def_at T.d_next_kinds ir_next_kinds nE_next_kinds sc_next_kinds T.bl em_next_kinds ok_next_kinds ask (fun _ _ _ _ _ _ us hl => match us, hl with | [_, _, _, _], _ => rfl)
theorem C_find_levels (T : Top W.K W.mg W.w.params) : Call1 W 5 "find_levels" 4 (spF F_find_levels 4) := by
  have c_find_kinds := (C_find_kinds T).mono (show 3 ≤ 4 by decide)
  have c_next_kinds := (C_next_kinds T).mono (show 4 ≤ 4 by decide)
  have ask : askSs (askOf W 4) ir_find_levels := by
    unfold ir_find_levels; simp only [askSs, askS, askE, askEs, askO, askSr]
    repeat' apply And.intro
    all_goals first | exact trivial | exact c_find_kinds | exact c_next_kinds
  exact def_at T.d_find_levels ir_find_levels nE_find_levels sc_find_levels T.bl em_find_levels ok_find_levels ask (fun _ _ _ _ _ _ us hl => match us, hl with | [_, _, _, _], _ => rfl)
theorem C_has_free_seat (T : Top W.K W.mg W.w.params) : Call1 W 2 "has_free_seat" 4 (spF F_has_free_seat 4) := by
  have c_find_seats := (C_find_seats T).mono (show 1 ≤ 1 by decide)
  have ask : askSs (askOf W 1) ir_has_free_seat := by
    unfold ir_has_free_seat; simp only [askSs, askS, askE, askEs, askO, askSr]
    repeat' apply And.intro
    all_goals first | exact trivial | exact c_find_seats
  exact def_at T.d_has_free_seat ir_has_free_seat nE_has_free_seat sc_has_free_seat T.bl em_has_free_seat ok_has_free_seat ask (fun _ _ _ _ _ _ us hl => match us, hl with | [_, _, _, _], _ => rfl)
theorem C_check_fewest (T : Top W.K W.mg W.w.params) : Call1 W 6 "check_fewest" 6 (spF F_check_fewest_v1 6) := by
  have c_is_claim_of := (C_is_claim_of T).mono (show 4 ≤ 5 by decide)
  have c_is_active := (C_is_active T).mono (show 1 ≤ 5 by decide)
  have c_is_seating_of := (C_is_seating_of T).mono (show 4 ≤ 5 by decide)
  have c_find_levels := (C_find_levels T).mono (show 5 ≤ 5 by decide)
  have c_has_free_seat := (C_has_free_seat T).mono (show 2 ≤ 5 by decide)
  have ask : askSs (askOf W 5) ir_check_fewest_v1 := by
    unfold ir_check_fewest_v1; simp only [askSs, askS, askE, askEs, askO, askSr]
    repeat' apply And.intro
    all_goals first | exact trivial | exact c_is_claim_of | exact c_is_active | exact c_is_seating_of | exact c_find_levels | exact c_has_free_seat
  exact def_at T.d_check_fewest ir_check_fewest_v1 nE_check_fewest sc_check_fewest T.bl em_check_fewest ok_check_fewest ask (fun _ _ _ _ _ _ us hl => match us, hl with | [_, _, _, _, _, _], _ => rfl)
theorem C_check_impossible (T : Top W.K W.mg W.w.params) : Call1 W 5 "check_impossible" 6 (spF F_check_impossible 6) := by
  have c_is_between := (C_is_between T).mono (show 2 ≤ 4 by decide)
  have c_is_active := (C_is_active T).mono (show 1 ≤ 4 by decide)
  have c_is_integer := (C_is_integer T).mono (show 1 ≤ 4 by decide)
  have c_find_kinds := (C_find_kinds T).mono (show 3 ≤ 4 by decide)
  have c_is_set := (C_is_set T).mono (show 3 ≤ 4 by decide)
  have c_set_kinds := (C_set_kinds T).mono (show 4 ≤ 4 by decide)
  have c_find_seats := (C_find_seats T).mono (show 1 ≤ 4 by decide)
  have ask : askSs (askOf W 4) ir_check_impossible := by
    unfold ir_check_impossible; simp only [askSs, askS, askE, askEs, askO, askSr]
    repeat' apply And.intro
    all_goals first | exact trivial | exact c_is_between | exact c_is_active | exact c_is_integer | exact c_find_kinds | exact c_is_set | exact c_set_kinds | exact c_find_seats
  exact def_at T.d_check_impossible ir_check_impossible nE_check_impossible sc_check_impossible T.bl em_check_impossible ok_check_impossible ask (fun _ _ _ _ _ _ us hl => match us, hl with | [_, _, _, _, _, _], _ => rfl)
theorem C_are_numbers (T : Top W.K W.mg W.w.params) : Call1 W 3 "are_numbers" 2 (spF F_are_numbers 2) := by
  have c_is_between := (C_is_between T).mono (show 2 ≤ 2 by decide)
  have ask : askSs (askOf W 2) ir_are_numbers := by
    unfold ir_are_numbers; simp only [askSs, askS, askE, askEs, askO, askSr]
    repeat' apply And.intro
    all_goals first | exact trivial | exact c_is_between
  exact def_at T.d_are_numbers ir_are_numbers nE_are_numbers sc_are_numbers T.bl em_are_numbers ok_are_numbers ask (fun _ _ _ _ _ _ us hl => match us, hl with | [_, _], _ => rfl)
theorem C_find_place (T : Top W.K W.mg W.w.params) : Call1 W 17 "find_place" 4 (spPl 12) := (place_all (B := 3) T.d_find_place nE_find_place sc_find_place T.bl em_find_place ok_find_place ((C_find_kinds T).mono (by decide : 3 ≤ 3)) ((C_find_seats T).mono (by decide : 1 ≤ 3)) (fun _ _ _ _ _ _ us hl => match us, hl with | [_, _, _, _], _ => rfl) 12).mono (by decide)
theorem C_seat_claims (T : Top W.K W.mg W.w.params) : Call1 W 18 "seat_claims" 3 spSt := seat_at (k := 17) T.d_seat_claims nE_seat_claims sc_seat_claims T.bl em_seat_claims ok_seat_claims ((C_find_active T).mono (by decide : 2 ≤ 17)) ((C_find_place T).mono (by decide : 17 ≤ 17)) (fun _ _ _ _ _ _ us hl => match us, hl with | [_, _, _], _ => rfl)
theorem C_fit_at (T : Top W.K W.mg W.w.params) : Call1 W 19 "fit_at" 3 (spF F_fit_at 3) := fit_at_at (k := 18) T.d_fit_at nE_fit_at sc_fit_at T.bl em_fit_at ok_fit_at ((C_seat_claims T).mono (by decide : 18 ≤ 18)) (fun _ _ _ _ _ _ us hl => match us, hl with | [_, _, _], _ => rfl)
theorem C_all_fit (T : Top W.K W.mg W.w.params) : Call1 W 20 "all_fit" 2 (spF F_all_fit 2) := by
  have c_fit_at := (C_fit_at T).mono (show 19 ≤ 19 by decide)
  have c_find_moments := (C_find_moments T).mono (show 3 ≤ 19 by decide)
  have ask : askSs (askOf W 19) ir_all_fit := by
    unfold ir_all_fit; simp only [askSs, askS, askE, askEs, askO, askSr]
    repeat' apply And.intro
    all_goals first | exact trivial | exact c_fit_at | exact c_find_moments
  exact def_at T.d_all_fit ir_all_fit nE_all_fit sc_all_fit T.bl em_all_fit ok_all_fit ask (fun _ _ _ _ _ _ us hl => match us, hl with | [_, _], _ => rfl)
theorem C_is_row (T : Top W.K W.mg W.w.params) : Call1 W 2 "is_row" 2 (spF F_is_row 2) := by
  have c_is_integer := (C_is_integer T).mono (show 1 ≤ 1 by decide)
  have ask : askSs (askOf W 1) ir_is_row := by
    unfold ir_is_row; simp only [askSs, askS, askE, askEs, askO, askSr]
    repeat' apply And.intro
    all_goals first | exact trivial | exact c_is_integer
  exact def_at T.d_is_row ir_is_row nE_is_row sc_is_row T.bl em_is_row ok_is_row ask (fun _ _ _ _ _ _ us hl => match us, hl with | [_, _], _ => rfl)
theorem C_is_left (T : Top W.K W.mg W.w.params) : Call1 W 7 "is_left" 5 (spF F_is_left 5) := by
  have c_is_short := (C_is_short T).mono (show 6 ≤ 6 by decide)
  have ask : askSs (askOf W 6) ir_is_left := by
    unfold ir_is_left; simp only [askSs, askS, askE, askEs, askO, askSr]
    repeat' apply And.intro
    all_goals first | exact trivial | exact c_is_short
  exact def_at T.d_is_left ir_is_left nE_is_left sc_is_left T.bl em_is_left ok_is_left ask (fun _ _ _ _ _ _ us hl => match us, hl with | [_, _, _, _, _], _ => rfl)
theorem C_check_left (T : Top W.K W.mg W.w.params) : Call1 W 21 "check_left" 5 (spF F_check_left 5) := by
  have c_are_numbers := (C_are_numbers T).mono (show 3 ≤ 20 by decide)
  have c_all_fit := (C_all_fit T).mono (show 20 ≤ 20 by decide)
  have c_is_row := (C_is_row T).mono (show 2 ≤ 20 by decide)
  have c_is_time := (C_is_time T).mono (show 3 ≤ 20 by decide)
  have c_is_left := (C_is_left T).mono (show 7 ≤ 20 by decide)
  have ask : askSs (askOf W 20) ir_check_left := by
    unfold ir_check_left; simp only [askSs, askS, askE, askEs, askO, askSr]
    repeat' apply And.intro
    all_goals first | exact trivial | exact c_are_numbers | exact c_all_fit | exact c_is_row | exact c_is_time | exact c_is_left
  exact def_at T.d_check_left ir_check_left nE_check_left sc_check_left T.bl em_check_left ok_check_left ask (fun _ _ _ _ _ _ us hl => match us, hl with | [_, _, _, _, _], _ => rfl)
theorem C_are_worths (T : Top W.K W.mg W.w.params) : Call1 W 3 "are_worths" 2 (spF F_are_worths 2) := by
  have c_is_between := (C_is_between T).mono (show 2 ≤ 2 by decide)
  have ask : askSs (askOf W 2) ir_are_worths := by
    unfold ir_are_worths; simp only [askSs, askS, askE, askEs, askO, askSr]
    repeat' apply And.intro
    all_goals first | exact trivial | exact c_is_between | exact T.g_MOST_WORTH
  exact def_at T.d_are_worths ir_are_worths nE_are_worths sc_are_worths T.bl em_are_worths ok_are_worths ask (fun _ _ _ _ _ _ us hl => match us, hl with | [_, _], _ => rfl)
theorem C_is_choice (T : Top W.K W.mg W.w.params) : Call1 W 4 "is_choice" 3 (spF F_is_choice 3) := by
  have c_are_numbers := (C_are_numbers T).mono (show 3 ≤ 3 by decide)
  have c_is_active := (C_is_active T).mono (show 1 ≤ 3 by decide)
  have ask : askSs (askOf W 3) ir_is_choice := by
    unfold ir_is_choice; simp only [askSs, askS, askE, askEs, askO, askSr]
    repeat' apply And.intro
    all_goals first | exact trivial | exact c_are_numbers | exact c_is_active
  exact def_at T.d_is_choice ir_is_choice nE_is_choice sc_is_choice T.bl em_is_choice ok_is_choice ask (fun _ _ _ _ _ _ us hl => match us, hl with | [_, _, _], _ => rfl)
theorem C_find_lacked (T : Top W.K W.mg W.w.params) : Call1 W 2 "find_lacked" 4 (spF F_find_lacked 4) := by
  have c_is_active := (C_is_active T).mono (show 1 ≤ 1 by decide)
  have ask : askSs (askOf W 1) ir_find_lacked := by
    unfold ir_find_lacked; simp only [askSs, askS, askE, askEs, askO, askSr]
    repeat' apply And.intro
    all_goals first | exact trivial | exact c_is_active
  exact def_at T.d_find_lacked ir_find_lacked nE_find_lacked sc_find_lacked T.bl em_find_lacked ok_find_lacked ask (fun _ _ _ _ _ _ us hl => match us, hl with | [_, _, _, _], _ => rfl)
theorem C_is_link (T : Top W.K W.mg W.w.params) : Call1 W 4 "is_link" 2 (spF F_is_link 2) := by
  have c_is_row := (C_is_row T).mono (show 2 ≤ 3 by decide)
  have c_are_numbers := (C_are_numbers T).mono (show 3 ≤ 3 by decide)
  have ask : askSs (askOf W 3) ir_is_link := by
    unfold ir_is_link; simp only [askSs, askS, askE, askEs, askO, askSr]
    repeat' apply And.intro
    all_goals first | exact trivial | exact c_is_row | exact c_are_numbers
  exact def_at T.d_is_link ir_is_link nE_is_link sc_is_link T.bl em_is_link ok_is_link ask (fun _ _ _ _ _ _ us hl => match us, hl with | [_, _], _ => rfl)
theorem C_count_within (T : Top W.K W.mg W.w.params) : Call1 W 4 "count_within" 4 (spF F_count_within 4) := by
  have c_find_kinds := (C_find_kinds T).mono (show 3 ≤ 3 by decide)
  have c_find_active := (C_find_active T).mono (show 2 ≤ 3 by decide)
  have ask : askSs (askOf W 3) ir_count_within := by
    unfold ir_count_within; simp only [askSs, askS, askE, askEs, askO, askSr]
    repeat' apply And.intro
    all_goals first | exact trivial | exact c_find_kinds | exact c_find_active
  exact def_at T.d_count_within ir_count_within nE_count_within sc_count_within T.bl em_count_within ok_count_within ask (fun _ _ _ _ _ _ us hl => match us, hl with | [_, _, _, _], _ => rfl)
theorem C_check_worthiest (T : Top W.K W.mg W.w.params) : Call1 W 20 "check_worthiest" 7 (spF F_check_worthiest 7) := by
  have c_are_worths := (C_are_worths T).mono (show 3 ≤ 19 by decide)
  have c_is_choice := (C_is_choice T).mono (show 4 ≤ 19 by decide)
  have c_fit_at := (C_fit_at T).mono (show 19 ≤ 19 by decide)
  have c_find_lacked := (C_find_lacked T).mono (show 2 ≤ 19 by decide)
  have c_is_link := (C_is_link T).mono (show 4 ≤ 19 by decide)
  have c_find_kinds := (C_find_kinds T).mono (show 3 ≤ 19 by decide)
  have c_find_seats := (C_find_seats T).mono (show 1 ≤ 19 by decide)
  have c_count_within := (C_count_within T).mono (show 4 ≤ 19 by decide)
  have ask : askSs (askOf W 19) ir_check_worthiest := by
    unfold ir_check_worthiest; simp only [askSs, askS, askE, askEs, askO, askSr]
    repeat' apply And.intro
    all_goals first | exact trivial | exact c_are_worths | exact c_is_choice | exact c_fit_at | exact c_find_lacked | exact c_is_link | exact c_find_kinds | exact c_find_seats | exact c_count_within
  exact def_at T.d_check_worthiest ir_check_worthiest nE_check_worthiest sc_check_worthiest T.bl em_check_worthiest ok_check_worthiest ask (fun _ _ _ _ _ _ us hl => match us, hl with | [_, _, _, _, _, _, _], _ => rfl)
theorem C_is_online (T : Top W.K W.mg W.w.params) : Call1 W 5 "is_online" 2 (spF F_is_online 2) := by
  have c_is_claim_of := (C_is_claim_of T).mono (show 4 ≤ 4 by decide)
  have ask : askSs (askOf W 4) ir_is_online := by
    unfold ir_is_online; simp only [askSs, askS, askE, askEs, askO, askSr]
    repeat' apply And.intro
    all_goals first | exact trivial | exact c_is_claim_of
  exact def_at T.d_is_online ir_is_online nE_is_online sc_is_online T.bl em_is_online ok_is_online ask (fun _ _ _ _ _ _ us hl => match us, hl with | [_, _], _ => rfl)
theorem C_are_bars (T : Top W.K W.mg W.w.params) : Call1 W 3 "are_bars" 1 (spF F_are_bars 1) := by
  have c_is_row := (C_is_row T).mono (show 2 ≤ 2 by decide)
  have c_is_integer := (C_is_integer T).mono (show 1 ≤ 2 by decide)
  have ask : askSs (askOf W 2) ir_are_bars := by
    unfold ir_are_bars; simp only [askSs, askS, askE, askEs, askO, askSr]
    repeat' apply And.intro
    all_goals first | exact trivial | exact c_is_row | exact c_is_integer | exact T.g_LAST_TIME
  exact def_at T.d_are_bars ir_are_bars nE_are_bars sc_are_bars T.bl em_are_bars ok_are_bars ask (fun _ _ _ _ _ _ us hl => match us, hl with | [_], _ => rfl)
theorem C_find_changes (T : Top W.K W.mg W.w.params) : Call1 W 1 "find_changes" 2 (spF F_find_changes 2) := by
  have ask : askSs (askOf W 0) ir_find_changes := by
    unfold ir_find_changes; simp only [askSs, askS, askE, askEs, askO, askSr]
    repeat' apply And.intro
    all_goals first | exact trivial
  exact def_at T.d_find_changes ir_find_changes nE_find_changes sc_find_changes T.bl em_find_changes ok_find_changes ask (fun _ _ _ _ _ _ us hl => match us, hl with | [_, _], _ => rfl)
theorem C_is_bar (T : Top W.K W.mg W.w.params) : Call1 W 7 "is_bar" 4 (spF F_is_bar 4) := by
  have c_find_changes := (C_find_changes T).mono (show 1 ≤ 6 by decide)
  have c_is_short := (C_is_short T).mono (show 6 ≤ 6 by decide)
  have ask : askSs (askOf W 6) ir_is_bar := by
    unfold ir_is_bar; simp only [askSs, askS, askE, askEs, askO, askSr]
    repeat' apply And.intro
    all_goals first | exact trivial | exact c_find_changes | exact c_is_short
  exact def_at T.d_is_bar ir_is_bar nE_is_bar sc_is_bar T.bl em_is_bar ok_is_bar ask (fun _ _ _ _ _ _ us hl => match us, hl with | [_, _, _, _], _ => rfl)
theorem C_check_bars (T : Top W.K W.mg W.w.params) : Call1 W 8 "check_bars" 5 (spF F_check_bars_v1 5) := by
  have c_is_online := (C_is_online T).mono (show 5 ≤ 7 by decide)
  have c_is_integer := (C_is_integer T).mono (show 1 ≤ 7 by decide)
  have c_are_bars := (C_are_bars T).mono (show 3 ≤ 7 by decide)
  have c_is_bar := (C_is_bar T).mono (show 7 ≤ 7 by decide)
  have ask : askSs (askOf W 7) ir_check_bars_v1 := by
    unfold ir_check_bars_v1; simp only [askSs, askS, askE, askEs, askO, askSr]
    repeat' apply And.intro
    all_goals first | exact trivial | exact c_is_online | exact c_is_integer | exact c_are_bars | exact c_is_bar | exact T.g_LAST_TIME
  exact def_at T.d_check_bars ir_check_bars_v1 nE_check_bars sc_check_bars T.bl em_check_bars ok_check_bars ask (fun _ _ _ _ _ _ us hl => match us, hl with | [_, _, _, _, _], _ => rfl)
theorem C_check_seats (T : Top W.K W.mg W.w.params) : Call1 W 6 "check_seats" 6 (spF F_check_seats 6) := by
  have c_is_between := (C_is_between T).mono (show 2 ≤ 5 by decide)
  have c_is_integer := (C_is_integer T).mono (show 1 ≤ 5 by decide)
  have c_is_set := (C_is_set T).mono (show 3 ≤ 5 by decide)
  have c_set_seats := (C_set_seats T).mono (show 5 ≤ 5 by decide)
  have c_set_kinds := (C_set_kinds T).mono (show 4 ≤ 5 by decide)
  have ask : askSs (askOf W 5) ir_check_seats := by
    unfold ir_check_seats; simp only [askSs, askS, askE, askEs, askO, askSr]
    repeat' apply And.intro
    all_goals first | exact trivial | exact c_is_between | exact c_is_integer | exact c_is_set | exact c_set_seats | exact c_set_kinds
  exact def_at T.d_check_seats ir_check_seats nE_check_seats sc_check_seats T.bl em_check_seats ok_check_seats ask (fun _ _ _ _ _ _ us hl => match us, hl with | [_, _, _, _, _, _], _ => rfl)
theorem C_find_wrong (T : Top W.K W.mg W.w.params) : Call1 W 22 "find_wrong" 1 (spF F_find_wrong 1) := by
  have c_check_seating := (C_check_seating T).mono (show 5 ≤ 21 by decide)
  have c_check_shortage := (C_check_shortage T).mono (show 7 ≤ 21 by decide)
  have c_check_fits := (C_check_fits T).mono (show 5 ≤ 21 by decide)
  have c_check_fewest := (C_check_fewest T).mono (show 6 ≤ 21 by decide)
  have c_check_impossible := (C_check_impossible T).mono (show 5 ≤ 21 by decide)
  have c_check_left := (C_check_left T).mono (show 21 ≤ 21 by decide)
  have c_check_worthiest := (C_check_worthiest T).mono (show 20 ≤ 21 by decide)
  have c_check_bars := (C_check_bars T).mono (show 8 ≤ 21 by decide)
  have c_check_seats := (C_check_seats T).mono (show 6 ≤ 21 by decide)
  have ask : askSs (askOf W 21) ir_find_wrong := by
    unfold ir_find_wrong; simp only [askSs, askS, askE, askEs, askO, askSr]
    repeat' apply And.intro
    all_goals first | exact trivial | exact c_check_seating | exact c_check_shortage | exact c_check_fits | exact c_check_fewest | exact c_check_impossible | exact c_check_left | exact c_check_worthiest | exact c_check_bars | exact c_check_seats
  exact def_at T.d_find_wrong ir_find_wrong nE_find_wrong sc_find_wrong T.bl em_find_wrong ok_find_wrong ask (fun _ _ _ _ _ _ us hl => match us, hl with | [_], _ => rfl)
theorem C_check (T : Top W.K W.mg W.w.params) : Call1 W 23 "check" 1 (spF F_check 1) := by
  have c_require_pool := (C_require_pool T).mono (show 8 ≤ 22 by decide)
  have c_require_claims := (C_require_claims T).mono (show 9 ≤ 22 by decide)
  have c_require_waiting := (C_require_waiting T).mono (show 6 ≤ 22 by decide)
  have c_require_time := (C_require_time T).mono (show 4 ≤ 22 by decide)
  have c_find_wrong := (C_find_wrong T).mono (show 22 ≤ 22 by decide)
  have ask : askSs (askOf W 22) ir_check := by
    unfold ir_check; simp only [askSs, askS, askE, askEs, askO, askSr]
    repeat' apply And.intro
    all_goals first | exact trivial | exact c_require_pool | exact c_require_claims | exact c_require_waiting | exact c_require_time | exact c_find_wrong | exact T.b_SIZES W.P W.w W.base rfl | exact T.b_TIMES W.P W.w W.base rfl
  exact def_at T.d_check ir_check nE_check sc_check T.bl em_check ok_check ask (fun _ _ _ _ _ _ us hl => match us, hl with | [_], _ => rfl)
theorem C_law (T : Top W.K W.mg W.w.params) : Call1 W 23 "_law_open" 1 (spOpen W.K) ∧ askSs (askOf W 23) irr_law := by
  have c__law_open := (C__law_open T).mono (show 1 ≤ 23 by decide)
  have c__law_take := (C__law_take T).mono (show 2 ≤ 23 by decide)
  have c__law_one := (C__law_one T).mono (show 3 ≤ 23 by decide)
  have c_check := (C_check T).mono (show 23 ≤ 23 by decide)
  refine ⟨c__law_open, ?_⟩
  unfold irr_law; simp only [askSs, askS, askE, askEs, askO, askSr]; repeat' apply And.intro
  all_goals first | exact trivial | exact c__law_open | exact c__law_take | exact c__law_one | exact c_check
end
end K1

set_option Elab.async false
set_option linter.all false
set_option maxRecDepth 100000
set_option maxHeartbeats 8000000
namespace K1
open PySem L2 Fs
local macro_rules
  | `(tactic| fail) => `(tactic| first
    | (refine' gateE ?_; first | refine' w_var rfl ?_ | refine' w_own rfl ?_ | refine' w_int ?_ | refine' w_bool ?_ | refine' w_non ?_ | refine' w_str ?_ | refine' w_glob ?_ | refine' w_call ?_ | refine' w_ix ?_ | refine' w_cmp ?_ | refine' w_bin ?_ | refine' w_one ?_ | refine' w_blt ?_ | refine' w_isi ?_ | refine' w_not ?_ | refine' w_isN ?_ | refine' w_notN ?_ | refine' w_tup ?_ | refine' w_lst ?_ | refine' w_and ?_ | refine' w_or ?_ | refine' w_sl ?_ | refine' w_lc ?_ | refine' w_neg ?_ | refine' w_cmp2P ?_ ?_)
    | refine' wl_nil ?_
    | refine' wl_cons ?_
    | (refine' gate1 ?_; first | refine' w1_set ?_ | refine' w1_ret ?_ | refine' w1_setT ?_ | refine' w1_set2 ?_ | refine' w1_app rfl ?_ | refine' w1_ins rfl ?_ | refine' w1_expr ?_ | refine' w1_rev rfl ?_ | refine' w1_ext rfl ?_ | refine' w1_setLc ?_ | refine' w1_for ?_ | refine' w1_retN ?_ | refine' w1_cont ?_ | refine' w1_brk ?_ | refine' w1_pass ?_)
    | refine' ws_nil ?_
    | refine' ws_cons ?_
    | (refine' gateB ?_; first | refine' wb_and1 ?_ | refine' wb_or1 ?_ | refine' wb_andP ?_ (fun _ => ?_) ?_ | refine' wb_orP ?_ (fun _ => ?_) ?_ | refine' wb_of ?_)
    | refine' wv ?_
    | (refine' gateK ?_; first | refine' k_lt ?_ | refine' k_le ?_ | refine' k_gt ?_ | refine' k_ge ?_ | refine' k_eqI ?_ | refine' k_neI ?_ | refine' k_inT ?_ | refine' k_inL ?_ | refine' k_ninT ?_ | refine' k_ninL ?_)
    | (refine' gateF ?_; first | refine' f_lenL ?_ | refine' f_lenT ?_ | refine' f_int ?_ | refine' f_tupL ?_ | refine' f_tupT ?_ | refine' f_listL ?_ | refine' f_listT ?_ | refine' f_max2 ?_ | refine' f_rev1T ?_ | refine' f_rev1L ?_ | refine' f_min2 ?_)
    | (refine' gateI ?_; first | refine' wi rfl ?_ | refine' wi_atT rfl rfl ?_ | refine' wi_atL rfl rfl ?_)
    | (refine' gateT ?_; first | refine' wt_v rfl ?_ | refine' wt_t2 rfl ?_ | refine' wt_t3 rfl ?_ | refine' wt_t4 rfl ?_ | refine' wt_t5 rfl ?_ | refine' wt rfl ?_)
    | (refine' gateR ?_; first | refine' wr_seq ?_ | refine' wr_enum ?_ | refine' wr_zip ?_ | refine' wr_rng ?_ | refine' wr_rng2 ?_)
    | (refine' gateSl ?_; first | refine' slF_T rfl ?_ | refine' slT_T rfl ?_ | refine' slF_L rfl ?_ | refine' slT_L rfl ?_)
    | refine' wo_none ?_
    | refine' wo_some ?_
    | refine' wal_nil ?_
    | refine' wal_one ?_
    | refine' d_add ?_
    | refine' d_sub ?_
    | refine' z_TT ?_
    | refine' z_LL ?_
    | refine' wret ?_
    | exact rfl
    | refine' ⟨_, rfl, ?_⟩
    | refine' ⟨rfl, fun _ => ?_⟩
    | refine' ⟨rfl, ?_⟩
    | fail_if_success skip)
def oddsD : List D := [.none, .int 0, .int 5, .bool true, .bool false, .str "", .str "x", .list [], .list [.int 0], .tuple [.tuple [.int 0]], .tuple [.list [.int 0]], .tuple [.none], .tuple [.int 0, .int 0], .tuple [.int 1], .tuple [.int (-1)], .tuple [.bool true]]
def poolC : D := .tuple [.tuple [.tuple [.int 1], .tuple [], .tuple [.tuple [.int 0, .int 0]]]]
def claimC : D := .tuple [.int 0, .int 1, .int 0, .int 5, .none]
def leftC (o : D) : D := .tuple [.str "left", poolC, .tuple [], .tuple [claimC], .list [], .list [.tuple [.int 0, .int 0, o]]]
def barsC (st : Int) (o : D) : D := .tuple [.str "bars", poolC, .tuple [], claimC, .int st, .list [.tuple [.int 0, .int (9 + st), o]]]
abbrev wrD (n : Int) : D := .tuple [.str "wrong", .int n]
abbrev okD : D := .tuple [.str "right"]
theorem left_odd (p : Option Pn) : ∀ o ∈ oddsD, F_check [leftC o] p = some ((wrD 3, false), p) := by
  intro o ho
  simp only [oddsD, List.mem_cons, List.not_mem_nil, or_false] at ho
  rcases ho with rfl | rfl | rfl | rfl | rfl | rfl | rfl | rfl | rfl | rfl | rfl | rfl | rfl | rfl | rfl | rfl <;> kernel_rfl
theorem bars_odd1 (p : Option Pn) : ∀ o ∈ oddsD, F_check [barsC 1 o] p = some ((wrD 2, false), p) := by
  intro o ho
  simp only [oddsD, List.mem_cons, List.not_mem_nil, or_false] at ho
  rcases ho with rfl | rfl | rfl | rfl | rfl | rfl | rfl | rfl | rfl | rfl | rfl | rfl | rfl | rfl | rfl | rfl <;> kernel_rfl
theorem bars_odd2 (p : Option Pn) : ∀ o ∈ oddsD, F_check [barsC 2 o] p = some ((wrD 2, false), p) := by
  intro o ho
  simp only [oddsD, List.mem_cons, List.not_mem_nil, or_false] at ho
  rcases ho with rfl | rfl | rfl | rfl | rfl | rfl | rfl | rfl | rfl | rfl | rfl | rfl | rfl | rfl | rfl | rfl <;> kernel_rfl
theorem bars_odd3 (p : Option Pn) : ∀ o ∈ oddsD, F_check [barsC 3 o] p = some ((wrD 2, false), p) := by
  intro o ho
  simp only [oddsD, List.mem_cons, List.not_mem_nil, or_false] at ho
  rcases ho with rfl | rfl | rfl | rfl | rfl | rfl | rfl | rfl | rfl | rfl | rfl | rfl | rfl | rfl | rfl | rfl <;> kernel_rfl
theorem bars_odd4 (p : Option Pn) : ∀ o ∈ oddsD, F_check [barsC 4 o] p = some ((wrD 2, false), p) := by
  intro o ho
  simp only [oddsD, List.mem_cons, List.not_mem_nil, or_false] at ho
  rcases ho with rfl | rfl | rfl | rfl | rfl | rfl | rfl | rfl | rfl | rfl | rfl | rfl | rfl | rfl | rfl | rfl <;> kernel_rfl
theorem bars_odd5 (p : Option Pn) : ∀ o ∈ oddsD, F_check [barsC 5 o] p = some ((wrD 2, false), p) := by
  intro o ho
  simp only [oddsD, List.mem_cons, List.not_mem_nil, or_false] at ho
  rcases ho with rfl | rfl | rfl | rfl | rfl | rfl | rfl | rfl | rfl | rfl | rfl | rfl | rfl | rfl | rfl | rfl <;> kernel_rfl
theorem bars_odd6 (p : Option Pn) : ∀ o ∈ oddsD, F_check [barsC 6 o] p = some ((wrD 2, false), p) := by
  intro o ho
  simp only [oddsD, List.mem_cons, List.not_mem_nil, or_false] at ho
  rcases ho with rfl | rfl | rfl | rfl | rfl | rfl | rfl | rfl | rfl | rfl | rfl | rfl | rfl | rfl | rfl | rfl <;> kernel_rfl
theorem bars_odd7 (p : Option Pn) : ∀ o ∈ oddsD, F_check [barsC 7 o] p = some ((wrD 2, false), p) := by
  intro o ho
  simp only [oddsD, List.mem_cons, List.not_mem_nil, or_false] at ho
  rcases ho with rfl | rfl | rfl | rfl | rfl | rfl | rfl | rfl | rfl | rfl | rfl | rfl | rfl | rfl | rfl | rfl <;> kernel_rfl
theorem bars_odd8 (p : Option Pn) : ∀ o ∈ oddsD, F_check [barsC 8 o] p = some ((wrD 2, false), p) := by
  intro o ho
  simp only [oddsD, List.mem_cons, List.not_mem_nil, or_false] at ho
  rcases ho with rfl | rfl | rfl | rfl | rfl | rfl | rfl | rfl | rfl | rfl | rfl | rfl | rfl | rfl | rfl | rfl <;> kernel_rfl
theorem bars_odd9 (p : Option Pn) : ∀ o ∈ oddsD, F_check [barsC 9 o] p = some ((wrD 2, false), p) := by
  intro o ho
  simp only [oddsD, List.mem_cons, List.not_mem_nil, or_false] at ho
  rcases ho with rfl | rfl | rfl | rfl | rfl | rfl | rfl | rfl | rfl | rfl | rfl | rfl | rfl | rfl | rfl | rfl <;> kernel_rfl
theorem bars_odd (p : Option Pn) : ∀ st : Int, 1 ≤ st → st ≤ 9 → ∀ o ∈ oddsD, F_check [barsC st o] p = some ((wrD 2, false), p) := by
  intro st h1 h2
  have hs : st = 1 ∨ st = 2 ∨ st = 3 ∨ st = 4 ∨ st = 5 ∨ st = 6 ∨ st = 7 ∨ st = 8 ∨ st = 9 := by omega
  rcases hs with rfl | rfl | rfl | rfl | rfl | rfl | rfl | rfl | rfl
  · exact bars_odd1 p
  · exact bars_odd2 p
  · exact bars_odd3 p
  · exact bars_odd4 p
  · exact bars_odd5 p
  · exact bars_odd6 p
  · exact bars_odd7 p
  · exact bars_odd8 p
  · exact bars_odd9 p
theorem left_ok (p : Option Pn) : F_check [leftC (.tuple [.int 0])] p = some ((okD, false), p) := by kernel_rfl
theorem bars_ok (p : Option Pn) : ∀ st : Int, 1 ≤ st → st ≤ 9 → F_check [barsC st (.tuple [.int 0])] p = some ((okD, false), p) := by
  intro st h1 h2
  have hs : st = 1 ∨ st = 2 ∨ st = 3 ∨ st = 4 ∨ st = 5 ∨ st = 6 ∨ st = 7 ∨ st = 8 ∨ st = 9 := by omega
  rcases hs with rfl | rfl | rfl | rfl | rfl | rfl | rfl | rfl | rfl <;> kernel_rfl
theorem c_left {o : D} {pn : Option Pn} {Q : D → Bool → Option Pn → Prop} (ho : o ∈ oddsD) (h : Q (wrD 3) false pn) : WC F_check [leftC o] pn Q := ⟨_, _, _, left_odd pn o ho, h⟩
theorem c_bars {o : D} {st : Int} {pn : Option Pn} {Q : D → Bool → Option Pn → Prop} (h1 : 1 ≤ st) (h2 : st ≤ 9) (ho : o ∈ oddsD) (h : Q (wrD 2) false pn) : WC F_check [barsC st o] pn Q := ⟨_, _, _, bars_odd pn st h1 h2 o ho, h⟩
theorem c_left1 {pn : Option Pn} {Q : D → Bool → Option Pn → Prop} (h : Q okD false pn) : WC F_check [leftC (.tuple [.int 0])] pn Q := ⟨_, _, _, left_ok pn, h⟩
theorem c_bars1 {st : Int} {pn : Option Pn} {Q : D → Bool → Option Pn → Prop} (h1 : 1 ≤ st) (h2 : st ≤ 9) (h : Q okD false pn) : WC F_check [barsC st (.tuple [.int 0])] pn Q := ⟨_, _, _, bars_ok pn st h1 h2, h⟩
theorem ne_told : cmpD .NotEq (.list [wrD 3, wrD 2]) (.list [.tuple [.str "wrong", .int 3], .tuple [.str "wrong", .int 2]]) = some false := by kernel_rfl
theorem eq_told : cmpD .Eq (.list [okD, okD]) (.list [.tuple [.str "right"], .tuple [.str "right"]]) = some true := by kernel_rfl
end K1

set_option Elab.async false
set_option linter.all false
set_option maxRecDepth 100000
set_option maxHeartbeats 8000000
namespace K1
open PySem L2 Fs
local macro_rules
  | `(tactic| fail) => `(tactic| first
    | (refine' gateE ?_; first | refine' w_var rfl ?_ | refine' w_own rfl ?_ | refine' w_int ?_ | refine' w_bool ?_ | refine' w_non ?_ | refine' w_str ?_ | refine' w_glob ?_ | refine' w_call ?_ | refine' w_ix ?_ | refine' w_cmp ?_ | refine' w_bin ?_ | refine' w_one ?_ | refine' w_blt ?_ | refine' w_isi ?_ | refine' w_not ?_ | refine' w_isN ?_ | refine' w_notN ?_ | refine' w_tup ?_ | refine' w_lst ?_ | refine' w_and ?_ | refine' w_or ?_ | refine' w_sl ?_ | refine' w_lc ?_ | refine' w_neg ?_ | refine' w_cmp2P ?_ ?_)
    | refine' wl_nil ?_
    | refine' wl_cons ?_
    | (refine' gate1 ?_; first | refine' w1_set ?_ | refine' w1_ret ?_ | refine' w1_setT ?_ | refine' w1_set2 ?_ | refine' w1_app rfl ?_ | refine' w1_ins rfl ?_ | refine' w1_expr ?_ | refine' w1_rev rfl ?_ | refine' w1_ext rfl ?_ | refine' w1_setLc ?_ | refine' w1_for ?_ | refine' w1_retN ?_ | refine' w1_cont ?_ | refine' w1_brk ?_ | refine' w1_pass ?_)
    | refine' ws_nil ?_
    | refine' ws_cons ?_
    | (refine' gateB ?_; first | refine' wb_and1 ?_ | refine' wb_or1 ?_ | refine' wb_andP ?_ (fun _ => ?_) ?_ | refine' wb_orP ?_ (fun _ => ?_) ?_ | refine' wb_of ?_)
    | refine' wv ?_
    | (refine' gateK ?_; first | refine' k_lt ?_ | refine' k_le ?_ | refine' k_gt ?_ | refine' k_ge ?_ | refine' k_eqI ?_ | refine' k_neI ?_ | refine' k_inT ?_ | refine' k_inL ?_ | refine' k_ninT ?_ | refine' k_ninL ?_)
    | (refine' gateF ?_; first | refine' f_lenL ?_ | refine' f_lenT ?_ | refine' f_int ?_ | refine' f_tupL ?_ | refine' f_tupT ?_ | refine' f_listL ?_ | refine' f_listT ?_ | refine' f_max2 ?_ | refine' f_rev1T ?_ | refine' f_rev1L ?_ | refine' f_min2 ?_)
    | (refine' gateI ?_; first | refine' wi rfl ?_ | refine' wi_atT rfl rfl ?_ | refine' wi_atL rfl rfl ?_)
    | (refine' gateT ?_; first | refine' wt_v rfl ?_ | refine' wt_t2 rfl ?_ | refine' wt_t3 rfl ?_ | refine' wt_t4 rfl ?_ | refine' wt_t5 rfl ?_ | refine' wt rfl ?_)
    | (refine' gateR ?_; first | refine' wr_seq ?_ | refine' wr_enum ?_ | refine' wr_zip ?_ | refine' wr_rng ?_ | refine' wr_rng2 ?_)
    | (refine' gateSl ?_; first | refine' slF_T rfl ?_ | refine' slT_T rfl ?_ | refine' slF_L rfl ?_ | refine' slT_L rfl ?_)
    | refine' wo_none ?_
    | refine' wo_some ?_
    | refine' wal_nil ?_
    | refine' wal_one ?_
    | refine' d_add ?_
    | refine' d_sub ?_
    | refine' z_TT ?_
    | refine' z_LL ?_
    | refine' wret ?_
    | exact rfl
    | refine' ⟨_, rfl, ?_⟩
    | refine' ⟨rfl, fun _ => ?_⟩
    | refine' ⟨rfl, ?_⟩
    | fail_if_success skip)
theorem hlaw (cells : List Int) : ∃ s1, evalSs irr_law (lawS 8 ⟨cells, 0, 0⟩) = some (.ret (.bool true) false, s1) := by
  refine law_of ?_
  unfold irr_law
  (repeat' first |  ((with_reducible show WC FTake _ _ _); refine' c_take ⟨by omega, by omega⟩ ⟨by show (0 : Int) ≤ 0; omega, by show (0 : Int) < _; omega⟩ (fun r p1 h0 h1 h2 h3 => ?_))  | fail | refine' w1_ite ?_)
  have h2 : (0 : Int) ≤ p1.a := h2
  have h3 : p1.a ≤ (0 : Int) + 1 := h3
  refine o_one (ys := oddsD) rfl ⟨by decide, by decide⟩ ⟨h2, by omega⟩ fun d p2 hd h4 h5 => ?_
  (repeat' first | refine' d_addL (by decide) ?_ | fail | refine' w1_ite ?_)
  refine wfor (fun i s => ∃ x6 x7, s = ⟨[none, pen, some (poolC, false), some (.tuple [claimC], false), some (.int (1 + r), false), some (.list oddsD, true), x6, x7], some p2⟩) ⟨_, _, rfl⟩ ?_ ?_
  · rintro i o s hi ⟨x6, x7, rfl⟩
    have ho : o ∈ oddsD := by
      have hm := List.mem_of_getElem? hi
      rcases List.mem_append.mp hm with hm | hm
      · exact hm
      · rw [List.mem_singleton.mp hm]; exact hd
    (repeat' first |  ((with_reducible show WC F_check _ _ _); refine' c_left ho ?_) | ((with_reducible show WC F_check _ _ _); refine' c_bars (by omega) (by omega) ho ?_)  | fail | refine' w1_ite ?_)
    refine ⟨by rw [sizeL]; decide, ?_⟩
    refine ws_cons (w1_iteF ?_)
    (repeat' first | refine' WK.mk ⟨_, ne_told, ?_⟩ | fail | refine' w1_ite ?_)
    exact ⟨_, _, rfl⟩
  · rintro s ⟨x6, x7, rfl⟩
    (repeat' first |  ((with_reducible show WC F_check _ _ _); refine' c_left1 ?_) | ((with_reducible show WC F_check _ _ _); refine' c_bars1 (by omega) (by omega) ?_)  | fail | refine' w1_ite ?_)
    refine ⟨by rw [sizeL]; decide, ?_⟩
    (repeat' first | refine' WK.mk ⟨_, eq_told, ?_⟩ | fail | refine' w1_ite ?_)
end K1

open PySem PySem.W PyProof.Rows
set_option maxRecDepth 1000000 in
set_option maxHeartbeats 0 in
theorem PySem.Challenge.cw_floatseats_k76_certificates_with_any_set_holds : PySem.Challenge.rw_floatseats_k76_certificates_with_any_set.Holds := by
  w_on; o_law; k_head; (case hw => w_witness2)
  k_fill
  refine Fs.walk_law (l := PySem.Challenge.rw_floatseats_k76_certificates_with_any_set) (k := 24) (x0 := "_law_script") rfl rfl ⟨rfl, by decide, by decide⟩ (fun w h Y => PySem.W.kIn_of Y) ?F
  case F =>
    intro w mg fa h KX G hmg
    have d__law_open : Fs.DefAt (L2.KOf KX) mg "_law_open" K1.st__law_open := by
      refine' Fs.defAt_mk KX G ?a ?l ?c ?k
      (case a => k_is); (case l => k_is); (case c => k_is); (case k => k_is)
    have d__law_spread : Fs.DefAt (L2.KOf KX) mg "_law_spread" K1.st__law_spread := by
      refine' Fs.defAt_mk KX G ?a ?l ?c ?k
      (case a => k_is); (case l => k_is); (case c => k_is); (case k => k_is)
    have d__law_take : Fs.DefAt (L2.KOf KX) mg "_law_take" K1.st__law_take := by
      refine' Fs.defAt_mk KX G ?a ?l ?c ?k
      (case a => k_is); (case l => k_is); (case c => k_is); (case k => k_is)
    have d__law_one : Fs.DefAt (L2.KOf KX) mg "_law_one" K1.st__law_one := by
      refine' Fs.defAt_mk KX G ?a ?l ?c ?k
      (case a => k_is); (case l => k_is); (case c => k_is); (case k => k_is)
    have d_is_integer : Fs.DefAt (L2.KOf KX) mg "is_integer" K1.st_is_integer := by
      refine' Fs.defAt_mk KX G ?a ?l ?c ?k
      (case a => k_is); (case l => k_is); (case c => k_is); (case k => k_is)
    have d_is_between : Fs.DefAt (L2.KOf KX) mg "is_between" K1.st_is_between := by
      refine' Fs.defAt_mk KX G ?a ?l ?c ?k
      (case a => k_is); (case l => k_is); (case c => k_is); (case k => k_is)
    have d_is_digits : Fs.DefAt (L2.KOf KX) mg "is_digits" K1.st_is_digits := by
      refine' Fs.defAt_mk KX G ?a ?l ?c ?k
      (case a => k_is); (case l => k_is); (case c => k_is); (case k => k_is)
    have d_is_time : Fs.DefAt (L2.KOf KX) mg "is_time" K1.st_is_time := by
      refine' Fs.defAt_mk KX G ?a ?l ?c ?k
      (case a => k_is); (case l => k_is); (case c => k_is); (case k => k_is)
    have d_is_step : Fs.DefAt (L2.KOf KX) mg "is_step" K1.st_is_step := by
      refine' Fs.defAt_mk KX G ?a ?l ?c ?k
      (case a => k_is); (case l => k_is); (case c => k_is); (case k => k_is)
    have d_is_steps : Fs.DefAt (L2.KOf KX) mg "is_steps" K1.st_is_steps := by
      refine' Fs.defAt_mk KX G ?a ?l ?c ?k
      (case a => k_is); (case l => k_is); (case c => k_is); (case k => k_is)
    have d_is_kind : Fs.DefAt (L2.KOf KX) mg "is_kind" K1.st_is_kind := by
      refine' Fs.defAt_mk KX G ?a ?l ?c ?k
      (case a => k_is); (case l => k_is); (case c => k_is); (case k => k_is)
    have d_is_pool : Fs.DefAt (L2.KOf KX) mg "is_pool" K1.st_is_pool := by
      refine' Fs.defAt_mk KX G ?a ?l ?c ?k
      (case a => k_is); (case l => k_is); (case c => k_is); (case k => k_is)
    have d_require_pool : Fs.DefAt (L2.KOf KX) mg "require_pool" K1.st_require_pool := by
      refine' Fs.defAt_mk KX G ?a ?l ?c ?k
      (case a => k_is); (case l => k_is); (case c => k_is); (case k => k_is)
    have d_serves : Fs.DefAt (L2.KOf KX) mg "serves" K1.st_serves := by
      refine' Fs.defAt_mk KX G ?a ?l ?c ?k
      (case a => k_is); (case l => k_is); (case c => k_is); (case k => k_is)
    have d_is_claim_of : Fs.DefAt (L2.KOf KX) mg "is_claim_of" K1.st_is_claim_of := by
      refine' Fs.defAt_mk KX G ?a ?l ?c ?k
      (case a => k_is); (case l => k_is); (case c => k_is); (case k => k_is)
    have d_are_claims : Fs.DefAt (L2.KOf KX) mg "are_claims" K1.st_are_claims := by
      refine' Fs.defAt_mk KX G ?a ?l ?c ?k
      (case a => k_is); (case l => k_is); (case c => k_is); (case k => k_is)
    have d_require_claims : Fs.DefAt (L2.KOf KX) mg "require_claims" K1.st_require_claims := by
      refine' Fs.defAt_mk KX G ?a ?l ?c ?k
      (case a => k_is); (case l => k_is); (case c => k_is); (case k => k_is)
    have d_require_waiting : Fs.DefAt (L2.KOf KX) mg "require_waiting" K1.st_require_waiting := by
      refine' Fs.defAt_mk KX G ?a ?l ?c ?k
      (case a => k_is); (case l => k_is); (case c => k_is); (case k => k_is)
    have d_require_time : Fs.DefAt (L2.KOf KX) mg "require_time" K1.st_require_time := by
      refine' Fs.defAt_mk KX G ?a ?l ?c ?k
      (case a => k_is); (case l => k_is); (case c => k_is); (case k => k_is)
    have d_is_active : Fs.DefAt (L2.KOf KX) mg "is_active" K1.st_is_active := by
      refine' Fs.defAt_mk KX G ?a ?l ?c ?k
      (case a => k_is); (case l => k_is); (case c => k_is); (case k => k_is)
    have d_find_active : Fs.DefAt (L2.KOf KX) mg "find_active" K1.st_find_active := by
      refine' Fs.defAt_mk KX G ?a ?l ?c ?k
      (case a => k_is); (case l => k_is); (case c => k_is); (case k => k_is)
    have d_find_serving : Fs.DefAt (L2.KOf KX) mg "find_serving" K1.st_find_serving := by
      refine' Fs.defAt_mk KX G ?a ?l ?c ?k
      (case a => k_is); (case l => k_is); (case c => k_is); (case k => k_is)
    have d_find_kinds : Fs.DefAt (L2.KOf KX) mg "find_kinds" K1.st_find_kinds := by
      refine' Fs.defAt_mk KX G ?a ?l ?c ?k
      (case a => k_is); (case l => k_is); (case c => k_is); (case k => k_is)
    have d_find_seats : Fs.DefAt (L2.KOf KX) mg "find_seats" K1.st_find_seats := by
      refine' Fs.defAt_mk KX G ?a ?l ?c ?k
      (case a => k_is); (case l => k_is); (case c => k_is); (case k => k_is)
    have d_is_seating_of : Fs.DefAt (L2.KOf KX) mg "is_seating_of" K1.st_is_seating_of := by
      refine' Fs.defAt_mk KX G ?a ?l ?c ?k
      (case a => k_is); (case l => k_is); (case c => k_is); (case k => k_is)
    have d_check_seating : Fs.DefAt (L2.KOf KX) mg "check_seating" K1.st_check_seating := by
      refine' Fs.defAt_mk KX G ?a ?l ?c ?k
      (case a => k_is); (case l => k_is); (case c => k_is); (case k => k_is)
    have d_is_set : Fs.DefAt (L2.KOf KX) mg "is_set" K1.st_is_set := by
      refine' Fs.defAt_mk KX G ?a ?l ?c ?k
      (case a => k_is); (case l => k_is); (case c => k_is); (case k => k_is)
    have d_set_kinds : Fs.DefAt (L2.KOf KX) mg "set_kinds" K1.st_set_kinds := by
      refine' Fs.defAt_mk KX G ?a ?l ?c ?k
      (case a => k_is); (case l => k_is); (case c => k_is); (case k => k_is)
    have d_set_seats : Fs.DefAt (L2.KOf KX) mg "set_seats" K1.st_set_seats := by
      refine' Fs.defAt_mk KX G ?a ?l ?c ?k
      (case a => k_is); (case l => k_is); (case c => k_is); (case k => k_is)
    have d_is_short : Fs.DefAt (L2.KOf KX) mg "is_short" K1.st_is_short := by
      refine' Fs.defAt_mk KX G ?a ?l ?c ?k
      (case a => k_is); (case l => k_is); (case c => k_is); (case k => k_is)
    have d_check_shortage : Fs.DefAt (L2.KOf KX) mg "check_shortage" K1.st_check_shortage := by
      refine' Fs.defAt_mk KX G ?a ?l ?c ?k
      (case a => k_is); (case l => k_is); (case c => k_is); (case k => k_is)
    have d_find_moments : Fs.DefAt (L2.KOf KX) mg "find_moments" K1.st_find_moments := by
      refine' Fs.defAt_mk KX G ?a ?l ?c ?k
      (case a => k_is); (case l => k_is); (case c => k_is); (case k => k_is)
    have d_check_fits : Fs.DefAt (L2.KOf KX) mg "check_fits" K1.st_check_fits := by
      refine' Fs.defAt_mk KX G ?a ?l ?c ?k
      (case a => k_is); (case l => k_is); (case c => k_is); (case k => k_is)
    have d_next_kinds : Fs.DefAt (L2.KOf KX) mg "next_kinds" K1.st_next_kinds := by
      refine' Fs.defAt_mk KX G ?a ?l ?c ?k
      (case a => k_is); (case l => k_is); (case c => k_is); (case k => k_is)
    have d_find_levels : Fs.DefAt (L2.KOf KX) mg "find_levels" K1.st_find_levels := by
      refine' Fs.defAt_mk KX G ?a ?l ?c ?k
      (case a => k_is); (case l => k_is); (case c => k_is); (case k => k_is)
    have d_has_free_seat : Fs.DefAt (L2.KOf KX) mg "has_free_seat" K1.st_has_free_seat := by
      refine' Fs.defAt_mk KX G ?a ?l ?c ?k
      (case a => k_is); (case l => k_is); (case c => k_is); (case k => k_is)
    have d_check_fewest : Fs.DefAt (L2.KOf KX) mg "check_fewest" K1.st_check_fewest := by
      refine' Fs.defAt_mk KX G ?a ?l ?c ?k
      (case a => k_is); (case l => k_is); (case c => k_is); (case k => k_is)
    have d_check_impossible : Fs.DefAt (L2.KOf KX) mg "check_impossible" K1.st_check_impossible := by
      refine' Fs.defAt_mk KX G ?a ?l ?c ?k
      (case a => k_is); (case l => k_is); (case c => k_is); (case k => k_is)
    have d_are_numbers : Fs.DefAt (L2.KOf KX) mg "are_numbers" K1.st_are_numbers := by
      refine' Fs.defAt_mk KX G ?a ?l ?c ?k
      (case a => k_is); (case l => k_is); (case c => k_is); (case k => k_is)
    have d_find_place : Fs.DefAt (L2.KOf KX) mg "find_place" K1.st_find_place := by
      refine' Fs.defAt_mk KX G ?a ?l ?c ?k
      (case a => k_is); (case l => k_is); (case c => k_is); (case k => k_is)
    have d_seat_claims : Fs.DefAt (L2.KOf KX) mg "seat_claims" K1.st_seat_claims := by
      refine' Fs.defAt_mk KX G ?a ?l ?c ?k
      (case a => k_is); (case l => k_is); (case c => k_is); (case k => k_is)
    have d_fit_at : Fs.DefAt (L2.KOf KX) mg "fit_at" K1.st_fit_at := by
      refine' Fs.defAt_mk KX G ?a ?l ?c ?k
      (case a => k_is); (case l => k_is); (case c => k_is); (case k => k_is)
    have d_all_fit : Fs.DefAt (L2.KOf KX) mg "all_fit" K1.st_all_fit := by
      refine' Fs.defAt_mk KX G ?a ?l ?c ?k
      (case a => k_is); (case l => k_is); (case c => k_is); (case k => k_is)
    have d_is_row : Fs.DefAt (L2.KOf KX) mg "is_row" K1.st_is_row := by
      refine' Fs.defAt_mk KX G ?a ?l ?c ?k
      (case a => k_is); (case l => k_is); (case c => k_is); (case k => k_is)
    have d_is_left : Fs.DefAt (L2.KOf KX) mg "is_left" K1.st_is_left := by
      refine' Fs.defAt_mk KX G ?a ?l ?c ?k
      (case a => k_is); (case l => k_is); (case c => k_is); (case k => k_is)
    have d_check_left : Fs.DefAt (L2.KOf KX) mg "check_left" K1.st_check_left := by
      refine' Fs.defAt_mk KX G ?a ?l ?c ?k
      (case a => k_is); (case l => k_is); (case c => k_is); (case k => k_is)
    have d_are_worths : Fs.DefAt (L2.KOf KX) mg "are_worths" K1.st_are_worths := by
      refine' Fs.defAt_mk KX G ?a ?l ?c ?k
      (case a => k_is); (case l => k_is); (case c => k_is); (case k => k_is)
    have d_is_choice : Fs.DefAt (L2.KOf KX) mg "is_choice" K1.st_is_choice := by
      refine' Fs.defAt_mk KX G ?a ?l ?c ?k
      (case a => k_is); (case l => k_is); (case c => k_is); (case k => k_is)
    have d_find_lacked : Fs.DefAt (L2.KOf KX) mg "find_lacked" K1.st_find_lacked := by
      refine' Fs.defAt_mk KX G ?a ?l ?c ?k
      (case a => k_is); (case l => k_is); (case c => k_is); (case k => k_is)
    have d_is_link : Fs.DefAt (L2.KOf KX) mg "is_link" K1.st_is_link := by
      refine' Fs.defAt_mk KX G ?a ?l ?c ?k
      (case a => k_is); (case l => k_is); (case c => k_is); (case k => k_is)
    have d_count_within : Fs.DefAt (L2.KOf KX) mg "count_within" K1.st_count_within := by
      refine' Fs.defAt_mk KX G ?a ?l ?c ?k
      (case a => k_is); (case l => k_is); (case c => k_is); (case k => k_is)
    have d_check_worthiest : Fs.DefAt (L2.KOf KX) mg "check_worthiest" K1.st_check_worthiest := by
      refine' Fs.defAt_mk KX G ?a ?l ?c ?k
      (case a => k_is); (case l => k_is); (case c => k_is); (case k => k_is)
    have d_is_online : Fs.DefAt (L2.KOf KX) mg "is_online" K1.st_is_online := by
      refine' Fs.defAt_mk KX G ?a ?l ?c ?k
      (case a => k_is); (case l => k_is); (case c => k_is); (case k => k_is)
    have d_are_bars : Fs.DefAt (L2.KOf KX) mg "are_bars" K1.st_are_bars := by
      refine' Fs.defAt_mk KX G ?a ?l ?c ?k
      (case a => k_is); (case l => k_is); (case c => k_is); (case k => k_is)
    have d_find_changes : Fs.DefAt (L2.KOf KX) mg "find_changes" K1.st_find_changes := by
      refine' Fs.defAt_mk KX G ?a ?l ?c ?k
      (case a => k_is); (case l => k_is); (case c => k_is); (case k => k_is)
    have d_is_bar : Fs.DefAt (L2.KOf KX) mg "is_bar" K1.st_is_bar := by
      refine' Fs.defAt_mk KX G ?a ?l ?c ?k
      (case a => k_is); (case l => k_is); (case c => k_is); (case k => k_is)
    have d_check_bars : Fs.DefAt (L2.KOf KX) mg "check_bars" K1.st_check_bars := by
      refine' Fs.defAt_mk KX G ?a ?l ?c ?k
      (case a => k_is); (case l => k_is); (case c => k_is); (case k => k_is)
    have d_check_seats : Fs.DefAt (L2.KOf KX) mg "check_seats" K1.st_check_seats := by
      refine' Fs.defAt_mk KX G ?a ?l ?c ?k
      (case a => k_is); (case l => k_is); (case c => k_is); (case k => k_is)
    have d_find_wrong : Fs.DefAt (L2.KOf KX) mg "find_wrong" K1.st_find_wrong := by
      refine' Fs.defAt_mk KX G ?a ?l ?c ?k
      (case a => k_is); (case l => k_is); (case c => k_is); (case k => k_is)
    have d_check : Fs.DefAt (L2.KOf KX) mg "check" K1.st_check := by
      refine' Fs.defAt_mk KX G ?a ?l ?c ?k
      (case a => k_is); (case l => k_is); (case c => k_is); (case k => k_is)
    have d_law : Fs.DefAt (L2.KOf KX) mg "law" K1.st_law := by
      refine' Fs.defAt_mk KX G ?a ?l ?c ?k
      (case a => k_is); (case l => k_is); (case c => k_is); (case k => k_is)
    have g_LAST_TIME := Fs.glob_int (PySem.W.mg_of (n := "LAST_TIME") KX G (by k_is))
    have g_MOST_CLAIMS := Fs.glob_int (PySem.W.mg_of (n := "MOST_CLAIMS") KX G (by k_is))
    have g_MOST_KINDS := Fs.glob_int (PySem.W.mg_of (n := "MOST_KINDS") KX G (by k_is))
    have g_MOST_SEATS := Fs.glob_int (PySem.W.mg_of (n := "MOST_SEATS") KX G (by k_is))
    have g_MOST_STEPS := Fs.glob_int (PySem.W.mg_of (n := "MOST_STEPS") KX G (by k_is))
    have g_MOST_WAITING := Fs.glob_int (PySem.W.mg_of (n := "MOST_WAITING") KX G (by k_is))
    have g_MOST_WORTH := Fs.glob_int (PySem.W.mg_of (n := "MOST_WORTH") KX G (by k_is))
    have e_SIZES := PySem.W.mg_of (n := "SIZES") KX G (by k_is)
    have b_SIZES := Fs.tabAt_mk (x := "SIZES") (tb := [("seating", 5), ("shortage", 5), ("fits", 4), ("fewest", 7), ("impossible", 7), ("left", 6), ("bars", 6), ("seats", 7), ("worthiest", 8)]) (pm := w.params) KX e_SIZES (by k_is) (by exact rfl) (by exact rfl) (by repeat' (first | exact trivial | refine' ⟨⟨_, rfl⟩, rfl, ⟨_, rfl⟩, ?_⟩))
    have e_TIMES := PySem.W.mg_of (n := "TIMES") KX G (by k_is)
    have b_TIMES := Fs.tabAt_mk (x := "TIMES") (tb := [("seating", 3), ("shortage", 3), ("fewest", 3), ("impossible", 3), ("seats", 5), ("worthiest", 5)]) (pm := w.params) KX e_TIMES (by k_is) (by exact rfl) (by exact rfl) (by repeat' (first | exact trivial | refine' ⟨⟨_, rfl⟩, rfl, ⟨_, rfl⟩, ?_⟩))
    have z_len := PySem.W.mg_none_of (n := "len") KX G (by k_is)
    have z_all := PySem.W.mg_none_of (n := "all") KX G (by k_is)
    have z_any := PySem.W.mg_none_of (n := "any") KX G (by k_is)
    have z_sum := PySem.W.mg_none_of (n := "sum") KX G (by k_is)
    have z_max := PySem.W.mg_none_of (n := "max") KX G (by k_is)
    have z_min := PySem.W.mg_none_of (n := "min") KX G (by k_is)
    have z_tuple := PySem.W.mg_none_of (n := "tuple") KX G (by k_is)
    have z_list := PySem.W.mg_none_of (n := "list") KX G (by k_is)
    have z_repr := PySem.W.mg_none_of (n := "repr") KX G (by k_is)
    have z_int := PySem.W.mg_none_of (n := "int") KX G (by k_is)
    have z_sorted := PySem.W.mg_none_of (n := "sorted") KX G (by k_is)
    have z_set := PySem.W.mg_none_of (n := "set") KX G (by k_is)
    have z_range := PySem.W.mg_none_of (n := "range") KX G (by k_is)
    have z_enumerate := PySem.W.mg_none_of (n := "enumerate") KX G (by k_is)
    have z_zip := PySem.W.mg_none_of (n := "zip") KX G (by k_is)
    have z_isinstance := PySem.W.mg_none_of (n := "isinstance") KX G (by k_is)
    have z_bool := PySem.W.mg_none_of (n := "bool") KX G (by k_is)
    have z_str := PySem.W.mg_none_of (n := "str") KX G (by k_is)
    have T : K1.Top (L2.KOf KX) mg w.params := ⟨d__law_open, d__law_spread, d__law_take, d__law_one, d_is_integer, d_is_between, d_is_digits, d_is_time, d_is_step, d_is_steps, d_is_kind, d_is_pool, d_require_pool, d_serves, d_is_claim_of, d_are_claims, d_require_claims, d_require_waiting, d_require_time, d_is_active, d_find_active, d_find_serving, d_find_kinds, d_find_seats, d_is_seating_of, d_check_seating, d_is_set, d_set_kinds, d_set_seats, d_is_short, d_check_shortage, d_find_moments, d_check_fits, d_next_kinds, d_find_levels, d_has_free_seat, d_check_fewest, d_check_impossible, d_are_numbers, d_find_place, d_seat_claims, d_fit_at, d_all_fit, d_is_row, d_is_left, d_check_left, d_are_worths, d_is_choice, d_find_lacked, d_is_link, d_count_within, d_check_worthiest, d_is_online, d_are_bars, d_find_changes, d_is_bar, d_check_bars, d_check_seats, d_find_wrong, d_check, d_law, g_LAST_TIME, g_MOST_CLAIMS, g_MOST_KINDS, g_MOST_SEATS, g_MOST_STEPS, g_MOST_WAITING, g_MOST_WORTH, b_SIZES, b_TIMES, Fs.bl_mk z_len z_all z_any z_sum z_max z_min z_tuple z_list z_repr z_int z_sorted z_set z_range z_enumerate z_zip z_isinstance z_bool z_str⟩
    exact Fs.law_at K1.irr_law K1.nE_law T.d_law hmg K1.sc_law T.bl (by decide) K1.em_law K1.ok_law (fun  base _ _ => K1.C_law (W := ⟨_, _, _, _, _⟩) T) K1.hlaw (fun _ _ _ _ _ _ _ => rfl)

