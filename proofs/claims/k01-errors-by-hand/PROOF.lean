import PyProof.Rows.All
import Wide.All
import OpenK.AllK
import Wide.FinOn
import HandS.ForMost
import HandS.Deep
import HandS.TupAny
import HandS.TupMul
import HandS.IsInst
import HandS.SortInts
import KE.DataMinMax
import KE.SortData
import HandS.Star
import HandS.Nested
import HandS.Exc
import HandS.ExcIs
import HandS.ExcInit
import HandS.Conv
import HandS.TupLe
import HandS.More
import HandS.SetFor
import HandS.SortRule
import HandS.Iter
import HandS.Zip
import HandS.Walk
import KE.GoesMore
import HandS.ExcField
import HandS.ExcValue
import HandS.Flow
import HandS.DictTup
import KE.KDictZip
import KE.KItemsList
import HandS.Keys
import HandS.Style
import KE.DataFind
import KE.DatumIndex
import HandS.Words
import HandS.ExcOwn
import HandS.ClsMeth
import PySem.Challenge.RW_floatseats_k01_errors_by_hand
section
set_option Elab.async false
set_option linter.all false
open PySem PySem.W PyProof.Rows
set_option maxRecDepth 1000000 in
set_option maxHeartbeats 0 in
open_top K1.top_of for PySem.Challenge.rw_floatseats_k01_errors_by_hand
end
set_option Elab.async false
set_option linter.all false
set_option maxRecDepth 100000
set_option maxHeartbeats 4000000
namespace Fs
open PySem L2

abbrev D := PyData

/-- the drawing object: its cells, how many were drawn, what is left of the last one -/
structure Pn where
  cells : List Int
  a : Int
  r : Int

/-- a state: the slots (with: is the list in it ours alone), the pen -/
structure S where
  sl : List (Option (D × Bool))
  pn : Option Pn

/-- where a value stands: never changed again; new and ours; the list of a slot -/
inductive Tg where
  | fz | fresh | slot (i : Nat)

abbrev Fn := List D → Option Pn → Option ((D × Bool) × Option Pn)

inductive Ty5 where
  | int | bool | tuple | list | str

inductive Bf where
  | len | all | any | sum | max | min | tuple | list | repr | int | sset | lrange | rev1 | cnt | trange | dnew | srt | stp | stl | sth | st3 | idx | lenm | slen | up | stri | mth (m : Str)

/-- a table of the module (text keys, numbers): get with a number, in, [] -/
inductive TabM where
  | get (n : Int) | mem | ix
/-- a target: one slot, or a tuple of slots -/
inductive Tr where
  | v (i : Nat) | t (is : List Nat) | n (i : Nat) (is : List Nat)
def Tr.isT : Tr → Bool
  | .t _ => true
  | .n _ _ => true
  | _ => false
def Tr.slots : Tr → List Nat
  | .v i => [i]
  | .t is => is
  | .n i is => i :: is

mutual
inductive IE where
  | var (i : Nat)
  | int (n : Int) | bool (b : Bool) | non | str (x : Str)
  | glob (x : Str) (d : D)
  | bin (op : Operator) (a b : IE)
  | neg (a : IE)
  | not (a : IE)
  | cmp (op : CmpOp) (a b : IE)
  | isN (a : IE) | notN (a : IE)
  | cmp2 (o p : CmpOp) (a b c : IE)
  | and (es : IEs) | or (es : IEs)
  | ite (c a b : IE)
  | tup (es : IEs) | lst (es : IEs)
  | ix (a b : IE)
  | sl (a : IE) (lo hi : IO)
  | isi (a : IE) (t : Ty5)
  | blt (f : Bf) (es : IEs)
  | call (x : Str) (F : Fn) (es : IEs)
  | one (x : Str) (a b : IE)
  | pix (i j : Nat)
  | lc (elt : IE) (tg : Tr) (src : Sr) (ifs : IEs)
  | isX (x : Str) (adr : Str → Nat) (names : List Str) (sub : Str → Bool) (a : IE)
  | attr (a : IE) (m : Str)
  | cmp3 (o p q : CmpOp) (a b c d : IE)
  | tab (m : TabM) (x : Str) (tb : List (Str × Int)) (a : IE)
  | calS (x : Str) (F : Fn) (n : Nat) (e : IE)
  | fnv (x : Str) (adr : Str → Nat)
  | calL (i : Nat) (adr : Str → Nat) (fs : List (Str × Fn)) (es : IEs)
  | calLS (i : Nat) (adr : Str → Nat) (fs : List (Str × (Fn × Nat))) (e : IE)
  | tabF (x : Str) (adr : Str → Nat) (ks : List (Str × Str)) (a : IE)
  | newX (x : Str) (adr : Str → Nat) (f : Option Str) (a : IE)
  | xat (i : Nat) (m : Str) (adr : Str → Nat) (names : List Str)
inductive IEs where
  | nil | cons (e : IE) (es : IEs)
inductive IO where
  | none | some (e : IE)
inductive Sr where
  | seq (e : IE) | enum (e : IE) | zip (a b : IE) | rng (a : IE) | rng2 (a b : IE) | rng3 (a b c : IE)
end

mutual
inductive IS where
  | set (i : Nat) (e : IE)
  | setLc (i : Nat) (elt : IE) (tg : Tr) (src : Sr) (ifs : IEs)
  | setT (is : List Nat) (e : IE)
  | set2 (is : List Nat) (es : IEs)
  | setIx (i : Nat) (k e : IE)
  | pset (i j : Nat) (e : IE)
  | aug (op : Operator) (i : Nat) (e : IE)
  | app (i : Nat) (e : IE)
  | ins (i : Nat) (k e : IE)
  | pop (j i : Nat) (k : IE)
  | ext (i : Nat) (e : IE)
  | rev (i : Nat)
  | expr (e : IE)
  | ite (c : IE) (a b : ISs)
  | for (tg : Tr) (src : Sr) (body : ISs)
  | while (fuel : Nat) (c : IE) (body : ISs)
  | ret (e : IE) | retN | pass | brk | cont | never
inductive ISs where
  | nil | cons (s : IS) (ss : ISs)
end

def Sr.pairs : Sr → Bool
  | .enum _ => true
  | .zip _ _ => true
  | _ => false

def scal : D → Bool
  | .none => true
  | .bool _ => true
  | .int _ => true
  | .str _ => true
  | _ => false

mutual
/-- no dict within, not too deep -/
def good : Nat → D → Bool
  | _, .none => true
  | _, .bool _ => true
  | _, .int _ => true
  | _, .str x => PyData.strOk x
  | n + 1, .list xs => goods n xs
  | n + 1, .tuple xs => goods n xs
  | _, _ => false
def goods : Nat → List D → Bool
  | _, [] => true
  | n, x :: xs => good n x && goods n xs
end

def intsOf : List D → Option (List Int)
  | [] => some []
  | .int i :: r => (intsOf r).map (i :: ·)
  | _ => none
def boolsOf : List D → Option (List Bool)
  | [] => some []
  | .bool b :: r => (boolsOf r).map (b :: ·)
  | _ => none

def addD : D → D → Option (D × Bool)
  | .int a, .int b => some (.int (a + b), false)
  | .tuple a, .tuple b => if a.length + b.length ≤ sizeLine then some (.tuple (a ++ b), false) else none
  | .list a, .list b => if a.length + b.length ≤ sizeLine then some (.list (a ++ b), true) else none
  | .str a, .str b => if a.length + b.length ≤ sizeLine then some (.str (a ++ b), false) else none
  | _, _ => none
def mulD : D → D → Option (D × Bool)
  | .int a, .int b => if (-(2 ^ 64) < a ∧ a < 2 ^ 64) ∨ (-(2 ^ 64) < b ∧ b < 2 ^ 64) then some (.int (a * b), false) else none
  | .list a, .int k => if -(2 ^ 63) ≤ k ∧ k < 2 ^ 63 ∧ a.length * k.toNat ≤ sizeLine then some (.list (List.replicate k.toNat a).flatten, true) else none
  | .tuple a, .int k => if -(2 ^ 63) ≤ k ∧ k ≤ 1000 ∧ a.length ≤ 1000 then some (.tuple (List.replicate k.toNat a).flatten, false) else none
  | _, _ => none
def binD (op : Operator) (x y : D) : Option (D × Bool) :=
  match op with
  | .Add => addD x y
  | .Mult => mulD x y
  | .Sub => match x, y with
    | .int a, .int b => some (.int (a - b), false)
    | _, _ => none
  | .FloorDiv => match x, y with
    | .int a, .int b => if 0 < b ∧ b < 1073741824 then some (.int (a / b), false) else none
    | _, _ => none
  | .Mod => match x, y with
    | .int a, .int b => if 0 < b then some (.int (a % b), false) else none
    | _, _ => none
  | .Pow => match x, y with
    | .int a, .int b => if 0 ≤ b ∧ b ≤ 1000000 ∧ a.natAbs < 2 ^ 64 then some (.int (a ^ b.toNat), false) else none
    | _, _ => none
  | _ => none

def itemsD : D → Option (List D)
  | .list xs => some xs
  | .tuple xs => some xs
  | _ => none

def kin : D → D → Bool
  | .list _, .list _ => true
  | .tuple _, .tuple _ => true
  | .tuple _, .list _ => true
  | .list _, .tuple _ => true
  | _, _ => false

def okEq (x y : D) : Bool := match x, y with
  | .str _, .str _ => true
  | _, _ => good 60 x && good 60 y

def cmpD (op : CmpOp) (x y : D) : Option Bool :=
  match op with
  | .Eq => if okEq x y then some (PyData.eqv x y) else none
  | .NotEq => if okEq x y then some (!PyData.eqv x y) else none
  | .Lt => match x, y with
    | .int a, .int b => some (decide (a < b))
    | _, _ => none
  | .LtE => match x, y with
    | .int a, .int b => some (decide (a ≤ b))
    | _, _ => none
  | .Gt => match x, y with
    | .int a, .int b => some (decide (b < a))
    | _, _ => none
  | .GtE => match x, y with
    | .int a, .int b => some (decide (b ≤ a))
    | _, _ => none
  | .In => (itemsD y).bind fun ys => if okEq x y then some (ys.any fun z => PyData.eqv z x) else none
  | .NotIn => (itemsD y).bind fun ys => if okEq x y then some (!ys.any fun z => PyData.eqv z x) else none
  | .Is => match x, y with
    | .bool a, .bool b => some (decide (a = b))
    | _, _ => none
  | .IsNot => match x, y with
    | .bool a, .bool b => some (!decide (a = b))
    | _, _ => none

/-- a dict that is never changed again, by its entries (keys: ints, texts) -/
def keyD : Sum Int Str → D
  | .inl i => .int i
  | .inr z => .str z
def dKey : D → Option (Sum Int Str)
  | .int i => some (.inl i)
  | .str z => some (.inr z)
  | _ => none
def lookK : List (D × D) → Sum Int Str → Option D
  | [], _ => none
  | (k, v) :: r, x => if dKey k = some x then some v else lookK r x
def entsD : D → Option (List (D × D))
  | .dict ((.none, .none) :: es) => some es
  | _ => none
def dctD (es : List (D × D)) : D := .dict ((.none, .none) :: es)
theorem entsD_eq {d : D} {es : List (D × D)} (h : entsD d = some es) : d = dctD es := by
  unfold entsD at h
  split at h
  · cases h; rfl
  · cases h
def ixD : D → D → Option D
  | .list xs, .int i => atI xs i
  | .tuple xs, .int i => atI xs i
  | .dict es, y => (entsD (.dict es)).bind fun es => (dKey y).bind (lookK es)
  | _, _ => none

def optI : Option D → Option (Option Int)
  | none => some none
  | some (.int i) => some (some i)
  | _ => none
def cutD (xs : List D) (lo hi : Option Int) : List D := (xs.drop (HT.sIx xs.length 0 lo)).take (HT.sIx xs.length xs.length hi - HT.sIx xs.length 0 lo)
def slD (x : D) (lo hi : Option D) : Option (D × Bool) :=
  (optI lo).bind fun l => (optI hi).bind fun h => match x with
    | .list xs => some (.list (cutD xs l h), true)
    | .tuple xs => some (.tuple (cutD xs l h), false)
    | .str z => if z.length ≤ 1000 then some (.str (L2.cutS z l h), false) else none
    | _ => none

def isiD : Ty5 → D → Option Bool
  | .int, .int _ => some true
  | .int, .bool _ => some true
  | .bool, .bool _ => some true
  | .tuple, .tuple _ => some true
  | .list, .list _ => some true
  | .str, .str _ => some true
  | _, .dict _ => none
  | _, _ => some false

/-- sorted(set(ns)) -/
def ins (n : Int) : List Int → List Int
  | [] => [n]
  | m :: r => if n < m then n :: m :: r else if n = m then m :: r else m :: ins n r
def ssetI (ns : List Int) : List Int := ns.foldr ins []
/-- sorted(ns) -/
def insI (n : Int) : List Int → List Int
  | [] => [n]
  | m :: r => if n ≤ m then n :: m :: r else m :: insI n r
def srtI (ns : List Int) : List Int := ns.foldr insI []
/-- pairs, by the first and then by the second -/
def leP (p q : Int × Int) : Bool := decide (p.1 < q.1) || (decide (p.1 = q.1) && decide (p.2 ≤ q.2))
def insP (p : Int × Int) : List (Int × Int) → List (Int × Int)
  | [] => [p]
  | q :: r => if leP p q = true then p :: q :: r else q :: insP p r
def srtP (ps : List (Int × Int)) : List (Int × Int) := ps.foldr insP []
def pairD (p : Int × Int) : D := .tuple [.int p.1, .int p.2]
def pairsOf : List D → Option (List (Int × Int))
  | [] => some []
  | .tuple [.int a, .int b] :: r => (pairsOf r).map ((a, b) :: ·)
  | _ => none
def maxI : List Int → Int
  | [] => 0
  | [n] => n
  | n :: r => max n (maxI r)
def minI : List Int → Int
  | [] => 0
  | [n] => n
  | n :: r => min n (minI r)

/-- tuples of ints, one at least -/
def rowE (r : Int × List Int) : D := .tuple (.int r.1 :: r.2.map .int)
def rowOf : D → Option (Int × List Int)
  | .tuple (.int a :: ds) => (intsOf ds).map fun l => (a, l)
  | _ => none
def rowsOf : List D → Option (List (Int × List Int))
  | [] => some []
  | d :: r => (rowOf d).bind fun x => (rowsOf r).map (x :: ·)
def srtR (rs : List (Int × List Int)) : List (Int × List Int) := rs.mergeSort (PySem.W.dataLe false rowE)
def srtD (xs : List D) : Option (List D) :=
  match intsOf xs with
  | some ns => some ((srtI ns).map .int)
  | none => match pairsOf xs with
    | some ps => some ((srtP ps).map pairD)
    | none => (rowsOf xs).bind fun rs => if good 60 (.list xs) then some ((srtR rs).map rowE) else none
/-- the items of a tuple, of a list -/
def seqD : D → Option (List D)
  | .tuple xs => some xs
  | .list xs => some xs
  | _ => none
/-- not to be changed -/
def hardD : D → Bool
  | .list _ => false
  | .dict _ => false
  | _ => true
/-- alike: to be compared by < -/
def alikeB (xs : List D) : Bool := (xs.all fun a => xs.all fun b => PySem.W.alike a b) && xs.all fun a => match a with | .none => false | _ => true
def minLD (xs : List D) : Option (D × Bool) :=
  match intsOf xs with
  | some ns => if 0 < ns.length then some (.int (minI ns), false) else none
  | none => match xs with
    | [] => none
    | x :: r => if good 60 (.list (x :: r)) && alikeB (x :: r) then some (PySem.W.minD x r, false) else none
def maxTD (xs : List D) : Option (D × Bool) :=
  match intsOf xs with
  | some (n :: r) => if good 60 (.tuple xs) = true then some (.int (maxI (n :: r)), false) else none
  | _ => none
def bB_len : List D → Option (D × Bool)
  | [.str x] => if x.length ≤ sizeLine then some (.int x.length, false) else none
  | [.list xs] => some (.int xs.length, false)
  | [.tuple xs] => some (.int xs.length, false)
  | _ => none
def bB_all : List D → Option (D × Bool)
  | [.list xs] => (boolsOf xs).map fun bs => (.bool (bs.all id), false)
  | _ => none
def bB_any : List D → Option (D × Bool)
  | [.list xs] => (boolsOf xs).map fun bs => (.bool (bs.any id), false)
  | _ => none
def bB_sum : List D → Option (D × Bool)
  | [.list xs] => (intsOf xs).map fun ns => (.int ns.sum, false)
  | _ => none
def bB_max : List D → Option (D × Bool)
  | [.list xs] => (intsOf xs).bind fun ns => if 0 < ns.length then some (.int (maxI ns), false) else none
  | [.tuple xs] => maxTD xs
  | [.int a, .int b] => some (.int (if b > a then b else a), false)
  | _ => none
def bB_min : List D → Option (D × Bool)
  | [.list xs] => minLD xs
  | [.int a, .int b] => some (.int (if b < a then b else a), false)
  | _ => none
def bB_tuple : List D → Option (D × Bool)
  | [.list xs] => some (.tuple xs, false)
  | [.tuple xs] => some (.tuple xs, false)
  | _ => none
def bB_list : List D → Option (D × Bool)
  | [.list xs] => some (.list xs, true)
  | [.tuple xs] => some (.list xs, true)
  | _ => none
def bB_repr : List D → Option (D × Bool)
  | [d] => if good 60 d && d.showable && decide (d.shown.length ≤ sizeLine) then some (.str d.shown, false) else none
  | _ => none
def bB_int : List D → Option (D × Bool)
  | [.int i] => some (.int i, false)
  | [.bool b] => some (.int (if b then 1 else 0), false)
  | _ => none
def bB_sset : List D → Option (D × Bool)
  | [.list xs] => (intsOf xs).bind fun ns => if ns.length ≤ 4000 ∧ (ssetI ns).length < 64 then some (.list ((ssetI ns).map .int), true) else none
  | [.tuple xs] => (intsOf xs).bind fun ns => if ns.length ≤ 4000 ∧ (ssetI ns).length < 64 then some (.list ((ssetI ns).map .int), true) else none
  | _ => none
def bB_lrange : List D → Option (D × Bool)
  | [.int n] => if 0 ≤ n ∧ n ≤ 16777216 then some (.list ((List.range n.toNat).map fun i => .int (i : Nat)), true) else none
  | [.int a, .int b] => if 0 ≤ a ∧ a ≤ 16777216 ∧ 0 ≤ b ∧ b ≤ 16777216 then some (.list ((List.range (b - a).toNat).map fun i => .int (a + (i : Nat))), true) else none
  | _ => none
def bB_stri : List D → Option (D × Bool)
  | [.int i] => if i.natAbs.log2 < 1920 then some (.str (toString i), false) else none
  | _ => none
def bB_up : List D → Option (D × Bool)
  | [.str z] => if z.length ≤ 1000 then some (.str (PySem.Txt.upper z), false) else none
  | _ => none
def bB_slen : List D → Option (D × Bool)
  | [.list xs] => (intsOf xs).bind fun ns => if ns.length ≤ 4000 then some (.int ((ssetI ns).length : Nat), false) else none
  | [.tuple xs] => (intsOf xs).bind fun ns => if ns.length ≤ 4000 then some (.int ((ssetI ns).length : Nat), false) else none
  | _ => none
def bB_lenm : List D → Option (D × Bool)
  | [.tuple xs] => some (.list (xs.zipIdx.map fun p => .tuple [.int (p.2 : Nat), p.1]), true)
  | _ => none
def bB_trange : List D → Option (D × Bool)
  | [.int n] => if 0 ≤ n ∧ n ≤ 16777216 then some (.tuple ((List.range n.toNat).map fun i => .int (i : Nat)), false) else none
  | _ => none
def bB_srt : List D → Option (D × Bool)
  | [.list xs] => (srtD xs).map fun ys => (.list ys, true)
  | [.tuple xs] => (intsOf xs).map fun ns => (.list ((srtI ns).map .int), true)
  | _ => none
def bB_rev1 : List D → Option (D × Bool)
  | [.list xs] => some (.list xs.reverse, true)
  | [.tuple xs] => some (.tuple xs.reverse, false)
  | _ => none
def bB_cnt : List D → Option (D × Bool)
  | [.list xs, y] => if good 60 (.list xs) && good 60 y then some (.int ((xs.countP fun z => PyData.eqv z y : Nat) : Int), false) else none
  | [.tuple xs, y] => if good 60 (.list xs) && good 60 y then some (.int ((xs.countP fun z => PyData.eqv z y : Nat) : Int), false) else none
  | _ => none
def bB_idx : List D → Option (D × Bool)
  | [.list xs, .bool y] => (boolsOf xs).bind fun bs => if y ∈ bs then some (.int (bs.idxOf y : Nat), false) else none
  | [.list xs, .int y] => (intsOf xs).bind fun ns => if y ∈ ns then some (.int (ns.idxOf y : Nat), false) else none
  | _ => none
def bB_stp : List D → Option (D × Bool)
  | [x, y] => (seqD x).bind fun xs => if hardD y && decide (xs.length ≤ 1000) then some (.tuple (xs ++ [y]), false) else none
  | _ => none
def bB_stl : List D → Option (D × Bool)
  | [x, y] => (seqD x).bind fun xs => if hardD y && decide (xs.length ≤ 1000) then some (.list (xs ++ [y]), true) else none
  | _ => none
def bB_sth : List D → Option (D × Bool)
  | [y, x] => (seqD x).bind fun xs => if hardD y && decide (xs.length ≤ 1000) then some (.list (y :: xs), true) else none
  | _ => none
def bB_st3 : List D → Option (D × Bool)
  | [x, y, z] => (seqD x).bind fun xs => (seqD z).bind fun zs => if hardD y && (decide (xs.length ≤ 1000) && decide (zs.length ≤ 1000)) then some (.tuple (xs ++ (y :: zs)), false) else none
  | _ => none
def bltD (f : Bf) (xs : List D) : Option (D × Bool) := match f with
  | .len => bB_len xs
  | .all => bB_all xs
  | .any => bB_any xs
  | .sum => bB_sum xs
  | .max => bB_max xs
  | .min => bB_min xs
  | .tuple => bB_tuple xs
  | .list => bB_list xs
  | .repr => bB_repr xs
  | .int => bB_int xs
  | .sset => bB_sset xs
  | .lrange => bB_lrange xs
  | .stri => bB_stri xs
  | .up => bB_up xs
  | .slen => bB_slen xs
  | .lenm => bB_lenm xs
  | .trange => bB_trange xs
  | .srt => bB_srt xs
  | .rev1 => bB_rev1 xs
  | .cnt => bB_cnt xs
  | .idx => bB_idx xs
  | .stp => bB_stp xs
  | .stl => bB_stl xs
  | .sth => bB_sth xs
  | .st3 => bB_st3 xs
  | _ => none

def rd (s : S) (i : Nat) : Option (D × Bool) := (s.sl[i]?).bind id
def S.put (s : S) (i : Nat) (x : D × Bool) : S := { s with sl := s.sl.set i (some x) }
def S.freeze (s : S) (i : Nat) : S := { s with sl := s.sl.modify i fun o => o.map fun p => (p.1, false) }
def S.keep (s : S) : Tg → S
  | .slot i => s.freeze i
  | _ => s
def S.keeps (s : S) : List Tg → S
  | [] => s
  | t :: ts => (s.keep t).keeps ts
def Tg.own : Tg → Bool
  | .fresh => true
  | _ => false
def S.wipe (s : S) : List Nat → S
  | [] => s
  | i :: is => { (s.wipe is) with sl := (s.wipe is).sl.set i none }
def S.unowned (s : S) (is : List Nat) : Bool := is.all fun i => match rd s i with
  | some (_, true) => false
  | _ => true
def S.restore (s : S) (o : S) : List Nat → S
  | [] => s
  | i :: is => { (s.restore o is) with sl := (s.restore o is).sl.set i ((o.sl[i]?).bind id) }
/-- a pair whose second is a tuple -/
def pairT : D → Option (D × List D)
  | .tuple [d, .tuple ds] => some (d, ds)
  | _ => none
def S.bindT (s : S) : Tr → D → Option S
  | .v i, d => if i < s.sl.length then some (s.put i (d, false)) else none
  | .t is, .tuple ds => if is.length = ds.length ∧ (is.all fun i => decide (i < s.sl.length)) then some ((is.zip ds).foldl (fun s p => s.put p.1 (p.2, false)) s) else none
  | .n i is, d => (pairT d).bind fun q => if i < s.sl.length ∧ is.length = q.2.length ∧ (is.all fun i => decide (i < s.sl.length)) then some ((is.zip q.2).foldl (fun s p => s.put p.1 (p.2, false)) (s.put i (q.1, false))) else none
  | _, _ => none

/-- the 13 primes of the spreading -/
def prim (i : Int) : Int := ([2147483629, 2147483587, 2147483579, 2147483563, 2147483549, 2147483543, 2147483497, 2147483489, 2147483477, 2147483423, 2147483399, 2147483353, 2147483323] : List Int).getD i.toNat 1
def spreadF (c a : Int) : Int :=
  if 10 ^ 18 ≤ c then c else
  let u := (c % 1000000007 * (2 * a + 69069) + a * 40503 + 977) ^ 3 % prim (a % 13)
  let v := (u * (a + 3) + (c % 65537 + 5)) ^ 5 % prim ((a + 5) % 13)
  let w := (v + u % 1009 + a) ^ 3 % prim ((a + 7) % 13)
  (u * 2147483647 + v) * 2147483647 + w
def cellF (p : Pn) : Int :=
  if p.a < p.cells.length then p.cells.getD p.a.toNat 0
  else if 0 < p.cells.length then p.cells.getD ((p.a * 5 + 3) % p.cells.length).toNat 0 % (10 ^ 17 + p.a) else 0
def takeF (many : Int) (p : Pn) : Option (Int × Pn) :=
  if 0 < many ∧ many < 1073741824 ∧ 0 ≤ p.a ∧ p.a < 1073741824 then
    let q : Pn := if p.r < many then ⟨p.cells, p.a + 1, spreadF (cellF p) p.a⟩ else p
    some (q.r % many, ⟨q.cells, q.a, q.r / many⟩)
  else none
def FTake : Fn
  | [.dict [], .int n], some p => (takeF n p).map fun r => ((.int r.1, false), some r.2)
  | _, _ => none
/-- an item by a drawn number -/
def oneF (x y : D) (pn : Option Pn) : Option (D × Option Pn) :=
  match x, pn with
  | .dict [], some p => (itemsD y).bind fun ys => (takeF ys.length p).bind fun r => (ys[r.1.toNat]?).map fun d => (d, some r.2)
  | _, _ => none

inductive Fl where
  | nx | ret (d : D) (fr : Bool) | brk | cont

def lcGo (fi : S → Option (Bool × S)) (fe : S → Option ((D × Tg) × S)) (tg : Tr) : List D → S → Option (List D × S)
  | [], s => some ([], s)
  | x :: xs, s => do
    let s1 ← s.bindT tg x
    let (b, s2) ← fi s1
    if b then do
      let ((d, t), s3) ← fe s2
      let (ds, s4) ← lcGo fi fe tg xs ((s3.keep t).wipe tg.slots)
      some (d :: ds, s4)
    else lcGo fi fe tg xs (s2.wipe tg.slots)
def lcRun (fi : S → Option (Bool × S)) (fe : S → Option ((D × Tg) × S)) (tg : Tr) (xs : List D) (s : S) : Option (List D × S) :=
  if s.unowned tg.slots = true ∧ xs.length ≤ sizeLine then do
    let (ds, s1) ← lcGo fi fe tg xs (s.wipe tg.slots)
    some (ds, s1.restore s tg.slots)
  else none
def tupR (x : Option ((D × Tg) × S)) : Option (List D × S) := match x with
  | some ((.tuple xs, .fz), s1) => some (xs, s1)
  | _ => none
def tupV (x : Option ((D × Tg) × S)) : Option ((D × Tg) × S) := (tupR x).map fun q => ((.tuple q.1, .fz), q.2)
def boolD (x : Option ((D × Tg) × S)) : Option (Bool × S) := x.bind fun r => match r.1.1 with
  | .bool b => some (b, r.2)
  | _ => none

def pixD (j : Nat) (q : Pn) : Option D :=
  if j = 0 then some (.list (q.cells.map .int)) else if j = 1 then some (.int q.a) else if j = 2 then some (.int q.r) else none
def penSet (j : Nat) (n : Int) (q : Pn) : Option Pn :=
  if j = 1 then some { q with a := n } else if j = 2 then some { q with r := n } else none
def isPen : Option (D × Bool) → Bool
  | some (.dict [], false) => true
  | _ => false

def tbl : List (Str × Int) → Str → Option Int
  | [], _ => none
  | (k, v) :: r, z => if k = z then some v else tbl r z
def tabD (m : TabM) (tb : List (Str × Int)) (d : D) : Option D :=
  match d with
  | .str z => match m with
    | .get n => some (.int ((tbl tb z).getD n))
    | .mem => some (.bool (tbl tb z).isSome)
    | .ix => (tbl tb z).map PyData.int
  | _ => none
def tupD : D → Option (List D)
  | .tuple xs => some xs
  | _ => none
/-- a caught exception of the class c, which is at adr c -/
def excD (adr : Str → Nat) (c : Str) : D := .dict [(.int (adr c : Nat), .str c)]
/-- one that keeps a value under a name -/
def excK (adr : Str → Nat) (c f : Str) (d : D) : D := .dict [(.int (adr c : Nat), .str c), (.str f, d)]
def newXD (adr : Str → Nat) (c : Str) (f : Option Str) (d : D) : D := match f with
  | none => excD adr c
  | some f => excK adr c f d
def xatD (adr : Str → Nat) (names : List Str) (m : Str) : D → Option D
  | .dict [(.int C, .str c), (.str f, d)] => if c ∈ names ∧ C = (adr c : Nat) ∧ f = m then some d else none
  | _ => none
def isXD (adr : Str → Nat) (names : List Str) (sub : Str → Bool) : D → Option Bool
  | .dict [(.int C, .str c)] => if c ∈ names ∧ C = (adr c : Nat) then some (sub c) else none
  | .dict [(.int C, .str c), (.str _, _)] => if c ∈ names ∧ C = (adr c : Nat) then some (sub c) else none
  | _ => none
/-- a def as a value -/
def fnD (adr : Str → Nat) (x : Str) : D := .dict [(.int (adr x : Nat), .tuple [.str x])]
def isFn (adr : Str → Nat) (x : Str) : D → Bool
  | .dict [(.int c, .tuple [.str y])] => decide (c = (adr x : Nat)) && decide (y = x)
  | _ => false
theorem isFn_eq {adr : Str → Nat} {x : Str} {d : D} (h : isFn adr x d = true) : d = fnD adr x := by
  unfold isFn at h
  split at h
  · rw [Bool.and_eq_true, decide_eq_true_eq, decide_eq_true_eq] at h
    rw [h.1, h.2]; rfl
  · cases h
def fnOf {α : Type} (adr : Str → Nat) : List (Str × α) → D → Option α
  | [], _ => none
  | (x, a) :: r, d => if isFn adr x d = true then some a else fnOf adr r d
theorem fnOf_mem {α : Type} {adr : Str → Nat} {d : D} {a : α} : ∀ {l : List (Str × α)}, fnOf adr l d = some a → ∃ x, (x, a) ∈ l ∧ d = fnD adr x
  | (x, b) :: r, h => by
    unfold fnOf at h
    split at h
    · rename_i z
      cases h
      exact ⟨x, List.mem_cons_self .., isFn_eq z⟩
    · obtain ⟨y, h1, h2⟩ := fnOf_mem h
      exact ⟨y, List.mem_cons_of_mem _ h1, h2⟩
def look {α : Type} : List (Str × α) → Str → Option α
  | [], _ => none
  | (k, v) :: r, x => if k = x then some v else look r x
def tabFD (adr : Str → Nat) (ks : List (Str × Str)) : D → Option D
  | .str z => (look ks z).map (fnD adr)
  | _ => none
mutual
def evalE : IE → S → Option ((D × Tg) × S)
  | .var i, s => (rd s i).map fun p => ((p.1, if p.2 then .slot i else .fz), s)
  | .int n, s => some ((.int n, .fz), s)
  | .bool b, s => some ((.bool b, .fz), s)
  | .non, s => some ((.none, .fz), s)
  | .str x, s => some ((.str x, .fz), s)
  | .glob _ d, s => some ((d, .fz), s)
  | .bin op a b, s => do
    let (x, s1) ← evalE a s
    let (y, s2) ← evalE b s1
    let (d, fr) ← binD op x.1 y.1
    some ((d, if fr then .fresh else .fz), s2)
  | .neg a, s => do
    let (x, s1) ← evalE a s
    match x.1 with
    | .int i => some ((.int (-i), .fz), s1)
    | _ => none
  | .not a, s => do
    let (b, s1) ← boolD (evalE a s)
    some ((.bool (!b), .fz), s1)
  | .cmp op a b, s => do
    let (x, s1) ← evalE a s
    let (y, s2) ← evalE b s1
    let c ← cmpD op x.1 y.1
    some ((.bool c, .fz), s2)
  | .isN a, s => do
    let (x, s1) ← evalE a s
    some ((.bool (match x.1 with | .none => true | _ => false), .fz), s1)
  | .notN a, s => do
    let (x, s1) ← evalE a s
    some ((.bool (match x.1 with | .none => false | _ => true), .fz), s1)
  | .cmp2 o p a b c, s => do
    let (x, s1) ← evalE a s
    let (y, s2) ← evalE b s1
    let k ← cmpD o x.1 y.1
    if k then do
      let (z, s3) ← evalE c s2
      let m ← cmpD p y.1 z.1
      some ((.bool m, .fz), s3)
    else some ((.bool false, .fz), s2)
  | .and es, s => evalAnd es s
  | .or es, s => evalOr es s
  | .ite c a b, s => do
    let (k, s1) ← boolD (evalE c s)
    if k then evalE a s1 else evalE b s1
  | .tup es, s => do
    let (xs, s1) ← evalEs es s
    some ((.tuple (xs.map (·.1)), .fz), s1.keeps (xs.map (·.2)))
  | .lst es, s => do
    let (xs, s1) ← evalEs es s
    some ((.list (xs.map (·.1)), .fresh), s1.keeps (xs.map (·.2)))
  | .ix a b, s => do
    let (x, s1) ← evalE a s
    let (y, s2) ← evalE b s1
    let d ← ixD x.1 y.1
    some ((d, .fz), s2)
  | .sl a lo hi, s => do
    let (x, s1) ← evalE a s
    let (l, s2) ← evalO lo s1
    let (h, s3) ← evalO hi s2
    let (d, fr) ← slD x.1 l h
    some ((d, if fr then .fresh else .fz), s3)
  | .isi a t, s => do
    let (x, s1) ← evalE a s
    let b ← isiD t x.1
    some ((.bool b, .fz), s1)
  | .blt f es, s => do
    let (xs, s1) ← evalEs es s
    let (d, fr) ← bltD f (xs.map (·.1))
    some ((d, if fr then .fresh else .fz), s1)
  | .call _ F es, s => do
    let (xs, s1) ← evalEs es s
    let ((d, fr), pn) ← F (xs.map (·.1)) s1.pn
    if scal d then some ((d, .fz), { s1 with pn := pn })
    else some ((d, if fr then .fresh else .fz), { (s1.keeps (xs.map (·.2))) with pn := pn })
  | .one _ a b, s => do
    let (x, s1) ← evalE a s
    let (y, s2) ← evalE b s1
    let (d, pn) ← oneF x.1 y.1 s2.pn
    some ((d, .fz), { s2 with pn := pn })
  | .pix i j, s => if isPen (rd s i) then (s.pn.bind (pixD j)).map fun d => ((d, .fz), s) else none
  | .lc elt tg src ifs, s => do
    let ((items, _), s1) ← evalSr src s
    let (ds, s2) ← lcRun (evalAll ifs) (evalE elt) tg items s1
    some ((.list ds, .fresh), s2)
  | .isX _ adr names sub a, s => do
    let (x, s1) ← evalE a s
    let b ← isXD adr names sub x.1
    some ((.bool b, .fz), s1)
  | .attr _ _, _ => none
  | .cmp3 o p q a b c d, s => do
    let (x, s1) ← evalE a s
    let (y, s2) ← evalE b s1
    let k ← cmpD o x.1 y.1
    if k then do
      let (z, s3) ← evalE c s2
      let m ← cmpD p y.1 z.1
      if m then do
        let (u, s4) ← evalE d s3
        let j ← cmpD q z.1 u.1
        some ((.bool j, .fz), s4)
      else some ((.bool false, .fz), s3)
    else some ((.bool false, .fz), s2)
  | .tab m _ tb a, s => do
    let (x, s1) ← evalE a s
    let d ← tabD m tb x.1
    some ((d, .fz), s1)
  | .calS _ F n e, s => do
    let (x, s1) ← evalE e s
    let ds ← tupD x.1
    if ds.length = n then do
      let ((d, fr), pn) ← F ds s1.pn
      if scal d then some ((d, .fz), { s1 with pn := pn })
      else some ((d, if fr then .fresh else .fz), { s1 with pn := pn })
    else none
  | .fnv x adr, s => some ((fnD adr x, .fz), s)
  | .newX x adr f a, s => do
    let (y, s1) ← evalE a s
    some ((newXD adr x f y.1, .fz), s1.keep y.2)
  | .xat i m adr names, s => do
    let r ← rd s i
    let d ← xatD adr names m r.1
    some ((d, .fz), s)
  | .calL i adr fs es, s => do
    let p ← rd s i
    let F ← fnOf adr fs p.1
    let (xs, s1) ← evalEs es s
    let ((d, fr), pn) ← F (xs.map (·.1)) s1.pn
    if scal d then some ((d, .fz), { s1 with pn := pn })
    else some ((d, if fr then .fresh else .fz), { (s1.keeps (xs.map (·.2))) with pn := pn })
  | .calLS i adr fs e, s => do
    let p ← rd s i
    let F ← fnOf adr fs p.1
    let (x, s1) ← evalE e s
    let ds ← tupD x.1
    if ds.length = F.2 then do
      let ((d, fr), pn) ← F.1 ds s1.pn
      if scal d then some ((d, .fz), { s1 with pn := pn })
      else some ((d, if fr then .fresh else .fz), { s1 with pn := pn })
    else none
  | .tabF _ adr ks a, s => do
    let (x, s1) ← evalE a s
    let d ← tabFD adr ks x.1
    some ((d, .fz), s1)
def evalEs : IEs → S → Option (List (D × Tg) × S)
  | .nil, s => some ([], s)
  | .cons e es, s => do
    let (x, s1) ← evalE e s
    let (xs, s2) ← evalEs es s1
    some (x :: xs, s2)
def evalO : IO → S → Option (Option D × S)
  | .none, s => some (none, s)
  | .some e, s => do
    let (x, s1) ← evalE e s
    some (some x.1, s1)
def evalAnd : IEs → S → Option ((D × Tg) × S)
  | .nil, _ => none
  | .cons e es, s => do
    let (b, s1) ← boolD (evalE e s)
    match es with
    | .nil => some ((.bool b, .fz), s1)
    | .cons _ _ => if b then evalAnd es s1 else some ((.bool false, .fz), s1)
def evalOr : IEs → S → Option ((D × Tg) × S)
  | .nil, _ => none
  | .cons e es, s =>
    match tupR (evalE e s) with
    | none => do
      let (b, s1) ← boolD (evalE e s)
      match es with
      | .nil => some ((.bool b, .fz), s1)
      | .cons _ _ => if b then some ((.bool true, .fz), s1) else evalOr es s1
    | some (xs, s1) =>
      match es with
      | .nil => some ((.tuple xs, .fz), s1)
      | .cons _ _ => if xs.isEmpty then tupV (evalOr es s1) else some ((.tuple xs, .fz), s1)
def evalAll : IEs → S → Option (Bool × S)
  | .nil, s => some (true, s)
  | .cons e es, s => boolD (evalE e s)
def evalSr : Sr → S → Option ((List D × Tg) × S)
  | .seq e, s => do
    let (x, s1) ← evalE e s
    let xs ← itemsD x.1
    some ((xs, x.2), s1)
  | .enum e, s => do
    let (x, s1) ← evalE e s
    let xs ← itemsD x.1
    some ((xs.zipIdx.map fun p => .tuple [.int (p.2 : Nat), p.1], x.2), s1)
  | .zip a b, s => do
    let (x, s1) ← evalE a s
    let (y, s2) ← evalE b s1
    let xs ← itemsD x.1
    let ys ← itemsD y.1
    if kin x.1 y.1 then some ((List.zipWith (fun u v => .tuple [u, v]) xs ys, .fz), (s2.keep x.2).keep y.2) else none
  | .rng a, s => do
    let (x, s1) ← evalE a s
    match x.1 with
    | .int n => if -(2 ^ 62) ≤ n ∧ n < 2 ^ 62 then some (((List.range n.toNat).map fun i => .int (i : Nat), .fz), s1) else none
    | _ => none
  | .rng2 a b, s => do
    let (x, s1) ← evalE a s
    let (y, s2) ← evalE b s1
    match x.1, y.1 with
    | .int m, .int n => if -(2 ^ 62) ≤ m ∧ m < 2 ^ 62 ∧ -(2 ^ 62) ≤ n ∧ n < 2 ^ 62 then some (((List.range (n - m).toNat).map fun i => .int (m + (i : Nat)), .fz), s2) else none
    | _, _ => none
  | .rng3 a b c, s => do
    let (x, s1) ← evalE a s
    let (y, s2) ← evalE b s1
    let (z, s3) ← evalE c s2
    match x.1, y.1, z.1 with
    | .int i, .int j, .int k => if k ≠ 0 ∧ k.natAbs < 1073741824 ∧ Builtin.Range.small i j k = true ∧ 0 ≤ Builtin.Range.rangeSize i j k then some (((List.range (Builtin.Range.rangeSize i j k).toNat).map fun n => .int (i + (n : Nat) * k), .fz), s3) else none
    | _, _, _ => none
end

def wGo (fc : S → Option (Bool × S)) (fb : S → Option (Fl × S)) : Nat → S → Option (Fl × S)
  | 0, _ => none
  | n + 1, s => do
    let (b, s1) ← fc s
    if b then do
      let (f, s2) ← fb s1
      match f with
      | .nx => wGo fc fb n s2
      | .cont => wGo fc fb n s2
      | .brk => some (.nx, s2)
      | .ret d fr => some (.ret d fr, s2)
    else some (.nx, s1)
def fGo (tg : Tr) (fb : S → Option (Fl × S)) : List D → S → Option (Fl × S)
  | [], s => some (.nx, s)
  | x :: xs, s => do
    let s1 ← s.bindT tg x
    let (f, s2) ← fb s1
    match f with
    | .nx => fGo tg fb xs s2
    | .cont => fGo tg fb xs s2
    | .brk => some (.nx, s2)
    | .ret d fr => some (.ret d fr, s2)
def S.puts (s : S) : List Nat → List (D × Tg) → S
  | i :: is, (d, t) :: xs => (s.put i (d, t.own)).puts is xs
  | _, _ => s

mutual
def evalS : IS → S → Option (Fl × S)
  | .set i e, s => do
    let ((d, t), s1) ← evalE e s
    if i < s1.sl.length then some (.nx, (s1.keep t).put i (d, t.own)) else none
  | .setLc i elt tg src ifs, s => do
    let ((items, _), s1) ← evalSr src s
    let (ds, s2) ← lcRun (evalAll ifs) (evalE elt) tg items s1
    if i < s2.sl.length then some (.nx, s2.put i (.list ds, true)) else none
  | .setT is e, s => do
    let ((d, _), s1) ← evalE e s
    let s2 ← s1.bindT (.t is) d
    some (.nx, s2)
  | .set2 is es, s => do
    let (xs, s1) ← evalEs es s
    if is.length = xs.length ∧ (is.all fun i => decide (i < s1.sl.length)) then some (.nx, (s1.keeps (xs.map (·.2))).puts is xs) else none
  | .setIx i k e, s => do
    let _ ← rd s i
    let ((d, t), s1) ← evalE e s
    let ((kd, _), s2) ← evalE k (s1.keep t)
    match rd s2 i, kd with
    | some (.list xs, true), .int n => (ixN xs.length n).map fun j => (.nx, s2.put i (.list (xs.set j d), true))
    | _, _ => none
  | .pset i j e, s => do
    let ((d, _), s1) ← evalE e s
    match isPen (rd s i), d with
    | true, .int n => (s1.pn.bind (penSet j n)).map fun q => (.nx, { s1 with pn := some q })
    | _, _ => none
  | .aug op i e, s => do
    let p ← rd s i
    let ((d, _), s1) ← evalE e s
    match op, p.1, d with
    | .Add, .int a, .int b => if i < s1.sl.length then some (.nx, s1.put i (.int (a + b), false)) else none
    | .Sub, .int a, .int b => if i < s1.sl.length then some (.nx, s1.put i (.int (a - b), false)) else none
    | _, _, _ => none
  | .app i e, s => do
    let p ← rd s i
    let ((d, t), s1) ← evalE e s
    match p.2, rd (s1.keep t) i with
    | true, some (.list xs, true) => if xs.length < sizeLine then some (.nx, (s1.keep t).put i (.list (xs ++ [d]), true)) else none
    | _, _ => none
  | .ins i k e, s => do
    let p ← rd s i
    let ((kd, _), s0) ← evalE k s
    let ((d, t), s1) ← evalE e s0
    match p.2, rd (s1.keep t) i, kd with
    | true, some (.list xs, true), .int n => if xs.length < sizeLine ∧ 0 ≤ n ∧ n < 2 ^ 63 then some (.nx, (s1.keep t).put i (.list (xs.take n.toNat ++ [d] ++ xs.drop n.toNat), true)) else none
    | _, _, _ => none
  | .pop j i k, s => do
    let p ← rd s i
    let ((kd, _), s1) ← evalE k s
    match p.2, rd s1 i, kd with
    | true, some (.list xs, true), .int n => (ixN xs.length n).bind fun m => (xs[m]?).bind fun d => if j < s1.sl.length ∧ xs.length < 1000 then some (.nx, (s1.put i (.list (xs.eraseIdx m), true)).put j (d, false)) else none
    | _, _, _ => none
  | .ext i e, s => do
    let p ← rd s i
    let ((d, t), s1) ← evalE e s
    match p.2, rd (s1.keep t) i, d with
    | true, some (.list xs, true), .list ys => if xs.length + ys.length ≤ sizeLine then some (.nx, (s1.keep t).put i (.list (xs ++ ys), true)) else none
    | _, _, _ => none
  | .rev i, s => match rd s i with
    | some (.list xs, true) => some (.nx, s.put i (.list xs.reverse, true))
    | _ => none
  | .expr e, s => do
    let (_, s1) ← evalE e s
    some (.nx, s1)
  | .ite c a b, s => do
    let (k, s1) ← boolD (evalE c s)
    if k then evalSs a s1 else evalSs b s1
  | .for tg src body, s => do
    let ((items, t), s1) ← evalSr src s
    fGo tg (evalSs body) items (s1.keep t)
  | .while n c body, s => wGo (fun s => boolD (evalE c s)) (evalSs body) n s
  | .ret e, s => do
    let ((d, t), s1) ← evalE e s
    some (.ret d (match t with | .fz => false | .fresh => true | .slot i => match rd s1 i with | some (_, true) => true | _ => false), s1)
  | .retN, s => some (.ret .none false, s)
  | .pass, s => some (.nx, s)
  | .brk, s => some (.brk, s)
  | .cont, s => some (.cont, s)
  | .never, _ => none
def evalSs : ISs → S → Option (Fl × S)
  | .nil, s => some (.nx, s)
  | .cons a b, s => do
    let (f, s1) ← evalS a s
    match f with
    | .nx => evalSs b s1
    | f => some (f, s1)
end

def start (n : Nat) (ds : List D) (pn : Option Pn) : S := ⟨ds.map (fun d => some (d, false)) ++ List.replicate (n - ds.length) none, pn⟩
/-- what a def with n slots and this body does -/
def runF (n : Nat) (body : ISs) : Fn := fun ds pn => (evalSs body (start n ds pn)).bind fun r => match r.1 with
  | .ret d fr => some ((d, fr), r.2.pn)
  | .nx => some ((.none, false), r.2.pn)
  | _ => none
end Fs

set_option Elab.async false
set_option linter.all false
set_option maxRecDepth 100000
set_option maxHeartbeats 4000000
namespace Fs
theorem insI_perm (n : Int) : ∀ l, (insI n l).Perm (n :: l)
  | [] => List.Perm.refl _
  | m :: r => by
    rw [insI]
    split
    · exact List.Perm.refl _
    · exact ((insI_perm n r).cons m).trans (List.Perm.swap n m r)
theorem srt_perm : ∀ l, (srtI l).Perm l
  | [] => List.Perm.refl _
  | n :: l => (insI_perm n (srtI l)).trans ((srt_perm l).cons n)
theorem insI_up {n : Int} : ∀ {l : List Int}, l.Pairwise (· ≤ ·) → (insI n l).Pairwise (· ≤ ·)
  | [], _ => by simp [insI]
  | m :: r, h => by
    rw [insI]
    rw [List.pairwise_cons] at h
    split
    · rename_i z
      rw [List.pairwise_cons, List.pairwise_cons]
      refine ⟨fun x hx => ?_, h⟩
      rcases List.mem_cons.mp hx with rfl | hx
      · exact z
      · exact Int.le_trans z (h.1 x hx)
    · rename_i z
      rw [List.pairwise_cons]
      refine ⟨fun x hx => ?_, insI_up h.2⟩
      rcases List.mem_cons.mp ((insI_perm n r).mem_iff.mp hx) with rfl | hx
      · omega
      · exact h.1 x hx
theorem srt_up : ∀ l, (srtI l).Pairwise (· ≤ ·)
  | [] => List.Pairwise.nil
  | n :: l => insI_up (srt_up l)
theorem up_uniq : ∀ {a b : List Int}, a.Perm b → a.Pairwise (· ≤ ·) → b.Pairwise (· ≤ ·) → a = b
  | [], b, p, _, _ => (List.Perm.nil_eq p)
  | x :: a, [], p, _, _ => by have := p.length_eq; simp at this
  | x :: a, y :: b, p, ha, hb => by
    rw [List.pairwise_cons] at ha hb
    have h1 : x = y := by
      have m1 := p.mem_iff.mp (List.mem_cons_self (a := x) (l := a))
      have m2 := p.mem_iff.mpr (List.mem_cons_self (a := y) (l := b))
      rcases List.mem_cons.mp m1 with e | m1
      · exact e
      rcases List.mem_cons.mp m2 with e | m2
      · exact e.symm
      have := hb.1 x m1
      have := ha.1 y m2
      omega
    subst h1
    rw [up_uniq (List.Perm.cons_inv p) ha.2 hb.2]
theorem srt_of {a b : List Int} (p : b.Perm a) (h : b.Pairwise (· ≤ ·)) : b = srtI a := up_uniq (p.trans (srt_perm a).symm) h (srt_up a)
theorem srt_mem {n : Int} {l : List Int} : n ∈ srtI l ↔ n ∈ l := (srt_perm l).mem_iff
theorem srt_len {l : List Int} : (srtI l).length = l.length := (srt_perm l).length_eq
theorem srt_nodup {l : List Int} (h : l.Nodup) : (srtI l).Pairwise (· < ·) := by
  have h1 := srt_up l
  have h2 : (srtI l).Nodup := (srt_perm l).nodup_iff.mpr h
  have : ∀ {l : List Int}, l.Pairwise (· ≤ ·) → l.Nodup → l.Pairwise (· < ·) := by
    intro l
    induction l with
    | nil => intro _ _; exact List.Pairwise.nil
    | cons x r ih =>
      intro a b
      rw [List.pairwise_cons] at a
      rw [List.nodup_cons] at b
      rw [List.pairwise_cons]
      refine ⟨fun y hy => ?_, ih a.2 b.2⟩
      have := a.1 y hy
      have : x ≠ y := fun e => b.1 (e ▸ hy)
      omega
  exact this h1 h2

theorem leP_iff {p q : Int × Int} : leP p q = true ↔ p.1 < q.1 ∨ (p.1 = q.1 ∧ p.2 ≤ q.2) := by
  unfold leP
  rw [Bool.or_eq_true, Bool.and_eq_true, decide_eq_true_iff, decide_eq_true_iff, decide_eq_true_iff]
theorem insP_perm (p : Int × Int) : ∀ l, (insP p l).Perm (p :: l)
  | [] => List.Perm.refl _
  | q :: r => by
    rw [insP]
    split
    · exact List.Perm.refl _
    · exact ((insP_perm p r).cons q).trans (List.Perm.swap p q r)
theorem srtP_perm : ∀ l, (srtP l).Perm l
  | [] => List.Perm.refl _
  | n :: l => (insP_perm n (srtP l)).trans ((srtP_perm l).cons n)
theorem leP_trans {a b c : Int × Int} (h1 : leP a b = true) (h2 : leP b c = true) : leP a c = true := by
  rw [leP_iff] at *
  omega
theorem insP_up {p : Int × Int} : ∀ {l : List (Int × Int)}, l.Pairwise (fun a b => leP a b = true) → (insP p l).Pairwise (fun a b => leP a b = true)
  | [], _ => by simp [insP]
  | m :: r, h => by
    rw [insP]
    rw [List.pairwise_cons] at h
    split
    · rename_i z
      rw [List.pairwise_cons, List.pairwise_cons]
      refine ⟨fun x hx => ?_, h⟩
      rcases List.mem_cons.mp hx with rfl | hx
      · exact z
      · exact leP_trans z (h.1 x hx)
    · rename_i z
      rw [List.pairwise_cons]
      refine ⟨fun x hx => ?_, insP_up h.2⟩
      rcases List.mem_cons.mp ((insP_perm p r).mem_iff.mp hx) with rfl | hx
      · rw [leP_iff] at *
        omega
      · exact h.1 x hx
theorem srtP_up : ∀ l, (srtP l).Pairwise (fun a b => leP a b = true)
  | [] => List.Pairwise.nil
  | n :: l => insP_up (srtP_up l)
theorem upP_uniq : ∀ {a b : List (Int × Int)}, a.Perm b → a.Pairwise (fun a b => leP a b = true) → b.Pairwise (fun a b => leP a b = true) → a = b
  | [], b, p, _, _ => (List.Perm.nil_eq p)
  | x :: a, [], p, _, _ => by have := p.length_eq; simp at this
  | x :: a, y :: b, p, ha, hb => by
    rw [List.pairwise_cons] at ha hb
    have h1 : x = y := by
      have m1 := p.mem_iff.mp (List.mem_cons_self (a := x) (l := a))
      have m2 := p.mem_iff.mpr (List.mem_cons_self (a := y) (l := b))
      rcases List.mem_cons.mp m1 with e | m1
      · exact e
      rcases List.mem_cons.mp m2 with e | m2
      · exact e.symm
      have h1 := leP_iff.mp (hb.1 x m1)
      have h2 := leP_iff.mp (ha.1 y m2)
      exact Prod.ext (by omega) (by omega)
    subst h1
    rw [upP_uniq (List.Perm.cons_inv p) ha.2 hb.2]
theorem srtP_of {a b : List (Int × Int)} (p : b.Perm a) (h : b.Pairwise (fun a b => leP a b = true)) : b = srtP a := upP_uniq (p.trans (srtP_perm a).symm) h (srtP_up a)
theorem pairsOf_some : ∀ {xs : List D} {ps : List (Int × Int)}, pairsOf xs = some ps → xs = ps.map pairD
  | [], ps, h => by cases h; rfl
  | x :: xs, ps, h => by
    unfold pairsOf at h
    split at h
    · rename_i e; cases e
    · rename_i a b r e
      cases e
      obtain ⟨qs, h1, rfl⟩ := Option.map_eq_some_iff.mp h
      rw [pairsOf_some h1]; rfl
    · cases h
end Fs

set_option Elab.async false
set_option linter.all false
set_option maxRecDepth 100000
set_option maxHeartbeats 4000000
namespace Ku
open Fs (srt_perm srt_up srt_of srt_mem srt_len srt_nodup)
abbrev Sd := List (Int × Int)
def has (sd : Sd) (n : Int) : Bool := sd.any fun p => decide (p.1 = n)
def put (sd : Sd) (n k : Int) : Sd := if has sd n = true then sd.map (fun p => if p.1 = n then (p.1, k) else p) else sd ++ [(n, k)]
def on (sd : Sd) (k : Int) : List Int := (sd.filter fun p => decide (p.2 = k)).map (·.1)
structure Cfg where
  ks : Int → List Int
  cap : Int → Int
abbrev Rs := Option (Bool × Sd × List Int)
def goOn (rec : Int → Sd → List Int → Rs) : List Int → Sd → List Int → Rs
  | [], sd, tr => some (false, sd, tr)
  | o :: os, sd, tr => (rec o sd tr).bind fun r => if r.1 = true then some r else goOn rec os r.2.1 r.2.2
def goKs (cap : Int → Int) (rec : Int → Sd → List Int → Rs) (n : Int) : List Int → Sd → List Int → Rs
  | [], sd, tr => some (false, sd, tr)
  | k :: ks, sd, tr => if k ∈ tr then goKs cap rec n ks sd tr else
      if ((on sd k).length : Int) < cap k then some (true, put sd n k, tr ++ [k])
      else (goOn rec (on sd k) sd (tr ++ [k])).bind fun r => if r.1 = true then some (true, put r.2.1 n k, r.2.2) else goKs cap rec n ks r.2.1 r.2.2
def place (C : Cfg) : Nat → Int → Sd → List Int → Rs
  | 0, _, _, _ => none
  | j + 1, n, sd, tr => goKs C.cap (place C j) n (C.ks n) sd tr
abbrev srt (ns : List Int) : List Int := Fs.srtI ns
def beside (sd : Sd) (tr : List Int) : List Int := (sd.filter fun p => decide (p.2 ∈ tr)).map (·.1)
def keys (sd : Sd) : List Int := sd.map (·.1)
def at_ (sd : Sd) (n : Int) : Option Int := (sd.find? fun p => decide (p.1 = n)).map (·.2)
theorem has_iff {sd : Sd} {n : Int} : has sd n = true ↔ n ∈ keys sd := by
  unfold has keys
  rw [List.any_eq_true, List.mem_map]
  constructor
  · rintro ⟨p, h1, h2⟩; exact ⟨p, h1, of_decide_eq_true h2⟩
  · rintro ⟨p, h1, h2⟩; exact ⟨p, h1, decide_eq_true h2⟩
theorem put_keys {sd : Sd} {n k m : Int} : m ∈ keys (put sd n k) ↔ m = n ∨ m ∈ keys sd := by
  unfold put
  by_cases z : has sd n = true
  · rw [if_pos z]
    have e : keys (sd.map (fun p => if p.1 = n then (p.1, k) else p)) = keys sd := by
      unfold keys
      rw [List.map_map]
      refine List.map_congr_left fun p _ => ?_
      show (if p.1 = n then (p.1, k) else p).1 = p.1
      split <;> rfl
    rw [e]
    constructor
    · exact .inr
    · rintro (rfl | h)
      · exact has_iff.mp z
      · exact h
  · rw [if_neg z]
    unfold keys
    rw [List.map_append, List.mem_append]
    simp only [List.map_cons, List.map_nil, List.mem_singleton]
    exact Or.comm
theorem put_nodup {sd : Sd} {n k : Int} (h : (keys sd).Nodup) : (keys (put sd n k)).Nodup := by
  unfold put
  by_cases z : has sd n = true
  · rw [if_pos z]
    have e : keys (sd.map (fun p => if p.1 = n then (p.1, k) else p)) = keys sd := by
      unfold keys
      rw [List.map_map]
      refine List.map_congr_left fun p _ => ?_
      show (if p.1 = n then (p.1, k) else p).1 = p.1
      split <;> rfl
    rw [e]; exact h
  · rw [if_neg z]
    unfold keys
    rw [List.map_append]
    refine List.nodup_append.mpr ⟨h, by simp, ?_⟩
    intro a ha b hb e
    simp only [List.map_cons, List.map_nil, List.mem_singleton] at hb
    subst e hb
    exact z (has_iff.mpr ha)
def cnt (sd : Sd) (k : Int) : Nat := (on sd k).length
def ind (p : Prop) [Decidable p] : Nat := if p then 1 else 0
end Ku

set_option Elab.async false
set_option linter.all false
set_option maxRecDepth 100000
set_option maxHeartbeats 4000000
namespace Ku
open Fs (srt_perm srt_up srt_of srt_mem srt_len srt_nodup)
/-- each seated claim sits on one of its kinds -/
structure Sits (C : Cfg) (sd : Sd) : Prop where
  nd : (keys sd).Nodup
  kd : ∀ m k, at_ sd m = some k → k ∈ C.ks m
structure Won (C : Cfg) (n : Int) (sd : Sd) (tr : List Int) (sd' : Sd) : Prop where
  si : Sits C sd'
  ky : ∀ m, m ∈ keys sd' ↔ m = n ∨ m ∈ keys sd
  stay : ∀ m k, m ≠ n → k ∈ tr → at_ sd m = some k → at_ sd' m = some k
  away : ∃ k, at_ sd' n = some k ∧ k ∉ tr
  ct : ∃ kf, ((cnt sd kf : Nat) : Int) < C.cap kf ∧ ∀ k, cnt sd' k + ind (at_ sd n = some k) = cnt sd k + ind (kf = k)
structure Lost (C : Cfg) (ks : List Int) (sd : Sd) (tr tr' : List Int) : Prop where
  sub : ∀ k, k ∈ tr → k ∈ tr'
  own : ∀ k, k ∈ ks → k ∈ tr'
  full : ∀ k, k ∈ tr' → k ∉ tr → C.cap k ≤ ((cnt sd k : Nat) : Int) ∧ ∀ o, at_ sd o = some k → ∀ x, x ∈ C.ks o → x ∈ tr'
  nd : tr.Nodup → tr'.Nodup
  fr : ∀ k, k ∈ tr' → k ∈ tr ∨ ∃ n, k ∈ C.ks n
theorem Won.mono {C : Cfg} {n : Int} {sd sd' : Sd} {tr tr' : List Int} (h : Won C n sd tr' sd') (s : ∀ k, k ∈ tr → k ∈ tr') : Won C n sd tr sd' :=
  ⟨h.si, h.ky, fun m k a b c => h.stay m k a (s k b) c, by obtain ⟨k, a, b⟩ := h.away; exact ⟨k, a, fun z => b (s k z)⟩, h.ct⟩
theorem Lost.refl {C : Cfg} {sd : Sd} {tr : List Int} : Lost C [] sd tr tr := ⟨fun _ h => h, fun _ h => by simp at h, fun _ h n => absurd h n, fun h => h, fun _ h => .inl h⟩
/-- what a call for a claim answers -/
structure Good (C : Cfg) (n : Int) (sd : Sd) (tr : List Int) (r : Bool × Sd × List Int) : Prop where
  won : r.1 = true → Won C n sd tr r.2.1
  lost : r.1 = false → r.2.1 = sd ∧ Lost C (C.ks n) sd tr r.2.2
section
variable {C : Cfg} {rec : Int → Sd → List Int → Rs}
end
def left (U tr : List Int) : Nat := (U.filter fun k => decide (k ∉ tr)).length
section
variable {C : Cfg} {rec : Int → Sd → List Int → Rs} {U : List Int} {m : Nat}
end
def sumC (cap : Int → Int) (T : List Int) : Int := (T.map cap).sum
structure Seated (C : Cfg) (ns : List Int) (sd : Sd) : Prop where
  si : Sits C sd
  ky : ∀ m, m ∈ keys sd ↔ m ∈ ns
  ct : ∀ k, ((cnt sd k : Nat) : Int) ≤ C.cap k
structure Short (C : Cfg) (ns S : List Int) : Prop where
  up : S.Pairwise (· < ·)
  sub : ∀ m ∈ S, m ∈ ns
  ex : ∃ T : List Int, T.Nodup ∧ (∀ m ∈ S, ∀ k ∈ C.ks m, k ∈ T) ∧ ((S.length : Nat) : Int) = sumC C.cap T + 1 ∧ (∀ k ∈ T, ∃ n, k ∈ C.ks n)
end Ku

set_option Elab.async false
set_option linter.all false
set_option maxRecDepth 100000
set_option maxHeartbeats 4000000
namespace Ku
open Fs (srt_perm srt_up srt_of srt_mem srt_len srt_nodup)
structure SdI (ok : Int → Prop) (sd : Sd) : Prop where
  nd : (keys sd).Nodup
  ok : ∀ m ∈ keys sd, ok m
structure TrI (T : Int → Prop) (tr : List Int) : Prop where
  nd : tr.Nodup
  ok : ∀ k ∈ tr, T k
theorem SdI.put {ok : Int → Prop} {sd : Sd} {n k : Int} (h : SdI ok sd) (hn : ok n) : SdI ok (put sd n k) :=
  ⟨put_nodup h.nd, fun m hm => by
    rcases put_keys.mp hm with e | e
    · rw [e]; exact hn
    · exact h.ok m e⟩
section
variable {ok T : Int → Prop} {rec : Int → Sd → List Int → Rs}
end
/-- different numbers within bounds -/
theorem nodup_sub : ∀ {a b : List Int}, a.Nodup → (∀ x ∈ a, x ∈ b) → a.length ≤ b.length
  | [], _, _, _ => Nat.zero_le _
  | x :: a, b, h, s => by
    rw [List.nodup_cons] at h
    have h1 := nodup_sub (a := a) (b := b.erase x) h.2 fun y hy => by
      have : y ≠ x := fun e => h.1 (e ▸ hy)
      exact (List.mem_erase_of_ne this).mpr (s y (List.mem_cons_of_mem _ hy))
    have h2 := s x (by simp)
    have h3 := List.length_erase_of_mem h2
    have h4 := List.length_pos_of_mem h2
    simp only [List.length_cons]
    omega
theorem nodup_len {a : List Int} {N : Nat} (h : a.Nodup) (s : ∀ x ∈ a, 0 ≤ x ∧ x < N) : a.length ≤ N := by
  have := nodup_sub (b := (List.range N).map fun i : Nat => (i : Int)) h fun x hx => by
    obtain ⟨h1, h2⟩ := s x hx
    rw [List.mem_map]
    exact ⟨x.toNat, List.mem_range.mpr (by omega), by omega⟩
  simpa using this
/-- the claims whose kinds are all within K -/
def within (C : Cfg) (ns K : List Int) : List Int := ns.filter fun m => (C.ks m).all fun k => decide (k ∈ K)
end Ku

set_option Elab.async false
set_option linter.all false
set_option maxRecDepth 100000
set_option maxHeartbeats 4000000
namespace Fs
open PySem PySem.Spec PyProof.Rows L2 SrtO
def rSortedTI (K : PySem.W.Frag) : List V → Hp → VK → Prop := fun vs H Q => ∃ (a : Addr) (ns : List Int), vs = [V.ref a] ∧ SqT K H a (ns.map V.int) ∧
  ∀ (ns' : List Int) (p : Addr), ns'.Perm ns → ns'.Pairwise (· ≤ ·) → H p = none → Q (.ref p) (upd H p (.lst (ns'.map V.int)))
section
variable {X : Cx}
theorem cr_sortedTI : CallR X (.builtin "sorted") (rSortedTI X.K) := by
  intro pins s σ H vs us Q I r h
  obtain ⟨a, ns, rfl, hs, q⟩ := h
  obtain ⟨its, rv, ⟨o, ho, hc, n, hd⟩, hz⟩ := I.tuple hs
  rw [Vals.ref1 r]
  have hi := rv.ints
  have hl := rv.length
  have hz2 : its.length ≤ sizeLine := by rw [← hl]; exact hz
  refine Calls.call_function_entry kind_sorted plain_sorted entry_sorted (args_sorted1 _) ?_
  unfold Builtin.«sorted»
  refine wpAny_bind (m := checkCount "sorted" 1 1 _) (wpAny_pure ?_)
  refine wpAny_bind (wpAny_collect_seq a (.inr rfl) ho hc hd (fun h' hk => ?_) (by rw [List.size_toArray]; exact hz2))
  have et : its.toArray.toList = its := by simp
  rw [et]
  refine wpAny_bind (wpAny_newList ?_ hz2)
  have hoL : (h'.push (seqObj "list" its.toArray 0)).get? h'.objs.size = some (seqObj "list" its.toArray 0) := Heap.get?_push_size _ rfl
  refine wpAny_bind (wpAny_holding (wpAny_call_entry slot_list_sort ⟨_, hoL, rfl⟩ entry_list_sort (list_sort_ord SrtO.swo_int hoL hz2 (fun h2 => SrtO.ints_sortable hi h2) fun out h1 h2 => ⟨_, rfl, ?_⟩) (args_list_sort _)))
  refine wpAny_pure ⟨_, rfl, ?_⟩
  obtain ⟨k1, k2, k3⟩ := SrtO.ints_out hi h1 h2
  obtain ⟨ep, he'⟩ := PyProof.Rows.sortedHeap_at (vs := its) (out := out.toArray) hoL
  have hlen : ((out.map SrtO.iv).map V.int).length ≤ sizeLine := by
    rw [List.length_map, k2.length_eq]
    rw [List.length_map] at hz
    exact hz
  have I1 := I.kept (t' := s.toks) hk
  refine ⟨.ref _, upd H h'.objs.size (.lst ((out.map SrtO.iv).map V.int)), I1.laid (t' := s.toks) (fun b u hb => ?_) (Nat.le_refl _) ⟨hlen, out, ep, vals_of_ints k1, he'⟩, rfl, q _ _ k2 k3 (I1.hok.fresh (Nat.le_refl _))⟩
  have hb : h'.get? b = some u := hb
  rw [PyProof.Rows.sortedHeap_old (Nat.ne_of_lt (Heap.lt_size hb)) (Heap.lt_size (Heap.get?_push_of_some _ hb))]
  exact Heap.get?_push_of_some _ hb
end
end Fs

set_option Elab.async false
set_option linter.all false
namespace Fs
open PySem L2
@[irreducible] def lawTabs : List NdefX.NTab := []
def TabsL (T : List NdefX.NTab) (H : Hp) : Prop := T = lawTabs ∧ NdefX.TabsN T H
end Fs

set_option Elab.async false
set_option linter.all false
set_option maxRecDepth 100000
set_option maxHeartbeats 4000000
namespace Fs
open PySem PySem.Spec PySem.Calls PySem.W PyProof.Rows L2
section
variable {prog : Program} {w : World} {A : Around} {E : Value → Shared → Prop} {s : Shared} {K : PySem.W.Frag} {x D : Addr} {ox : Obj} {od : Option Obj}
theorem findObj_dataD {C : Addr} {name : Str} {a g : Value} (hc : (clsIn K C).isSome = true) (ha : findIn K (.ref C) name = some (some a)) (hg : specialIn K a "__get__" = some (some g)) (ht : takesIn K a = some true) : findObj K C od name = some (.bind g a) := by
  obtain ⟨cd, hc⟩ := Option.isSome_iff_exists.mp hc
  unfold findObj
  rw [hc, Option.bind_some, ha, Option.bind_some]
  simp [hg, ht]
theorem kin_classD {Q : Option Value → Shared → Prop} (hga : findIn K (.ref D) "__getattribute__" = some (some (.builtin "BaseException.__getattribute__"))) (hgt : findIn K (.ref D) "__getattr__" = some none) (hsub : subIn K (.ref D) (.type "BaseException") = some true)
    (hdct : hasDictIn K D = true) (ha : findIn K (.ref D) "__class__" = some (some (.builtin "object.__class__")))
    (hn : specialIn K (.builtin "object.__class__") "__get__" = some (some (.builtin "getset_descriptor.__get__"))) (htk : takesIn K (.builtin "object.__class__") = some true) (hm : mroIn K D (.type "object") = some true)
    (X : K.In s.heap) (I : InstAt s.heap x ox D od) (h : Q (some (.ref D)) { s with toks := s.toks + 1 }) : wpAny (model prog w) A (getAttr? (.ref x) "__class__") Q E s := by
  have hf : findObj K D od "__class__" = some (.bind (.builtin "getset_descriptor.__get__") (.builtin "object.__class__")) := findObj_dataD (by obtain ⟨cd, hc, _⟩ := any_some hdct; rw [hc]; rfl) ha hn htk
  obtain ⟨hp, g, d, t, os⟩ := s
  have L0 := I.type (M := model prog w)
  have L1 := looks_findIn (M := model prog w) X hga
  have L2 := looks_findIn (M := model prog w) X hgt
  have L3 := looks_find (M := model prog w) X I hf
  have sub : Looks (model prog w) hp (isInstance (.ref x) (.type "BaseException")) true := L0.andThen (looks_subIn X hsub)
  have hx0 : (false && onTheHeap (Value.builtin "BaseException.__getattribute__")) = false := rfl
  have hx2 : (Value.builtin "BaseException.__getattribute__" == Value.builtin "object.__getattribute__") = false := by decide +kernel
  have hx1 : (onTheHeap (Value.ref D) && Value.builtin "BaseException.__getattribute__" == Value.builtin "object.__getattribute__") = false := by rw [hx2]; rfl
  unfold getAttr? getAttrBy? getAttrBy
  refine wpAny_bind (wpAny_mkText (wpAny_bind (wpAny_attempt (wpAny_holding (wpAny_bind (L0.at (wpAny_bind (L1.at ?_))))))))
  show wpAny _ _ (if (onTheHeap (Value.ref D) && Value.builtin "BaseException.__getattribute__" == Value.builtin "object.__getattribute__") = true then _ else _) _ _ _
  rw [hx1, if_neg Bool.false_ne_true]
  unfold getAttrByItsOwn hookBefore
  refine wpAny_bind ?_
  rw [if_pos (show onTheHeap (Value.ref D) = true from rfl)]
  refine L2.at ?_
  refine wpAny_bind (wpAny_attempt (wpAny_holding ?_))
  unfold callGetattribute
  rw [hx0, if_neg Bool.false_ne_true]
  unfold boundAndCalled
  rw [PySem.F.excAttr_ValueError.ga.bind (.ref x)]
  refine wpAny_bind (wpAny_pure ?_)
  show wpAny _ _ (call (.builtin "BaseException.__getattribute__") [.ref x, .str "__class__" t]) _ _ _
  refine wpAny_call (codeAny_call_builtin PySem.F.excAttr_ValueError.ga.plain PySem.F.entry_bexc_ga ?_)
  refine @check_slot (model prog w) _ _ ⟨hp, g, d, t + 1, os⟩ "BaseException.__getattribute__" "BaseException" "__getattribute__" (.ref x) [.str "__class__" t] [] _ (by decide +kernel) (by decide +kernel) sub (PySem.F.args_bexc_ga (.ref x) (.str "__class__" t)) ?_
  unfold Builtin.«object.__getattribute__»
  refine wpAny_bind (wpAny_of_eq (a := ((Value.ref x : Value), [Value.str "__class__" t])) (by first | rfl | (simp only [slotArgs]; rfl)) ?_)
  refine wpAny_bind (wpAny_pure (wpAny_bind (L0.at (wpAny_bind (L3.at ?_)))))
  show wpAny _ _ (holding [Value.builtin "object.__class__"] (call (.builtin "getset_descriptor.__get__") [.builtin "object.__class__", .ref x, .ref D]) >>= ret) _ _ _
  refine wpAny_bind (wpAny_holding (wpAny_call (class_get (s := ⟨hp, g, d, t + 1, os⟩) (ox := ox) (od := od) X I hm ?_)))
  refine wpAny_pure ?_
  show wpAny _ _ (handedOut (.ref D)) _ _ _
  rw [handedOut_of (v := .ref D) rfl]
  first
    | exact wpAny_pure (wpAny_pure h)
    | exact wpAny_pure h
    | exact wpAny_pure (wpAny_bind (wpAny_pure (wpAny_pure h)))
theorem kitx_excD (C : L2.ExcC K D) : KitX K (.ref x) (.ref D) (fun h => ∃ ox od, InstAt h x ox D od) where
  ty := fun _ _ _ ⟨_, _, I⟩ => I.type
  it := fun M h X ⟨ox, od, I⟩ => by
    obtain ⟨cdD, hcD, _⟩ := any_some C.hd
    unfold clsIn at hcD
    split at hcD
    · rename_i c' d' cd' sl' ho
      intro A' Q' E' s' k q
      unfold isType loadHead
      exact wpAny_bind (wpAny_loadPart (k _ _ (X _ _ ho)) (wpAny_pure q))
    · cases hcD
  ne := fun h tp dd its n sl X htp => by
    obtain ⟨cdD, hcD, _⟩ := any_some C.hd
    refine Bool.eq_false_iff.mpr fun q => ?_
    have e : D = tp := Value.ref.inj (beq_iff_eq.mp q)
    subst e
    unfold clsIn at hcD
    split at hcD
    · rename_i c' d' cd' sl' ho
      have z := (X _ _ ho).symm.trans htp
      cases z
    · cases hcD
  ca := fun X ⟨_, _, I⟩ k => kin_classD C.hg C.hk C.hs C.hd C.ha C.hn C.ht C.hm X I k
end
/-- an exception of the class cls at a, its dict d -/
def ExAt (G : Hp) (a : Addr) (cls : Value) (d : Option Addr) : Prop := ∃ φ : Heap → Prop, G a = some (.ext φ) ∧ ∀ h, φ h → ∃ (oe : Obj) (vs : Array Value), h.get? a = some oe ∧ L2.Zc cls d oe ∧ oe.data = .fields vs
/-- the field f of the dict at dx -/
def XdAt (G : Hp) (dx : Addr) (f : Str) (v : V) : Prop := ∃ fs, (G dx = some (.xd fs) ∨ G dx = some (exd dx fs)) ∧ fs.lookup f = some v
def SubH (G H : Hp) : Prop := ∀ a o, G a = some o → H a = some o
theorem ExAt.up {G H : Hp} {a : Addr} {cls : Value} {d : Option Addr} (s : SubH G H) : ExAt G a cls d → ExAt H a cls d := fun ⟨φ, h, k⟩ => ⟨φ, s _ _ h, k⟩
theorem XdAt.up {G H : Hp} {dx : Addr} {f : Str} {v : V} (s : SubH G H) : XdAt G dx f v → XdAt H dx f v := fun ⟨fs, h, k⟩ => ⟨fs, h.imp (s _ _) (s _ _), k⟩
theorem ExAt.at {P : Program} {w : World} {H : Hp} {h : Heap} {a : Addr} {cls : Value} {d : Option Addr} (x : HOk P w H h) (e : ExAt H a cls d) : ∃ (oe : Obj) (vs : Array Value), h.get? a = some oe ∧ L2.Zc cls d oe ∧ oe.data = .fields vs := by
  obtain ⟨φ, e, k⟩ := e
  have y : ObjOk P w H h a (.ext φ) := x a _ e
  exact k h y.1
theorem XdAt.at {P : Program} {w : World} {H : Hp} {h : Heap} {dx : Addr} {f : Str} {v : V} (x : HOk P w H h) (e : XdAt H dx f v) : ∃ mA, h.Ns1 dx mA ∧ ∃ u, mA f = some u ∧ RelV v u := by
  obtain ⟨fs, e, l⟩ := e
  have fin : ∀ mA : Str → Option Value, (∀ f, RelO (fs.lookup f) (mA f)) → ∃ u, mA f = some u ∧ RelV v u := fun mA hr => RelO.some_of (v := v) (o := mA f) (by rw [← l]; exact hr f)
  rcases e with e | e
  · have y : ObjOk P w H h dx (.xd fs) := x dx _ e
    obtain ⟨mA, hn, hr⟩ := y
    exact ⟨mA, hn, fin mA hr⟩
  · obtain ⟨mA, hn, hr⟩ := exd_at x e
    exact ⟨mA, hn, fin mA hr⟩
/-- where an exception of ours stands, whatever its dict -/
def ExIn (H : Hp) (a D : Addr) : Prop := ExAt H a (.ref D) none ∨ ∃ dx f v, ExAt H a (.ref D) (some dx) ∧ XdAt H dx f v
theorem ExIn.inst {P : Program} {w : World} {H : Hp} {h : Heap} {a D : Addr} (x : HOk P w H h) (e : ExIn H a D) : ∃ ox od, InstAt h a ox D od := by
  rcases e with e | ⟨dx, f, v, e, e2⟩
  · obtain ⟨oe, vs, h1, h2, h3⟩ := e.at x
    refine ⟨oe, none, h1, h2.1, ?_, ?_⟩
    · unfold notCls; rw [h3]
    · rw [h2.2]; trivial
  · obtain ⟨oe, vs, h1, h2, h3⟩ := e.at x
    obtain ⟨mA, hn, _⟩ := e2.at x
    obtain ⟨o, ho, _⟩ := lookIn_ns hn
    refine ⟨oe, some o, h1, h2.1, ?_, ?_⟩
    · unfold notCls; rw [h3]
    · rw [h2.2]; exact ho
end Fs

set_option Elab.async false
set_option linter.all false
set_option maxRecDepth 100000
set_option maxHeartbeats 4000000
namespace Fs
open PySem L2

/-- the pen's place, its cells' place, the tables of code objects -/
abbrev PA := Option (Addr × Addr × List NdefX.NTab)
/-- a tuple of ours: its object is known, and bears no dict -/
def TupAt (G : Hp) (a : Addr) (xs : List V) : Prop := ∃ o : Obj, G a = some (.frz o (.tup xs)) ∧ o.dict = none
theorem TupAt.sq {G : Hp} {K : PySem.W.Frag} {a : Addr} {xs : List V} (h : TupAt G a xs) : SqT K G a xs := .inl (.inr (h.imp fun _ z => z.1))
theorem TupAt.up {G H : Hp} {a : Addr} {xs : List V} (h : TupAt G a xs) (k : ∀ a o, G a = some o → H a = some o) : TupAt H a xs := h.imp fun _ z => ⟨k _ _ z.1, z.2⟩
theorem TupAt.at1 {G H : Hp} {a : Addr} {xs : List V} (h : TupAt G a xs) (k : ∀ o, G a = some o → H a = some o) : TupAt H a xs := h.imp fun _ z => ⟨k _ z.1, z.2⟩
theorem TupAt.here {H : Hp} {a : Addr} {xs : List V} {o : Obj} (h : o.dict = none) : TupAt (upd H a (.frz o (.tup xs))) a xs := ⟨o, upd_same, h⟩
theorem TupAt.there {G : Hp} {a : Addr} {xs : List V} (h : TupAt G a xs) (z : G a = none) : False := by
  obtain ⟨o, e, _⟩ := h
  rw [z] at e; cases e
/-- what a new tuple is handed to -/
def mkT (H : Hp) (Q : VK) (xs : List V) : Prop := ∀ p o, H p = none → o.dict = none → Q (.ref p) (upd H p (.frz o (.tup xs)))

/-- an exception of the class cls at a -/
def exT (cls : Value) (d : Option Addr) (a : Addr) : HO := .ext fun h => ∃ (oe : Obj) (vs : Array Value), h.get? a = some oe ∧ L2.Zc cls d oe ∧ oe.data = .fields vs
mutual
inductive Rp (pa : PA) (G : Hp) : V → D → Prop where
  | non : Rp pa G .non .none
  | bl (b : Bool) : Rp pa G (.bl b) (.bool b)
  | int (i : Int) : Rp pa G (.int i) (.int i)
  | str (x : Str) : Rp pa G (.str x) (.str x)
  | lst {a : Addr} {xs : List V} {ds : List D} : G a = some (.lst xs) → Rps pa G xs ds → Rp pa G (.ref a) (.list ds)
  | tup {a : Addr} {xs : List V} {ds : List D} : TupAt G a xs → Rps pa G xs ds → Rp pa G (.ref a) (.tuple ds)
  | pen {a c : Addr} {T : List NdefX.NTab} : pa = some (a, c, T) → Rp pa G (.ref a) (.dict [])
  | fn {C : Addr} {c : Str} : Rp pa G (.ref C) (.dict [(.int (C : Nat), .tuple [.str c])])
  | exc {a C : Addr} {c : Str} : ExAt G a (.ref C) none → Rp pa G (.ref a) (.dict [(.int (C : Nat), .str c)])
  | exa {a C dx : Addr} {c f : Str} {v : V} {e : D} : ExAt G a (.ref C) (some dx) → XdAt G dx f v → Rp pa G v e → Rp pa G (.ref a) (.dict [(.int (C : Nat), .str c), (.str f, e)])
  | dct {a : Addr} {kvs : List (Key × V)} {es : List (D × D)} : G a = some (.dK kvs) → Rks pa G kvs es → Rp pa G (.ref a) (.dict ((.none, .none) :: es))
inductive Rps (pa : PA) (G : Hp) : List V → List D → Prop where
  | nil : Rps pa G [] []
  | cons {v : V} {d : D} {vs : List V} {ds : List D} : Rp pa G v d → Rps pa G vs ds → Rps pa G (v :: vs) (d :: ds)
inductive Rks (pa : PA) (G : Hp) : List (Key × V) → List (D × D) → Prop where
  | nil : Rks pa G [] []
  | cons {k : Key} {v : V} {d : D} {kvs : List (Key × V)} {es : List (D × D)} : Rp pa G v d → Rks pa G kvs es → Rks pa G ((k, v) :: kvs) ((keyD k, d) :: es)
end

def Sub (G H : Hp) : Prop := ∀ a o, G a = some o → H a = some o
theorem Sub.refl {G : Hp} : Sub G G := fun _ _ h => h
theorem Sub.trans {F G H : Hp} (a : Sub F G) (b : Sub G H) : Sub F H := fun x o h => b x o (a x o h)
theorem Sub.upd {G : Hp} {a : Addr} {o : HO} (h : G a = none) : Sub G (upd G a o) := fun b u e => by
  rw [upd_ne (ne_of_none e h)]; exact e

section
variable {pa : PA} {G G' : Hp}
mutual
theorem Rp.mono (s : Sub G G') : ∀ {v : V} {d : D}, Rp pa G v d → Rp pa G' v d
  | _, _, .non => .non
  | _, _, .bl b => .bl b
  | _, _, .int i => .int i
  | _, _, .str x => .str x
  | _, _, .lst h r => .lst (s _ _ h) (Rps.mono s r)
  | _, _, .tup h r => .tup (h.up s) (Rps.mono s r)
  | _, _, .pen h => .pen h
  | _, _, .fn => .fn
  | _, _, .exc h => .exc (h.up s)
  | _, _, .exa h x r => .exa (h.up s) (x.up s) (Rp.mono s r)
  | _, _, .dct h r => .dct (s _ _ h) (Rks.mono s r)
theorem Rps.mono (s : Sub G G') : ∀ {vs : List V} {ds : List D}, Rps pa G vs ds → Rps pa G' vs ds
  | _, _, .nil => .nil
  | _, _, .cons r t => .cons (Rp.mono s r) (Rps.mono s t)
theorem Rks.mono (s : Sub G G') : ∀ {vs : List (Key × V)} {ds : List (D × D)}, Rks pa G vs ds → Rks pa G' vs ds
  | _, _, .nil => .nil
  | _, _, .cons r t => .cons (Rp.mono s r) (Rks.mono s t)
end
mutual
theorem Rp.open (a : PA) (h : pa = none) : ∀ {v : V} {d : D}, Rp pa G v d → Rp a G v d
  | _, _, .non => .non
  | _, _, .bl b => .bl b
  | _, _, .int i => .int i
  | _, _, .str x => .str x
  | _, _, .lst e r => .lst e (Rps.open a h r)
  | _, _, .tup e r => .tup e (Rps.open a h r)
  | _, _, .pen e => by rw [h] at e; cases e
  | _, _, .fn => .fn
  | _, _, .exc e => .exc e
  | _, _, .exa e x r => .exa e x (Rp.open a h r)
  | _, _, .dct e r => .dct e (Rks.open a h r)
theorem Rps.open (a : PA) (h : pa = none) : ∀ {vs : List V} {ds : List D}, Rps pa G vs ds → Rps a G vs ds
  | _, _, .nil => .nil
  | _, _, .cons r t => .cons (Rp.open a h r) (Rps.open a h t)
theorem Rks.open (a : PA) (h : pa = none) : ∀ {vs : List (Key × V)} {ds : List (D × D)}, Rks pa G vs ds → Rks a G vs ds
  | _, _, .nil => .nil
  | _, _, .cons r t => .cons (Rp.open a h r) (Rks.open a h t)
end
theorem Rps.len : ∀ {vs : List V} {ds : List D}, Rps pa G vs ds → vs.length = ds.length
  | _, _, .nil => rfl
  | _, _, .cons _ t => by simp [Rps.len t]
theorem Rps.app : ∀ {vs us : List V} {ds es : List D}, Rps pa G vs ds → Rps pa G us es → Rps pa G (vs ++ us) (ds ++ es)
  | _, _, _, _, .nil, s => s
  | _, _, _, _, .cons r t, s => .cons r (Rps.app t s)
theorem Rps.get : ∀ {vs : List V} {ds : List D} {i : Nat} {d : D}, Rps pa G vs ds → ds[i]? = some d → ∃ v, vs[i]? = some v ∧ Rp pa G v d
  | _, _, _, _, .nil, e => by simp at e
  | _, _, 0, _, .cons r _, e => by simp at e; subst e; exact ⟨_, rfl, r⟩
  | _, _, i + 1, d, .cons _ t, e => by
    obtain ⟨v, h, r⟩ := Rps.get (i := i) t (by simpa using e)
    exact ⟨v, by simpa using h, r⟩
theorem Rps.getV : ∀ {vs : List V} {ds : List D} {i : Nat} {v : V}, Rps pa G vs ds → vs[i]? = some v → ∃ d, ds[i]? = some d ∧ Rp pa G v d
  | _, _, _, _, .nil, e => by simp at e
  | _, _, 0, _, .cons r _, e => by simp at e; subst e; exact ⟨_, rfl, r⟩
  | _, _, i + 1, v, .cons _ t, e => by
    obtain ⟨d, h, r⟩ := Rps.getV (i := i) t (by simpa using e)
    exact ⟨d, by simpa using h, r⟩
theorem Rps.take : ∀ {vs : List V} {ds : List D} (n : Nat), Rps pa G vs ds → Rps pa G (vs.take n) (ds.take n)
  | _, _, 0, _ => .nil
  | _, _, _ + 1, .nil => .nil
  | _, _, n + 1, .cons r t => .cons r (Rps.take n t)
theorem Rps.drop : ∀ {vs : List V} {ds : List D} (n : Nat), Rps pa G vs ds → Rps pa G (vs.drop n) (ds.drop n)
  | _, _, 0, r => r
  | _, _, _ + 1, .nil => .nil
  | _, _, n + 1, .cons _ t => Rps.drop n t
theorem Rps.set {v : V} {d : D} (r : Rp pa G v d) : ∀ {vs : List V} {ds : List D} (i : Nat), Rps pa G vs ds → Rps pa G (vs.set i v) (ds.set i d)
  | _, _, _, .nil => .nil
  | _, _, 0, .cons _ t => .cons r t
  | _, _, i + 1, .cons q t => .cons q (Rps.set r i t)
theorem Rps.rev {vs : List V} {ds : List D} (h : Rps pa G vs ds) : Rps pa G vs.reverse ds.reverse := by
  induction vs generalizing ds with
  | nil => cases h; exact .nil
  | cons v vs ih =>
    cases h with
    | cons r t => rw [List.reverse_cons, List.reverse_cons]; exact (ih t).app (.cons r .nil)
theorem Rps.rep {vs : List V} {ds : List D} (h : Rps pa G vs ds) : ∀ k : Nat, Rps pa G (List.replicate k vs).flatten (List.replicate k ds).flatten
  | 0 => .nil
  | k + 1 => by rw [List.replicate_succ, List.replicate_succ, List.flatten_cons, List.flatten_cons]; exact h.app (Rps.rep h k)
theorem Rps.ints : ∀ {vs : List V} {ds : List D} {ns : List Int}, Rps pa G vs ds → intsOf ds = some ns → vs = ns.map V.int
  | _, _, _, .nil, e => by cases e; rfl
  | _, _, ns, .cons r t, e => by
    cases r with
    | int i =>
      rename_i vs ds
      cases h : intsOf ds with
      | none => rw [intsOf, h] at e; cases e
      | some ms =>
        rw [intsOf, h] at e
        obtain rfl : i :: ms = ns := by simpa using e
        rw [Rps.ints t h, List.map_cons]
    | _ => cases e
theorem Rps.ofInts : ∀ (ns : List Int), Rps pa G (ns.map V.int) (ns.map .int)
  | [] => .nil
  | n :: ns => .cons (.int n) (Rps.ofInts ns)
theorem Rps.bools : ∀ {vs : List V} {ds : List D} {bs : List Bool}, Rps pa G vs ds → boolsOf ds = some bs → vs = bs.map V.bl
  | _, _, _, .nil, e => by cases e; rfl
  | _, _, ns, .cons r t, e => by
    cases r with
    | bl i =>
      rename_i vs ds
      cases h : boolsOf ds with
      | none => rw [boolsOf, h] at e; cases e
      | some ms =>
        rw [boolsOf, h] at e
        obtain rfl : i :: ms = ns := by simpa using e
        rw [Rps.bools t h, List.map_cons]
    | _ => cases e
/-- data without dicts are the hand layer's data -/
theorem Rp.dps (K : PySem.W.Frag) : ∀ (n : Nat), (∀ {v : V} {d : D}, good n d = true → Rp pa G v d → Dp K G v d) ∧ ∀ {vs : List V} {ds : List D}, goods n ds = true → Rps pa G vs ds → DpAll K G vs ds := by
  intro n
  induction n with
  | zero =>
    have h1 : ∀ {v : V} {d : D}, good 0 d = true → Rp pa G v d → Dp K G v d := by
      intro v d g r
      cases r with
      | non => exact .non
      | bl b => exact .bl b
      | int i => exact .int i
      | str x => exact .str x
      | lst h r => simp [good] at g
      | tup h r => simp [good] at g
      | pen h => simp [good] at g
      | fn => simp [good] at g
      | exc h => simp [good] at g
      | exa h x r => simp [good] at g
      | dct h r => simp [good] at g
    refine ⟨h1, ?_⟩
    intro vs ds g r
    induction vs generalizing ds with
    | nil => cases r; exact .nil
    | cons v vs ih =>
      cases r with
      | cons r t =>
        simp only [goods, Bool.and_eq_true] at g
        exact .cons (h1 g.1 r) (ih g.2 t)
  | succ n ih =>
    have h1 : ∀ {v : V} {d : D}, good (n + 1) d = true → Rp pa G v d → Dp K G v d := by
      intro v d g r
      cases r with
      | non => exact .non
      | bl b => exact .bl b
      | int i => exact .int i
      | str x => exact .str x
      | lst h r => exact .lst (.of h) (ih.2 (by simpa [good] using g) r)
      | tup h r => exact .tup h.sq (ih.2 (by simpa [good] using g) r)
      | pen h => simp [good] at g
      | fn => simp [good] at g
      | exc h => simp [good] at g
      | exa h x r => simp [good] at g
      | dct h r => simp [good] at g
    refine ⟨h1, ?_⟩
    intro vs ds g r
    induction vs generalizing ds with
    | nil => cases r; exact .nil
    | cons v vs ih2 =>
      cases r with
      | cons r t =>
        simp only [goods, Bool.and_eq_true] at g
        exact .cons (h1 g.1 r) (ih2 g.2 t)
theorem Rp.dp (K : PySem.W.Frag) {n : Nat} {v : V} {d : D} (g : good n d = true) (r : Rp pa G v d) : Dp K G v d := (Rp.dps K n).1 g r
end

theorem good_lay : ∀ (n : Nat), (∀ d : D, good n d = true → d.canLay0 = true ∧ d.depth ≤ n) ∧ ∀ ds : List D, goods n ds = true → PyData.canLayAll0 ds = true ∧ PyData.depthAll ds ≤ n := by
  intro n
  induction n with
  | zero =>
    have h1 : ∀ d : D, good 0 d = true → d.canLay0 = true ∧ d.depth ≤ 0 := by
      intro d g
      cases d with
      | list xs => simp [good] at g
      | tuple xs => simp [good] at g
      | dict xs => simp [good] at g
      | str x => simpa [PyData.canLay0, PyData.depth, good] using g
      | _ => simp [PyData.canLay0, PyData.depth]
    refine ⟨h1, ?_⟩
    intro ds
    induction ds with
    | nil => simp [PyData.canLayAll0, PyData.depthAll]
    | cons d ds ih =>
      intro g
      simp only [goods, Bool.and_eq_true] at g
      have a := h1 d g.1
      have b := ih g.2
      simp only [PyData.canLayAll0, PyData.depthAll, Bool.and_eq_true]
      exact ⟨⟨a.1, b.1⟩, by omega⟩
  | succ n ih =>
    have h1 : ∀ d : D, good (n + 1) d = true → d.canLay0 = true ∧ d.depth ≤ n + 1 := by
      intro d g
      cases d with
      | list xs =>
        have a := ih.2 xs (by simpa [good] using g)
        simp only [PyData.canLay0, PyData.depth]
        exact ⟨a.1, by omega⟩
      | tuple xs =>
        have a := ih.2 xs (by simpa [good] using g)
        simp only [PyData.canLay0, PyData.depth]
        exact ⟨a.1, by omega⟩
      | dict xs => simp [good] at g
      | str x => simpa [PyData.canLay0, PyData.depth, good] using g
      | _ => simp [PyData.canLay0, PyData.depth]
    refine ⟨h1, ?_⟩
    intro ds
    induction ds with
    | nil => simp [PyData.canLayAll0, PyData.depthAll]
    | cons d ds ih2 =>
      intro g
      simp only [goods, Bool.and_eq_true] at g
      have a := h1 d g.1
      have b := ih2 g.2
      simp only [PyData.canLayAll0, PyData.depthAll, Bool.and_eq_true]
      exact ⟨⟨a.1, b.1⟩, by omega⟩
theorem good_shaped {d : D} (g : good 60 d = true) : SeqAt.shaped d = true := by
  have a := (good_lay 60).1 d g
  show (d.canLay0 && decide (d.depth ≤ 64)) = true
  rw [Bool.and_eq_true]
  exact ⟨a.1, decide_eq_true (by omega)⟩

/-- the place of a table -/
def hotT (T : List NdefX.NTab) (a : Addr) : Prop := ∃ t ∈ T, t.1 = a
def pen1 (pa : PA) (a : Addr) : Prop := ∃ b c T, pa = some (b, c, T) ∧ (a = b ∨ hotT T a)
theorem pen1_pen {a c : Addr} {T : List NdefX.NTab} : pen1 (some (a, c, T)) a := ⟨a, c, T, rfl, .inl rfl⟩
theorem pen1_no {a : Addr} : ¬ pen1 none a := fun ⟨_, _, _, z, _⟩ => by cases z
theorem tabs_upd {T : List NdefX.NTab} {H : Hp} {a : Addr} {o : HO} (t : TabsL T H) (hu : ∀ f, H a ≠ some (.ext f)) (ne : ¬ hotT T a) : TabsL T (upd H a o) := ⟨t.1, fun p hp => by
  obtain ⟨ps, h1, h2, h3⟩ := t.2 p hp
  refine ⟨ps, by rw [upd_ne (fun z => ne ⟨p, hp, z⟩)]; exact h1, h2, fun pos cv hc => ?_⟩
  obtain ⟨c, e1, e2⟩ := h3 pos cv hc
  refine ⟨c, e1, ?_⟩
  rw [upd_ne]
  · exact e2
  · rintro rfl
    exact hu _ e2⟩
theorem tabs_sub {T : List NdefX.NTab} {H H1 : Hp} (t : TabsL T H) (k : Sub H H1) : TabsL T H1 := ⟨t.1, t.2.ext fun b o h => k b o h⟩
/-- the pen stands at its place -/
def PenAt (pa : PA) (G H : Hp) (p : Option Pn) : Prop :=
  match pa, p with
  | none, none => True
  | some (a, c, T), some q => c ≠ a ∧ H a = some (.lst [.ref c, .int q.a, .int q.r]) ∧ G c = some (.lst (q.cells.map V.int)) ∧ G a = none ∧ TabsL T H ∧ ∀ t ∈ T, G t.1 = none ∧ t.1 ≠ a
  | _, _ => False
theorem PenAt.free {pa : PA} {G H : Hp} {p : Option Pn} (h : PenAt pa G H p) {a : Addr} (e : pen1 pa a) : G a = none := by
  obtain ⟨b, c, T, rfl, e⟩ := e
  cases p with
  | none => exact h.elim
  | some q =>
    rcases e with rfl | ⟨t, ht, rfl⟩
    · exact h.2.2.2.1
    · exact (h.2.2.2.2.2 t ht).1
theorem PenAt.up {pa : PA} {G G' H : Hp} {p : Option Pn} (h : PenAt pa G H p) (gk : Sub G G') (n : ∀ a, pen1 pa a → G' a = none) : PenAt pa G' H p := by
  cases pa with
  | none => cases p with
    | none => trivial
    | some q => exact h.elim
  | some x =>
    obtain ⟨a, c, T⟩ := x
    cases p with
    | none => exact h.elim
    | some q => exact ⟨h.1, h.2.1, gk _ _ h.2.2.1, n a pen1_pen, h.2.2.2.2.1, fun t ht => ⟨n t.1 ⟨a, c, T, rfl, .inr ⟨t, ht, rfl⟩⟩, (h.2.2.2.2.2 t ht).2⟩⟩
theorem PenAt.there {pa : PA} {G H : Hp} {p : Option Pn} (h : PenAt pa G H p) {a : Addr} (e : pen1 pa a) : ∃ o, H a = some o := by
  obtain ⟨b, c, T, rfl, e⟩ := e
  cases p with
  | none => exact h.elim
  | some q =>
    rcases e with rfl | ⟨t, ht, rfl⟩
    · exact ⟨_, h.2.1⟩
    · obtain ⟨ps, e, _⟩ := h.2.2.2.2.1.2 t ht
      exact ⟨_, e⟩

/-- the slot's own list stands at a -/
def OwnAt (σ : L2.St) (s : S) (a : Addr) : Prop := ∃ (i : Nat) (d : D), s.sl[i]? = some (some (d, true)) ∧ σ[i]? = some (some (V.ref a))

structure Sim (pa : PA) (H0 G0 G : Hp) (σ : L2.St) (H : Hp) (s : S) : Prop where
  len : σ.length = s.sl.length
  sub : Sub G H
  base : Sub G0 G
  new : ∀ a o, G a = some o → G0 a = some o ∨ H0 a = none
  kee : ∀ a o, H0 a = some o → ¬ pen1 pa a → H a = some o
  pen : PenAt pa G H s.pn
  fz : ∀ (i : Nat) (d : D), s.sl[i]? = some (some (d, false)) → ∃ v, σ[i]? = some (some v) ∧ Rp pa G v d
  ow : ∀ (i : Nat) (d : D), s.sl[i]? = some (some (d, true)) → ∃ a xs ds, σ[i]? = some (some (V.ref a)) ∧ d = .list ds ∧ H a = some (.lst xs) ∧ Rps pa G xs ds ∧ G a = none ∧ H0 a = none ∧ ¬ pen1 pa a
  dis : ∀ (i j : Nat) (d e : D) (a : Addr), s.sl[i]? = some (some (d, true)) → s.sl[j]? = some (some (e, true)) → σ[i]? = some (some (V.ref a)) → σ[j]? = some (some (V.ref a)) → i = j

structure Ext (pa : PA) (G G' H H' : Hp) (σ : L2.St) (s s' : S) : Prop where
  hk : ∀ a o, H a = some o → ¬ pen1 pa a → H' a = some o
  gk : Sub G G'
  gn : ∀ a o, G' a = some o → G a = some o ∨ H a = none ∨ OwnAt σ s a
  ln : s'.sl.length = s.sl.length
  sn : ∀ (i : Nat), s.sl[i]? = some none → s'.sl[i]? = some none
  sl : ∀ (i : Nat) (d : D) (f : Bool), s.sl[i]? = some (some (d, f)) → ∃ f', s'.sl[i]? = some (some (d, f')) ∧ (f' = true → f = true)

section
variable {pa : PA} {H0 G0 G G1 G2 H H1 H2 : Hp} {σ : L2.St} {s s1 s2 : S}
theorem Ext.refl : Ext pa G G H H σ s s := ⟨fun _ _ h _ => h, .refl, fun _ _ h => .inl h, rfl, fun _ h => h, fun _ _ f h => ⟨f, h, fun z => z⟩⟩
theorem Ext.own (e : Ext pa G G1 H H1 σ s s1) {a : Addr} (o : OwnAt σ s1 a) : OwnAt σ s a := by
  obtain ⟨i, d, h1, h2⟩ := o
  cases q : s.sl[i]? with
  | none =>
    have : s1.sl[i]? = none := by
      rw [List.getElem?_eq_none_iff] at q ⊢
      rw [e.ln]; exact q
    rw [this] at h1; cases h1
  | some x =>
    cases x with
    | none => rw [e.sn i q] at h1; cases h1
    | some p =>
      obtain ⟨d', f⟩ := p
      obtain ⟨f', h3, h4⟩ := e.sl i d' f q
      rw [h1] at h3
      cases h3
      exact ⟨i, d, by rw [q, h4 rfl], h2⟩
theorem Ext.trans (S2 : Sim pa H0 G0 G2 σ H2 s2) (e : Ext pa G G1 H H1 σ s s1) (e2 : Ext pa G1 G2 H1 H2 σ s1 s2) : Ext pa G G2 H H2 σ s s2 where
  hk := fun a o h n => e2.hk a o (e.hk a o h n) n
  gk := e.gk.trans e2.gk
  gn := fun a o h => by
    rcases e2.gn a o h with q | q | q
    · exact e.gn a o q
    · cases z : H a with
      | none => exact .inr (.inl rfl)
      | some u =>
        by_cases n : pen1 pa a
        · rw [S2.pen.free n] at h; cases h
        · rw [e.hk a u z n] at q; cases q
    · exact .inr (.inr (e.own q))
  ln := e2.ln.trans e.ln
  sn := fun i h => e2.sn i (e.sn i h)
  sl := fun i d f h => by
    obtain ⟨f1, h1, h2⟩ := e.sl i d f h
    obtain ⟨f2, h3, h4⟩ := e2.sl i d f1 h1
    exact ⟨f2, h3, fun z => h2 (h4 z)⟩

/-- how a value stands -/
def RT (pa : PA) (H0 G : Hp) (σ : L2.St) (H : Hp) (s : S) (v : V) (d : D) : Tg → Prop
  | .fz => Rp pa G v d
  | .fresh => ∃ a xs ds, v = .ref a ∧ d = .list ds ∧ H a = some (.lst xs) ∧ Rps pa G xs ds ∧ G a = none ∧ H0 a = none ∧ ¬ pen1 pa a ∧ ¬ OwnAt σ s a
  | .slot i => ∃ f, s.sl[i]? = some (some (d, f)) ∧ σ[i]? = some (some v)
/-- new since Hs -/
def NewT (Hs : Hp) (v : V) (t : Tg) : Prop := t = .fresh → ∀ a, v = .ref a → Hs a = none
/-- the top of a value in the whole heap, what is in it in G -/
def RpT (pa : PA) (G H : Hp) (v : V) (d : D) : Prop :=
  match d with
  | .list ds => ∃ a xs, v = .ref a ∧ H a = some (.lst xs) ∧ Rps pa G xs ds
  | d => Rp pa G v d
theorem RpT.of (u : Sub G H) {v : V} {d : D} (r : Rp pa G v d) : RpT pa G H v d := by
  cases r with
  | lst h r => exact ⟨_, _, rfl, u _ _ h, r⟩
  | non => exact .non
  | bl b => exact .bl b
  | int i => exact .int i
  | str x => exact .str x
  | tup h r => exact .tup h r
  | pen h => exact .pen h
  | fn => exact .fn
  | exc h => exact .exc h
  | exa h x r => exact .exa h x r
  | dct h r => exact .dct h r
theorem RpT.all (u : Sub G H) {v : V} {d : D} (r : RpT pa G H v d) : Rp pa H v d := by
  cases d with
  | list ds =>
    obtain ⟨a, xs, rfl, h, r⟩ := r
    exact .lst h (r.mono u)
  | _ => exact Rp.mono u (show Rp pa G v _ from r)
theorem RT.top (S1 : Sim pa H0 G0 G σ H s) {v : V} {d : D} {t : Tg} (r : RT pa H0 G σ H s v d t) : RpT pa G H v d := by
  cases t with
  | fz => exact .of S1.sub r
  | fresh =>
    obtain ⟨a, xs, ds, rfl, rfl, h, r, _⟩ := r
    exact ⟨a, xs, rfl, h, r⟩
  | slot i =>
    obtain ⟨f, h1, h2⟩ := r
    cases f with
    | false =>
      obtain ⟨w, h3, r⟩ := S1.fz i d h1
      rw [h2] at h3
      cases h3
      exact .of S1.sub r
    | true =>
      obtain ⟨a, xs, ds, h3, rfl, h, r, _⟩ := S1.ow i d h1
      rw [h2] at h3
      cases h3
      exact ⟨a, xs, rfl, h, r⟩
theorem RT.ext (S2 : Sim pa H0 G0 G1 σ H1 s1) (e : Ext pa G G1 H H1 σ s s1) {v : V} {d : D} {t : Tg} (r : RT pa H0 G σ H s v d t) : RT pa H0 G1 σ H1 s1 v d t := by
  cases t with
  | fz => exact Rp.mono e.gk r
  | fresh =>
    obtain ⟨a, xs, ds, rfl, rfl, h, r, g, h0, n, o⟩ := r
    refine ⟨a, xs, ds, rfl, rfl, e.hk a _ h n, r.mono e.gk, ?_, h0, n, fun z => o (e.own z)⟩
    cases q : G1 a with
    | none => rfl
    | some u =>
      rcases e.gn a u q with z | z | z
      · rw [g] at z; cases z
      · rw [h] at z; cases z
      · exact (o z).elim
  | slot i =>
    obtain ⟨f, h1, h2⟩ := r
    obtain ⟨f', h3, _⟩ := e.sl i d f h1
    exact ⟨f', h3, h2⟩

theorem freeze_len (s : S) (i : Nat) : (s.freeze i).sl.length = s.sl.length := by simp [S.freeze]
theorem freeze_ne {s : S} {i j : Nat} (h : i ≠ j) : (s.freeze i).sl[j]? = s.sl[j]? := by
  simp only [S.freeze]
  rw [List.getElem?_modify]
  simp [h]
theorem freeze_at {s : S} {i : Nat} {d : D} {f : Bool} (h : s.sl[i]? = some (some (d, f))) : (s.freeze i).sl[i]? = some (some (d, false)) := by
  simp only [S.freeze]
  rw [List.getElem?_modify]
  simp [h]
theorem freeze_none {s : S} {i : Nat} (h : s.sl[i]? = some none) : (s.freeze i).sl[i]? = some none := by
  simp only [S.freeze]
  rw [List.getElem?_modify]
  simp [h]
/-- only flags change -/
theorem freeze_ext (i : Nat) (gn : ∀ a o, G1 a = some o → G a = some o ∨ H a = none ∨ OwnAt σ s a) (gk : Sub G G1) : Ext pa G G1 H H σ s (s.freeze i) where
  hk := fun _ _ h _ => h
  gk := gk
  gn := gn
  ln := freeze_len s i
  sn := fun j h => by
    by_cases z : i = j
    · subst z; exact freeze_none h
    · rw [freeze_ne z]; exact h
  sl := fun j d f h => by
    by_cases z : i = j
    · subst z; exact ⟨false, freeze_at h, fun q => by cases q⟩
    · exact ⟨f, by rw [freeze_ne z]; exact h, fun q => q⟩
/-- a list of our own comes into G -/
theorem Sim.take {a : Addr} {xs : List V} {ds : List D} (S1 : Sim pa H0 G0 G σ H s) (h : H a = some (.lst xs)) (g : G a = none) (h0 : H0 a = none) (n : ¬ pen1 pa a) (r : Rps pa G xs ds) (no : ¬ OwnAt σ s a) :
    Sim pa H0 G0 (upd G a (.lst xs)) σ H s ∧ Rp pa (upd G a (.lst xs)) (.ref a) (.list ds) := by
  have gk : Sub G (upd G a (.lst xs)) := .upd g
  refine ⟨⟨S1.len, fun b o e => ?_, S1.base.trans gk, fun b o e => ?_, S1.kee, ?_, fun i d e => ?_, fun i d e => ?_, S1.dis⟩, .lst upd_same (r.mono gk)⟩
  · by_cases z : b = a
    · subst z; rw [upd_same] at e; cases e; exact h
    · rw [upd_ne z] at e; exact S1.sub b o e
  · by_cases z : b = a
    · subst z; exact .inr h0
    · rw [upd_ne z] at e; exact S1.new b o e
  · have p := S1.pen
    refine p.up gk fun b hb => ?_
    rw [upd_ne]
    · exact p.free hb
    · rintro rfl; exact n hb
  · obtain ⟨v, e1, e2⟩ := S1.fz i d e
    exact ⟨v, e1, e2.mono gk⟩
  · obtain ⟨b, ys, es, e1, e2, e3, e4, e5, e6, e7⟩ := S1.ow i d e
    refine ⟨b, ys, es, e1, e2, e3, e4.mono gk, ?_, e6, e7⟩
    rw [upd_ne]
    · exact e5
    · rintro rfl; exact no ⟨i, d, e, e1⟩
/-- a value is kept for good -/
theorem RT.keep {Hs : Hp} {ss : S} {Gs : Hp} (S1 : Sim pa H0 G0 G σ H s) (E : Ext pa Gs G Hs H σ ss s) {v : V} {d : D} {t : Tg} (r : RT pa H0 G σ H s v d t) (nw : NewT Hs v t) :
    ∃ G', Sim pa H0 G0 G' σ H (s.keep t) ∧ Ext pa Gs G' Hs H σ ss (s.keep t) ∧ Sub G G' ∧ (∀ b o, G' b = some o → G b = some o ∨ (v = .ref b ∧ ∃ ds, d = .list ds)) ∧ Rp pa G' v d := by
  cases t with
  | fz => exact ⟨G, S1, E, .refl, fun b o e => .inl e, r⟩
  | fresh =>
    obtain ⟨a, xs, ds, rfl, rfl, h, r, g, h0, n, o⟩ := r
    obtain ⟨S2, r2⟩ := S1.take h g h0 n r o
    refine ⟨_, S2, ⟨E.hk, E.gk.trans (.upd g), fun b u e => ?_, E.ln, E.sn, E.sl⟩, .upd g, fun b u e => ?_, r2⟩
    · by_cases z : b = a
      · subst z; exact .inr (.inl (nw rfl _ rfl))
      · rw [upd_ne z] at e; exact E.gn b u e
    · by_cases z : b = a
      · subst z; exact .inr ⟨rfl, _, rfl⟩
      · rw [upd_ne z] at e; exact .inl e
  | slot i =>
    obtain ⟨f, h1, h2⟩ := r
    show ∃ G', Sim pa H0 G0 G' σ H (s.freeze i) ∧ _
    have sm : ∀ {G' : Hp}, Sim pa H0 G0 G' σ H s → (∀ a, σ[i]? = some (some (V.ref a)) → f = true → ∃ u, G' a = some u) → Rp pa G' v d → Sim pa H0 G0 G' σ H (s.freeze i) := fun {G'} S2 hg rv =>
      ⟨S2.len.trans (freeze_len s i).symm, S2.sub, S2.base, S2.new, S2.kee, S2.pen, fun j e q => by
        by_cases z : i = j
        · subst z
          rw [freeze_at h1] at q; cases q
          exact ⟨v, h2, rv⟩
        · rw [freeze_ne z] at q; exact S2.fz j e q, fun j e q => by
        by_cases z : i = j
        · subst z; rw [freeze_at h1] at q; cases q
        · rw [freeze_ne z] at q; exact S2.ow j e q, fun j k e e' a q q' => by
        by_cases z : i = j
        · subst z; rw [freeze_at h1] at q; cases q
        · by_cases z' : i = k
          · subst z'; rw [freeze_at h1] at q'; cases q'
          · rw [freeze_ne z] at q; rw [freeze_ne z'] at q'; exact S2.dis j k e e' a q q'⟩
    cases f with
    | false =>
      obtain ⟨w, h3, rw'⟩ := S1.fz i d h1
      rw [h2] at h3; cases h3
      refine ⟨G, sm S1 (fun a _ z => by cases z) rw', ?_, .refl, fun b o e => .inl e, rw'⟩
      have e2 : Ext pa G G H H σ s (s.freeze i) := freeze_ext i (fun _ _ h => .inl h) .refl
      exact ⟨E.hk, E.gk, E.gn, e2.ln.trans E.ln, fun j h => e2.sn j (E.sn j h), fun j d f h => by
        obtain ⟨f1, a1, a2⟩ := E.sl j d f h
        obtain ⟨f2, a3, a4⟩ := e2.sl j d f1 a1
        exact ⟨f2, a3, fun z => a2 (a4 z)⟩⟩
    | true =>
      obtain ⟨a, xs, ds, h3, rfl, h, r, g, h0, n⟩ := S1.ow i d h1
      rw [h2] at h3; cases h3
      have own : OwnAt σ s a := ⟨i, _, h1, h2⟩
      -- first the slot is frozen by hand, then the list is taken
      have gk : Sub G (upd G a (.lst xs)) := .upd g
      have rv : Rp pa (upd G a (.lst xs)) (.ref a) (.list ds) := .lst upd_same (r.mono gk)
      refine ⟨upd G a (.lst xs), ⟨S1.len.trans (freeze_len s i).symm, fun b o e => ?_, S1.base.trans gk, fun b o e => ?_, S1.kee, ?_, fun j e q => ?_, fun j e q => ?_, fun j k e e' b q q' p p' => ?_⟩, ?_, gk, fun b u e => ?_, rv⟩
      · by_cases z : b = a
        · subst z; rw [upd_same] at e; cases e; exact h
        · rw [upd_ne z] at e; exact S1.sub b o e
      · by_cases z : b = a
        · subst z; exact .inr h0
        · rw [upd_ne z] at e; exact S1.new b o e
      · have p := S1.pen
        show PenAt pa _ H s.pn
        refine p.up gk fun b hb => ?_
        rw [upd_ne]
        · exact p.free hb
        · rintro rfl; exact n hb
      · by_cases z : i = j
        · subst z
          rw [freeze_at h1] at q; cases q
          exact ⟨_, h2, rv⟩
        · rw [freeze_ne z] at q
          obtain ⟨w, e1, e2⟩ := S1.fz j e q
          exact ⟨w, e1, e2.mono gk⟩
      · by_cases z : i = j
        · subst z; rw [freeze_at h1] at q; cases q
        · rw [freeze_ne z] at q
          obtain ⟨b, ys, es, e1, e2, e3, e4, e5, e6, e7⟩ := S1.ow j e q
          refine ⟨b, ys, es, e1, e2, e3, e4.mono gk, ?_, e6, e7⟩
          rw [upd_ne]
          · exact e5
          · rintro rfl; exact z (S1.dis i j _ _ _ h1 q h2 e1)
      · by_cases z : i = j
        · subst z; rw [freeze_at h1] at q; cases q
        · by_cases z' : i = k
          · subst z'; rw [freeze_at h1] at q'; cases q'
          · rw [freeze_ne z] at q; rw [freeze_ne z'] at q'; exact S1.dis j k e e' b q q' p p'
      · have e2 : Ext pa G (upd G a (.lst xs)) H H σ s (s.freeze i) := freeze_ext i (fun b o e => by
          by_cases z : b = a
          · subst z; exact .inr (.inr own)
          · rw [upd_ne z] at e; exact .inl e) gk
        refine ⟨E.hk, E.gk.trans gk, fun b o e => ?_, e2.ln.trans E.ln, fun j h => e2.sn j (E.sn j h), fun j d f h => ?_⟩
        · by_cases z : b = a
          · subst z; exact .inr (.inr (E.own own))
          · rw [upd_ne z] at e; exact E.gn b o e
        · obtain ⟨f1, a1, a2⟩ := E.sl j d f h
          obtain ⟨f2, a3, a4⟩ := e2.sl j d f1 a1
          exact ⟨f2, a3, fun z => a2 (a4 z)⟩
      · by_cases z : b = a
        · subst z; exact .inr ⟨rfl, _, rfl⟩
        · rw [upd_ne z] at e; exact .inl e
end
end Fs

set_option Elab.async false
set_option linter.all false
set_option maxRecDepth 100000
set_option maxHeartbeats 4000000
namespace Fs
open PySem L2

structure Em where
  ps : List Pos
  sc : List Scope
  st : List Stmt
def Em.p (E : Em) : Pos := E.ps.headD ⟨0, 0, 0, 0⟩
def Em.np (E : Em) : Em := { E with ps := E.ps.tail }
def noScope : Scope := { kind := .function, names := [], isGenerator := false, isCoroutine := false }
def Em.s (E : Em) : Scope := E.sc.headD noScope
def Em.ns (E : Em) : Em := { E with sc := E.sc.tail }
def nm (N : List Str) (i : Nat) : Str := N.getD i ""

def Ty5.name : Ty5 → Str
  | .int => "int" | .bool => "bool" | .tuple => "tuple" | .list => "list" | .str => "str"
def Ty5.ty : Ty5 → String
  | .int => "int" | .bool => "bool" | .tuple => "tuple" | .list => "list" | .str => "str"
def Bf.name : Bf → Str
  | .len => "len" | .all => "all" | .any => "any" | .sum => "sum" | .max => "max" | .min => "min"
  | .tuple => "tuple" | .list => "list" | .repr => "repr" | .int => "int" | .sset => "sorted" | .lrange => "list" | .rev1 => "" | .cnt => "" | .trange => "tuple" | .lenm => "list" | .stri => "str" | .slen => "len" | .up => "" | .dnew => "" | .srt => "sorted" | .stp => "" | .stl => "" | .sth => "" | .st3 => "" | .idx => "" | .mth _ => ""

def emNames (N : List Str) : List Nat → Em → List Expr × Em
  | [], E => ([], E)
  | i :: is, E =>
    let r := emNames N is E.np
    (.Name (nm N i) E.p :: r.1, r.2)
def emTr (N : List Str) : Tr → Em → Expr × Em
  | .v i, E => (.Name (nm N i) E.p, E.np)
  | .t is, E =>
    let r := emNames N is E.np
    (.Tuple r.1 0 E.p, r.2)
  | .n i is, E =>
    let r := emNames N is E.np.np.np
    (.Tuple [.Name (nm N i) E.np.p, .Tuple r.1 0 E.np.np.p] 0 E.p, r.2)

mutual
def emE (N : List Str) : IE → Em → Expr × Em
  | .var i, E => (.Name (nm N i) E.p, E.np)
  | .int n, E => (.Constant (.int n) 0 E.p, E.np)
  | .bool b, E => (.Constant (.bool b) 0 E.p, E.np)
  | .non, E => (.Constant .none 0 E.p, E.np)
  | .str x, E => (.Constant (.str x) 0 E.p, E.np)
  | .glob x _, E => (.Name x E.p, E.np)
  | .bin op a b, E =>
    let r := emE N a E.np
    let q := emE N b r.2
    (.BinOp r.1 op q.1 E.p, q.2)
  | .neg a, E =>
    let r := emE N a E.np
    (.UnaryOp .USub r.1 E.p, r.2)
  | .not a, E =>
    let r := emE N a E.np
    (.UnaryOp .Not r.1 E.p, r.2)
  | .cmp op a b, E =>
    let r := emE N a E.np
    let q := emE N b r.2
    (.Compare r.1 [op] [q.1] E.p, q.2)
  | .isN a, E =>
    let r := emE N a E.np
    (.Compare r.1 [.Is] [.Constant .none 0 r.2.p] E.p, r.2.np)
  | .notN a, E =>
    let r := emE N a E.np
    (.Compare r.1 [.IsNot] [.Constant .none 0 r.2.p] E.p, r.2.np)
  | .cmp2 o p a b c, E =>
    let r := emE N a E.np
    let q := emE N b r.2
    let t := emE N c q.2
    (.Compare r.1 [o, p] [q.1, t.1] E.p, t.2)
  | .and es, E =>
    let r := emEs N es E.np
    (.BoolOp .And r.1 E.p, r.2)
  | .or es, E =>
    let r := emEs N es E.np
    (.BoolOp .Or r.1 E.p, r.2)
  | .ite c a b, E =>
    let r := emE N c E.np
    let q := emE N a r.2
    let t := emE N b q.2
    (.IfExp r.1 q.1 t.1 E.p, t.2)
  | .tup es, E =>
    let r := emEs N es E.np
    (.Tuple r.1 0 E.p, r.2)
  | .lst es, E =>
    let r := emEs N es E.np
    (.List r.1 E.p, r.2)
  | .ix a b, E =>
    let r := emE N a E.np
    let q := emE N b r.2
    (.Subscript r.1 q.1 E.p, q.2)
  | .sl a lo hi, E =>
    let r := emE N a E.np.np
    let q := emO N lo r.2
    let t := emO N hi q.2
    (.Subscript r.1 (.Slice q.1 t.1 none E.np.p) E.p, t.2)
  | .isi a t, E =>
    let r := emE N a E.np.np
    (.Call (.Name "isinstance" E.np.p) [r.1, .Name t.name r.2.p] [] E.p, r.2.np)
  | .blt .sset es, E =>
    let r := emEs N es E.np.np.np.np
    (.Call (.Name "sorted" E.np.p) [.Call (.Name "set" E.np.np.np.p) r.1 [] E.np.np.p] [] E.p, r.2)
  | .blt .lrange es, E =>
    let r := emEs N es E.np.np.np.np
    (.Call (.Name "list" E.np.p) [.Call (.Name "range" E.np.np.np.p) r.1 [] E.np.np.p] [] E.p, r.2)
  | .blt .trange es, E =>
    let r := emEs N es E.np.np.np.np
    (.Call (.Name "tuple" E.np.p) [.Call (.Name "range" E.np.np.np.p) r.1 [] E.np.np.p] [] E.p, r.2)
  | .blt .slen es, E =>
    let r := emEs N es E.np.np.np.np
    (.Call (.Name "len" E.np.p) [.Call (.Name "set" E.np.np.np.p) r.1 [] E.np.np.p] [] E.p, r.2)
  | .blt .lenm es, E =>
    let r := emEs N es E.np.np.np.np
    (.Call (.Name "list" E.np.p) [.Call (.Name "enumerate" E.np.np.np.p) r.1 [] E.np.np.p] [] E.p, r.2)
  | .blt .rev1 es, E =>
    let r := emEs N es E.np.np.np.np
    (.Subscript (r.1.headD (.Name "" E.p)) (.Slice none none (some (.UnaryOp .USub (.Constant (.int 1) 0 E.np.np.np.p) E.np.np.p)) E.np.p) E.p, r.2)
  | .blt .cnt es, E =>
    let r := emEs N es E.np.np
    (.Call (.Attribute (r.1.headD (.Name "" E.p)) "count" E.np.p) r.1.tail [] E.p, r.2)
  | .blt .idx es, E =>
    let r := emEs N es E.np.np
    (.Call (.Attribute (r.1.headD (.Name "" E.p)) "index" E.np.p) r.1.tail [] E.p, r.2)
  | .blt .up es, E =>
    let r := emEs N es E.np.np
    (.Call (.Attribute (r.1.headD (.Name "" E.p)) "upper" E.np.p) r.1.tail [] E.p, r.2)
  | .blt (.mth m) es, E =>
    let r := emEs N es E.np.np
    (.Call (.Attribute (r.1.headD (.Name "" E.p)) m E.np.p) r.1.tail [] E.p, r.2)
  | .blt .stp es, E =>
    let r := emEs N es E.np.np
    (.Tuple (.Starred (r.1.headD (.Name "" E.p)) E.np.p :: r.1.tail) 0 E.p, r.2)
  | .blt .stl es, E =>
    let r := emEs N es E.np.np
    (.List (.Starred (r.1.headD (.Name "" E.p)) E.np.p :: r.1.tail) E.p, r.2)
  | .blt .sth es, E =>
    let r := emEs N es E.np.np
    (.List [r.1.headD (.Name "" E.p), .Starred (r.1.tail.headD (.Name "" E.p)) E.np.p] E.p, r.2)
  | .blt .st3 es, E =>
    let r := emEs N es E.np.np.np
    (.Tuple [.Starred (r.1.headD (.Name "" E.p)) E.np.p, r.1.tail.headD (.Name "" E.p), .Starred (r.1.tail.tail.headD (.Name "" E.p)) E.np.np.p] 0 E.p, r.2)
  | .blt .dnew _, E => (.Dict [] [] E.p, E.np)
  | .blt f es, E =>
    let r := emEs N es E.np.np
    (.Call (.Name f.name E.np.p) r.1 [] E.p, r.2)
  | .call x _ es, E =>
    let r := emEs N es E.np.np
    (.Call (.Name x E.np.p) r.1 [] E.p, r.2)
  | .one x a b, E =>
    let r := emE N a E.np.np
    let q := emE N b r.2
    (.Call (.Name x E.np.p) [r.1, q.1] [] E.p, q.2)
  | .pix i j, E => (.Subscript (.Name (nm N i) E.np.p) (.Constant (.int j) 0 E.np.np.p) E.p, E.np.np.np)
  | .lc elt tg src ifs, E =>
    let t := emE N elt E.np.ns
    let g := emTr N tg t.2
    let r := emSr N src g.2
    let q := emEs N ifs r.2
    (.ListComp t.1 [⟨g.1, r.1, q.1, 0⟩] E.s E.p, q.2)
  | .isX x _ _ _ a, E =>
    let r := emE N a E.np.np
    (.Call (.Name "isinstance" E.np.p) [r.1, .Name x r.2.p] [] E.p, r.2.np)
  | .attr a m, E =>
    let r := emE N a E.np
    (.Attribute r.1 m E.p, r.2)
  | .cmp3 o p q a b c d, E =>
    let r := emE N a E.np
    let h := emE N b r.2
    let t := emE N c h.2
    let u := emE N d t.2
    (.Compare r.1 [o, p, q] [h.1, t.1, u.1] E.p, u.2)
  | .tab (.get n) x _ a, E =>
    let r := emE N a E.np.np.np
    (.Call (.Attribute (.Name x E.np.np.p) "get" E.np.p) [r.1, .Constant (.int n) 0 r.2.p] [] E.p, r.2.np)
  | .tab .mem x _ a, E =>
    let r := emE N a E.np
    (.Compare r.1 [.In] [.Name x r.2.p] E.p, r.2.np)
  | .tab .ix x _ a, E =>
    let r := emE N a E.np.np
    (.Subscript (.Name x E.np.p) r.1 E.p, r.2)
  | .calS x _ _ e, E =>
    let r := emE N e E.np.np.np
    (.Call (.Name x E.np.p) [.Starred r.1 E.np.np.p] [] E.p, r.2)
  | .fnv x _, E => (.Name x E.p, E.np)
  | .newX x _ _ a, E =>
    let r := emE N a E.np.np
    (.Call (.Name x E.np.p) [r.1] [] E.p, r.2)
  | .xat i m _ _, E => (.Attribute (.Name (nm N i) E.np.p) m E.p, E.np.np)
  | .calL i _ _ es, E =>
    let r := emEs N es E.np.np
    (.Call (.Name (nm N i) E.np.p) r.1 [] E.p, r.2)
  | .calLS i _ _ e, E =>
    let r := emE N e E.np.np.np
    (.Call (.Name (nm N i) E.np.p) [.Starred r.1 E.np.np.p] [] E.p, r.2)
  | .tabF x _ _ a, E =>
    let r := emE N a E.np.np
    (.Subscript (.Name x E.np.p) r.1 E.p, r.2)
def emEs (N : List Str) : IEs → Em → List Expr × Em
  | .nil, E => ([], E)
  | .cons e es, E =>
    let r := emE N e E
    let q := emEs N es r.2
    (r.1 :: q.1, q.2)
def emO (N : List Str) : IO → Em → Option Expr × Em
  | .none, E => (none, E)
  | .some e, E =>
    let r := emE N e E
    (some r.1, r.2)
def emSr (N : List Str) : Sr → Em → Expr × Em
  | .seq e, E => emE N e E
  | .enum e, E =>
    let r := emE N e E.np.np
    (.Call (.Name "enumerate" E.np.p) [r.1] [] E.p, r.2)
  | .zip a b, E =>
    let r := emE N a E.np.np
    let q := emE N b r.2
    (.Call (.Name "zip" E.np.p) [r.1, q.1] [] E.p, q.2)
  | .rng a, E =>
    let r := emE N a E.np.np
    (.Call (.Name "range" E.np.p) [r.1] [] E.p, r.2)
  | .rng2 a b, E =>
    let r := emE N a E.np.np
    let q := emE N b r.2
    (.Call (.Name "range" E.np.p) [r.1, q.1] [] E.p, q.2)
  | .rng3 a b c, E =>
    let r := emE N a E.np.np
    let q := emE N b r.2
    let t := emE N c q.2
    (.Call (.Name "range" E.np.p) [r.1, q.1, t.1] [] E.p, t.2)
end

def meth (N : List Str) (i : Nat) (m : Str) (args : List Expr) (E : Em) : Expr := .Call (.Attribute (.Name (nm N i) E.np.np.p) m E.np.p) args [] E.p

mutual
def emS (N : List Str) : IS → Em → Stmt × Em
  | .set i e, E =>
    let r := emE N e E.np.np
    (.Assign [.Name (nm N i) E.np.p] r.1 E.p, r.2)
  | .setLc i elt tg src ifs, E =>
    let r := emE N (.lc elt tg src ifs) E.np.np
    (.Assign [.Name (nm N i) E.np.p] r.1 E.p, r.2)
  | .setT is e, E =>
    let g := emTr N (.t is) E.np
    let r := emE N e g.2
    (.Assign [g.1] r.1 E.p, r.2)
  | .set2 is es, E =>
    let g := emTr N (.t is) E.np
    let r := emEs N es g.2.np
    (.Assign [g.1] (.Tuple r.1 0 g.2.p) E.p, r.2)
  | .setIx i k e, E =>
    let q := emE N k E.np.np.np
    let r := emE N e q.2
    (.Assign [.Subscript (.Name (nm N i) E.np.np.p) q.1 E.np.p] r.1 E.p, r.2)
  | .pset i j e, E =>
    let r := emE N e E.np.np.np.np
    (.Assign [.Subscript (.Name (nm N i) E.np.np.p) (.Constant (.int j) 0 E.np.np.np.p) E.np.p] r.1 E.p, r.2)
  | .aug op i e, E =>
    let r := emE N e E.np.np
    (.AugAssign (.Name (nm N i) E.np.p) op r.1 E.p, r.2)
  | .app i e, E =>
    let r := emE N e E.np.np.np.np
    (.Expr (meth N i "append" [r.1] E.np) E.p, r.2)
  | .ins i k e, E =>
    let q := emE N k E.np.np.np.np
    let r := emE N e q.2
    (.Expr (meth N i "insert" [q.1, r.1] E.np) E.p, r.2)
  | .pop j i k, E =>
    let q := emE N k E.np.np.np.np.np
    (.Assign [.Name (nm N j) E.np.p] (meth N i "pop" [q.1] E.np.np) E.p, q.2)
  | .ext i e, E =>
    let r := emE N e E.np.np.np.np
    (.Expr (meth N i "extend" [r.1] E.np) E.p, r.2)
  | .rev i, E => (.Expr (meth N i "reverse" [] E.np) E.p, E.np.np.np.np)
  | .expr e, E =>
    let r := emE N e E.np
    (.Expr r.1 E.p, r.2)
  | .ite c a b, E =>
    let r := emE N c E.np
    let q := emSs N a r.2
    let t := emSs N b q.2
    (.If r.1 q.1 t.1 E.p, t.2)
  | .for tg src body, E =>
    let g := emTr N tg E.np
    let r := emSr N src g.2
    let q := emSs N body r.2
    (.For g.1 r.1 q.1 [] E.p, q.2)
  | .while _ c body, E =>
    let r := emE N c E.np
    let q := emSs N body r.2
    (.While r.1 q.1 [] E.p, q.2)
  | .ret e, E =>
    let r := emE N e E.np
    (.Return (some r.1) E.p, r.2)
  | .retN, E => (.Return none E.p, E.np)
  | .pass, E => (.Pass E.p, E.np)
  | .brk, E => (.Break E.p, E.np)
  | .cont, E => (.Continue E.p, E.np)
  | .never, E => (E.st.headD (.Pass ⟨0, 0, 0, 0⟩), { E with st := E.st.tail })
def emSs (N : List Str) : ISs → Em → List Stmt × Em
  | .nil, E => ([], E)
  | .cons s ss, E =>
    let r := emS N s E
    let q := emSs N ss r.2
    (r.1 :: q.1, q.2)
end

def visB (N : List Str) (sc : Scope) (i : Nat) : Bool :=
  match N[i]? with
  | some x => (match sc.names.lookup x with
    | some .local => true
    | some .cell => true
    | some .free => true
    | _ => false) && !(x == ("__debug__" : Str)) && !(x == ("__classdict__" : Str))
  | none => false
/-- a name that may be stored: a local, a cell of the def's own -/
def locB (N : List Str) (sc : Scope) (i : Nat) : Bool :=
  match N[i]? with
  | some x => (match sc.names.lookup x with
    | some .local => true
    | some .cell => true
    | _ => false)
  | none => false
/-- a name of a comprehension's own (a local, or a cell) -/
def glB (sc : Scope) (x : Str) : Bool := (match sc.names.lookup x with
    | some .globalImplicit => true
    | _ => false) && !(x == ("__debug__" : Str))
def ownOf (N : List Str) (is : List Nat) : List (Str × Nat) := is.map fun i => (nm N i, i)

def twoIE : IEs → Bool
  | .cons _ (.cons _ .nil) => true
  | _ => false
def threeIE : IEs → Bool
  | .cons _ (.cons _ (.cons _ .nil)) => true
  | _ => false
def oneIE : IEs → Bool
  | .cons _ .nil => true
  | _ => false
def noIE : IEs → Bool
  | .nil => true
  | _ => false
def var1IE : IEs → Bool
  | .cons (.var _) .nil => true
  | _ => false
def varIE : IEs → Bool
  | .cons (.var _) (.cons _ .nil) => true
  | _ => false
mutual
def okE (N : List Str) (sc : Scope) : IE → Em → Bool
  | .var i, _ => visB N sc i
  | .int _, _ => true
  | .bool _, _ => true
  | .non, _ => true
  | .str _, _ => true
  | .glob x d, _ => glB sc x && scal d
  | .bin _ a b, E => okE N sc a E.np && okE N sc b (emE N a E.np).2
  | .neg a, E => okE N sc a E.np
  | .not a, E => okE N sc a E.np
  | .cmp _ a b, E => okE N sc a E.np && okE N sc b (emE N a E.np).2
  | .isN a, E => okE N sc a E.np
  | .notN a, E => okE N sc a E.np
  | .cmp2 _ _ a b c, E => okE N sc a E.np && (okE N sc b (emE N a E.np).2 && okE N sc c (emE N b (emE N a E.np).2).2)
  | .and es, E => okEs N sc es E.np
  | .or es, E => okEs N sc es E.np
  | .ite c a b, E => okE N sc c E.np && (okE N sc a (emE N c E.np).2 && okE N sc b (emE N a (emE N c E.np).2).2)
  | .tup es, E => okEs N sc es E.np && decide ((emEs N es E.np).1.length ≤ 1000)
  | .lst es, E => okEs N sc es E.np && decide ((emEs N es E.np).1.length ≤ 1000)
  | .ix a b, E => okE N sc a E.np && okE N sc b (emE N a E.np).2
  | .sl a lo hi, E => okE N sc a E.np.np && (okO N sc lo (emE N a E.np.np).2 && okO N sc hi (emO N lo (emE N a E.np.np).2).2)
  | .isi a t, E => okE N sc a E.np.np && (glB sc "isinstance" && glB sc t.name)
  | .blt .sset es, E => okEs N sc es E.np.np.np.np && (glB sc "sorted" && glB sc "set")
  | .blt .lrange es, E => okEs N sc es E.np.np.np.np && (glB sc "list" && glB sc "range")
  | .blt .trange es, E => okEs N sc es E.np.np.np.np && (glB sc "tuple" && glB sc "range")
  | .blt .slen es, E => okEs N sc es E.np.np.np.np && (glB sc "len" && glB sc "set")
  | .blt .lenm es, E => okEs N sc es E.np.np.np.np && (glB sc "list" && glB sc "enumerate")
  | .blt .rev1 es, E => okEs N sc es E.np.np.np.np && oneIE es
  | .blt .cnt es, E => okEs N sc es E.np.np && (varIE es && (E.np.p.endLine == E.p.line))
  | .blt .idx es, E => okEs N sc es E.np.np && (varIE es && (E.np.p.endLine == E.p.line))
  | .blt .up es, E => okEs N sc es E.np.np && (var1IE es && (E.np.p.endLine == E.p.line))
  | .blt (.mth _) es, E => okEs N sc es E.np.np && (true && (E.np.p.endLine == E.p.line))
  | .blt .stp es, E => okEs N sc es E.np.np && twoIE es
  | .blt .stl es, E => okEs N sc es E.np.np && twoIE es
  | .blt .sth es, E => okEs N sc es E.np.np && twoIE es
  | .blt .st3 es, E => okEs N sc es E.np.np.np && threeIE es
  | .blt .dnew es, _ => noIE es
  | .blt f es, E => okEs N sc es E.np.np && glB sc f.name
  | .call x _ es, E => okEs N sc es E.np.np && (glB sc x && !(emEs N es E.np.np).1.isEmpty)
  | .one x a b, E => okE N sc a E.np.np && (okE N sc b (emE N a E.np.np).2 && glB sc x)
  | .pix i _, _ => visB N sc i
  | .lc elt tg src ifs, E =>
    okE N (relS E.s sc) elt E.np.ns && ((!src.pairs || tg.isT) && blkC N sc E.s (ownOf N tg.slots) && ((tg.slots.all fun i => locB N E.s i) && (tg.slots.all fun i => decide (N[i]? = some (nm N i))) &&
      (okSr N sc src (emTr N tg (emE N elt E.np.ns).2).2 &&
        (okEs N (relS E.s sc) ifs (emSr N src (emTr N tg (emE N elt E.np.ns).2).2).2 && decide ((emEs N ifs (emSr N src (emTr N tg (emE N elt E.np.ns).2).2).2).1.length ≤ 1)))))
  | .isX x _ _ _ a, E => okE N sc a E.np.np && (glB sc "isinstance" && glB sc x)
  | .attr a _, E => okE N sc a E.np
  | .cmp3 _ _ _ a b c d, E => okE N sc a E.np && (okE N sc b (emE N a E.np).2 && (okE N sc c (emE N b (emE N a E.np).2).2 && okE N sc d (emE N c (emE N b (emE N a E.np).2).2).2))
  | .tab (.get _) x _ a, E => okE N sc a E.np.np.np && (glB sc x && (E.np.p.endLine == E.p.line))
  | .tab .mem x _ a, E => okE N sc a E.np && glB sc x
  | .tab .ix x _ a, E => okE N sc a E.np.np && glB sc x
  | .calS x _ _ e, E => okE N sc e E.np.np.np && glB sc x
  | .fnv x _, _ => glB sc x
  | .newX x _ _ a, E => okE N sc a E.np.np && glB sc x
  | .xat i _ _ _, _ => visB N sc i
  | .calL i _ _ es, E => okEs N sc es E.np.np && (visB N sc i && !(emEs N es E.np.np).1.isEmpty)
  | .calLS i _ _ e, E => okE N sc e E.np.np.np && visB N sc i
  | .tabF x _ _ a, E => okE N sc a E.np.np && glB sc x
def okEs (N : List Str) (sc : Scope) : IEs → Em → Bool
  | .nil, _ => true
  | .cons e es, E => okE N sc e E && okEs N sc es (emE N e E).2
def okO (N : List Str) (sc : Scope) : IO → Em → Bool
  | .none, _ => true
  | .some e, E => okE N sc e E
def okSr (N : List Str) (sc : Scope) : Sr → Em → Bool
  | .seq e, E => okE N sc e E
  | .enum e, E => okE N sc e E.np.np && glB sc "enumerate"
  | .zip a b, E => okE N sc a E.np.np && (okE N sc b (emE N a E.np.np).2 && glB sc "zip")
  | .rng a, E => okE N sc a E.np.np && glB sc "range"
  | .rng2 a b, E => okE N sc a E.np.np && (okE N sc b (emE N a E.np.np).2 && glB sc "range")
  | .rng3 a b c, E => okE N sc a E.np.np && (okE N sc b (emE N a E.np.np).2 && (okE N sc c (emE N b (emE N a E.np.np).2).2 && glB sc "range"))
end

/-- what the calls of a text ask -/
structure Ask where
  glob : Str → D → Prop
  call : Str → Fn → Nat → Prop
  one : Str → Prop
  isx : Str → (Str → Nat) → List Str → (Str → Bool) → Prop
  tab : Str → List (Str × Int) → Prop
  fnat : Str → (Str → Nat) → Prop
  tabf : Str → (Str → Nat) → List (Str × Str) → Prop
  newx : Str → (Str → Nat) → Option Str → Prop
  xat : Str → (Str → Nat) → List Str → Prop
def IEs.len : IEs → Nat
  | .nil => 0
  | .cons _ es => es.len + 1
mutual
def askE (P : Ask) : IE → Prop
  | .var _ => True
  | .int _ => True
  | .bool _ => True
  | .non => True
  | .str _ => True
  | .glob x d => P.glob x d
  | .bin _ a b => askE P a ∧ askE P b
  | .neg a => askE P a
  | .not a => askE P a
  | .cmp _ a b => askE P a ∧ askE P b
  | .isN a => askE P a
  | .notN a => askE P a
  | .cmp2 _ _ a b c => askE P a ∧ askE P b ∧ askE P c
  | .and es => askEs P es
  | .or es => askEs P es
  | .ite c a b => askE P c ∧ askE P a ∧ askE P b
  | .tup es => askEs P es
  | .lst es => askEs P es
  | .ix a b => askE P a ∧ askE P b
  | .sl a lo hi => askE P a ∧ askO P lo ∧ askO P hi
  | .isi a _ => askE P a
  | .blt _ es => askEs P es
  | .call x F es => P.call x F es.len ∧ askEs P es
  | .one x a b => P.one x ∧ askE P a ∧ askE P b
  | .pix _ _ => True
  | .lc elt _ src ifs => askE P elt ∧ askSr P src ∧ askEs P ifs
  | .isX x adr names sub a => P.isx x adr names sub ∧ askE P a
  | .attr _ _ => True
  | .cmp3 _ _ _ a b c d => askE P a ∧ askE P b ∧ askE P c ∧ askE P d
  | .tab _ x tb a => P.tab x tb ∧ askE P a
  | .calS x F n e => P.call x F n ∧ askE P e
  | .fnv x adr => P.fnat x adr
  | .newX x adr f a => P.newx x adr f ∧ askE P a
  | .xat _ m adr names => P.xat m adr names
  | .calL _ adr fs es => (∀ p ∈ fs, P.call p.1 p.2 es.len ∧ P.fnat p.1 adr) ∧ askEs P es
  | .calLS _ adr fs e => (∀ p ∈ fs, P.call p.1 p.2.1 p.2.2 ∧ P.fnat p.1 adr) ∧ askE P e
  | .tabF x adr ks a => P.tabf x adr ks ∧ askE P a
def askEs (P : Ask) : IEs → Prop
  | .nil => True
  | .cons e es => askE P e ∧ askEs P es
def askO (P : Ask) : IO → Prop
  | .none => True
  | .some e => askE P e
def askSr (P : Ask) : Sr → Prop
  | .seq e => askE P e
  | .enum e => askE P e
  | .zip a b => askE P a ∧ askE P b
  | .rng a => askE P a
  | .rng2 a b => askE P a ∧ askE P b
  | .rng3 a b c => askE P a ∧ askE P b ∧ askE P c
end
mutual
def askS (P : Ask) : IS → Prop
  | .set _ e => askE P e
  | .setLc _ elt tg src ifs => askE P elt ∧ askSr P src ∧ askEs P ifs
  | .setT _ e => askE P e
  | .set2 _ es => askEs P es
  | .setIx _ k e => askE P k ∧ askE P e
  | .pset _ _ e => askE P e
  | .aug _ _ e => askE P e
  | .app _ e => askE P e
  | .ins _ k e => askE P k ∧ askE P e
  | .pop _ _ k => askE P k
  | .ext _ e => askE P e
  | .rev _ => True
  | .expr e => askE P e
  | .ite c a b => askE P c ∧ askSs P a ∧ askSs P b
  | .for _ src body => askSr P src ∧ askSs P body
  | .while _ c body => askE P c ∧ askSs P body
  | .ret e => askE P e
  | .retN => True
  | .pass => True
  | .brk => True
  | .cont => True
  | .never => True
def askSs (P : Ask) : ISs → Prop
  | .nil => True
  | .cons s ss => askS P s ∧ askSs P ss
end
end Fs

set_option Elab.async false
set_option linter.all false
set_option maxRecDepth 100000
set_option maxHeartbeats 4000000
namespace Fs
open PySem PySem.Spec PyProof.Rows L2
section
variable (l : Addr) (its : Array Value) (n : Nat) (dd : Option Addr) (sl : Array (Option Value)) (x : Int) (u : Tok)
theorem tmul_same (z0 : (decide (x < -(2 ^ 63)) || decide (x ≥ 2 ^ 63)) = false) (z1 : (its.isEmpty || x == 1) = true) :
    Meets (Builtin.«tuple.__mul__» ⟨[.ref l, .int x u], []⟩) (fun _ R s => s.heap.get? l = some { cls := .type "tuple", dict := dd, data := .seq its n, slots := sl } ∧ R (.ok (.ret (Value.ref l))) s) := by
  refine .of_wp fun prog w A R s h => ?_
  obtain ⟨hp, g, d, tk, os⟩ := s
  obtain ⟨hl, h⟩ := h
  have f1 := AutoSeq1.idx_int
  wp_walk using wpAny_loadPart' hl
  all_goals try (refine wpAny_ite_false (decide_eq_false (by rw [z0]; exact Bool.false_ne_true)) ?_; wp_walk using wpAny_loadPart' hl)
  all_goals try (refine wpAny_ite_true (decide_eq_true z1) ?_; wp_walk using wpAny_loadPart' hl)
  all_goals exact ⟨_, rfl, h⟩
theorem tmul_none (z0 : (decide (x < -(2 ^ 63)) || decide (x ≥ 2 ^ 63)) = false) (z1 : (its.isEmpty || x == 1) = false) (z2 : (decide (x ≤ 0) || its.isEmpty) = true) :
    Meets (Builtin.«tuple.__mul__» ⟨[.ref l, .int x u], []⟩) (fun _ R s => s.heap.get? l = some { cls := .type "tuple", dict := dd, data := .seq its n, slots := sl } ∧
      R (.ok (.ret (Value.ref s.heap.objs.size))) { s with heap := s.heap.push { cls := Value.type "tuple", data := Data.seq #[] }, toks := s.toks }) := by
  refine .of_wp fun prog w A R s h => ?_
  obtain ⟨hp, g, d, tk, os⟩ := s
  obtain ⟨hl, h⟩ := h
  have f1 := AutoSeq1.idx_int
  wp_walk using wpAny_loadPart' hl
  all_goals try (refine wpAny_ite_false (decide_eq_false (by rw [z0]; exact Bool.false_ne_true)) ?_; wp_walk using wpAny_loadPart' hl)
  all_goals try (refine wpAny_ite_false (decide_eq_false (by rw [z1]; exact Bool.false_ne_true)) ?_; wp_walk using wpAny_loadPart' hl)
  all_goals try (refine wpAny_ite_true (decide_eq_true z2) ?_; wp_walk using wpAny_loadPart' hl)
  all_goals exact ⟨_, rfl, h⟩
end
abbrev obT (us : List Value) : Obj := { cls := .type "tuple", data := .seq us.toArray }
section
variable {X : Cx} {pins : List (Addr × Obj)} {σ : L2.St} {H : Hp} {s : Shared}
theorem tup_new {us : List Value} {xs : List V} {Q : VK} (I : Inv X pins σ H s) (r : Vals xs us) (small : xs.length ≤ sizeLine) (q : mkT H Q xs) : EP X pins σ Q (.ref s.heap.objs.size) { s with heap := s.heap.push (obT us) } := by
  have isnew : H s.heap.objs.size = none := I.hok.fresh (Nat.le_refl _)
  have ob : ObjOk X.prog X.w (upd H s.heap.objs.size (.frz (obT us) (.tup xs))) (s.heap.push (obT us)) s.heap.objs.size (.frz (obT us) (.tup xs)) :=
    ⟨Heap.get?_push_size _ rfl, small, us, r, IsTup.new _ _⟩
  exact ⟨.ref _, _, I.laid (t' := s.toks) (fun c o z => Heap.get?_push_of_some _ z) (Nat.le_refl _) ob, rfl, q _ _ isnew rfl⟩
/-- a display -/
def tTupF (t : TA) : TE := fun σ H Q => t σ H fun xs H1 => xs.length ≤ sizeLine ∧ mkT H1 Q xs
theorem pe_tupF {es : List Expr} {t : TA} {k : Nat} {pos : Pos} (h : L2.PA X es t) : PE X (.Tuple es k pos) (tTupF t) :=
  ⟨fun ps0 s σ H Q I q => wpAny_Tuple_spliced (thn (h.run pos ps0 s σ H _ I q) fun us s1 ⟨xs, H1, I1, r, small, q1⟩ => ⟨r.length ▸ small, tup_new I1 r small q1⟩)⟩
/-- t + u -/
def rCatF (K : PySem.W.Frag) : R2 := fun x y H Q => ∃ a b xs ys, x = .ref a ∧ y = .ref b ∧ SqT K H a xs ∧ SqT K H b ys ∧ xs.length + ys.length ≤ sizeLine ∧
  (xs = [] → Q (.ref b) H) ∧ (ys = [] → Q (.ref a) H) ∧ mkT H Q (xs ++ ys)
theorem op_catF : OpR X (binaryOp .Add) (rCatF X.K) := by
  intro ps0 s σ H x y v u Q I rx ry ⟨a, b, xs, ys, ex, ey, ha, hb, small, q0, q1, q2⟩
  subst ex ey
  by_cases e0 : xs = []
  · exact op_catA ps0 s σ H _ _ v u Q I rx ry ⟨a, b, xs, ys, rfl, rfl, ha, hb, small, q0, fun n => absurd e0 n, fun n => absurd e0 n⟩
  · cases rx
    cases ry
    obtain ⟨us, ru, hu, -⟩ := I.tuple ha
    obtain ⟨ws, rw', hw, -⟩ := I.tuple hb
    have len := ru.append rw'
    refine HT.cat_tup hu hw (fun z => e0 (by subst z; cases ru; rfl)) (fun z => ?_) (fun _ => ?_) (by rw [← ru.length, ← rw'.length]; exact small)
    · refine ⟨.ref a, H, I, rfl, q1 ?_⟩
      subst z; cases rw'; rfl
    · exact tup_new I len (by rw [List.length_append]; exact small) q2
/-- t[lo:hi] -/
def rSlF (K : PySem.W.Frag) : V → Option Int → Option Int → Hp → VK → Prop := fun x lo hi H Q => ∃ a xs, x = .ref a ∧ SqT K H a xs ∧
  (HT.sIx xs.length 0 lo = 0 ∧ HT.sIx xs.length xs.length hi = xs.length → Q (.ref a) H) ∧ mkT H Q (cutV xs lo hi)
theorem sl_tupF : SlR X (rSlF X.K) := by
  intro ps0 s σ H x v vl vu lo hi sl Q I rx hs pl pu ⟨a, xs, ex, ha, q1, q2⟩
  by_cases whole : HT.sIx xs.length 0 lo = 0 ∧ HT.sIx xs.length xs.length hi = xs.length
  · exact sl_tupA ps0 s σ H x v vl vu lo hi sl Q I rx hs pl pu ⟨a, xs, ex, ha, q1, fun n => absurd whole n⟩
  · subst ex
    cases rx
    obtain ⟨us, ru, hu, small⟩ := I.tuple ha
    have size1 : us.toArray.size = xs.length := ru.length.symm
    refine ⟨"tuple", _, PyProof.Rows.slot_tuple_getitem.lookup, hu.typeIs, ?_⟩
    refine HT.getItem_tuple_cut hu hs pl pu (by rwa [size1]) ?_ (by rwa [size1])
    rw [size1]
    exact tup_new I ((ru.drop _).take _) (Nat.le_trans (cutV_length xs lo hi) small) q2
/-- tuple(l), tuple(t) -/
def rTupF (K : PySem.W.Frag) : List V → Hp → VK → Prop := fun vs H Q => ∃ p ys, vs = [.ref p] ∧ ((SqL K H p ys ∧ mkT H Q ys) ∨ (SqT K H p ys ∧ Q (.ref p) H))
theorem call_tupF : CallR X (.type "tuple") (rTupF X.K) := by
  intro ps0 s σ H vs us Q I r ⟨p, ys, ex, h⟩
  rcases h with ⟨hq, q⟩ | ⟨hq, q⟩
  · subst ex
    obtain ⟨u, rfl, ru⟩ := vals1 r
    cases ru
    obtain ⟨its, ri, hl, small⟩ := I.list hq
    refine call_tuple_list hl.isList (fun h' kept => ?_) (by rw [List.size_toArray, ← ri.length]; exact small)
    exact tup_new (s := { s with heap := h' }) (I.kept (t' := s.toks) kept) ri small q
  · exact call_tuple_of ps0 s σ H vs us Q I r ⟨p, ys, ex, .inr ⟨hq, q⟩⟩
/-- tuple(range(..)) -/
def tTupRgF (te : L2.St → Hp → (Int → Int → Hp → Prop) → Prop) : TE := fun σ H Q => te σ H fun a b H1 => RgOk a b ∧ mkT H1 Q (rgV a b)
theorem pe_tupRgF {e : Expr} {te : L2.St → Hp → (Int → Int → Hp → Prop) → Prop} {p pos : Pos} (calm : X.calm = true) (hg : Gl X "tuple") (hm : X.mg "tuple" = none) (he : PRg X e te)
    (na : starEach [e] X.env = (false, eval e X.env) :: starEach [] X.env) : PE X (.Call (.Name "tuple" p) [e] [] pos) (tTupRgF te) := by
  refine ⟨fun ps0 s σ H Q I h => Call_ (ld_blt I hg hm boot_tuple (PyProof.Rows.callWith_type1 (args_cons (thn (he ps0 s σ H _ I h) fun x s1 got => args_nil ?_) na) na))⟩
  obtain ⟨r, a, b, t, u, v, H1, rfl, hr, I1, ⟨b1, b2, b3, b4, b5⟩, q⟩ := got
  refine call_tuple_range (n := (b - a).toNat) (I1.ok.hd calm) hr (small_one b1 b2 b3 b4) (rangeSize_nat a b) b5 fun h' tk acc kept il => ?_
  have vals := vals_rg il
  have z := tup_new (s := { s1 with heap := h', toks := tk }) (I1.kept kept) vals (by rw [rgV_length, sizeLine_eq]; omega) q
  have e : obT acc.toList = { cls := .type "tuple", data := .seq acc } := by unfold obT; rw [Array.toArray_toList]
  rw [e] at z
  exact z
end
/-- t * k -/
def rRepF (K : PySem.W.Frag) : R2 := fun x y H Q => ∃ l k xs, x = .ref l ∧ y = .int k ∧ SqT K H l xs ∧ (-(2 ^ 63) ≤ k ∧ k ≤ 1000 ∧ xs.length ≤ 1000) ∧
  ((xs = [] ∨ k = 1) → Q (.ref l) H) ∧ mkT H Q (List.replicate k.toNat xs).flatten
theorem op_repF {X : Cx} : OpR X (binaryOp .Mult) (rRepF X.K) := by
  intro ps0 s σ H x y v u Q I rx ry ⟨l, k, xs, ex, ey, hT, ⟨h1, h2, h3⟩, q1, q2⟩
  subst ex ey
  cases rx
  obtain ⟨t, rfl⟩ := ry
  obtain ⟨its, r, ⟨⟨cls, dd, data, sl⟩, ho, hc, n, hd⟩, hs⟩ := I.tuple hT
  simp only at hc hd
  subst hc hd
  have len := r.length
  have z0 : (decide (k < -(2 ^ 63)) || decide (k ≥ 2 ^ 63)) = false := by
    rw [Bool.or_eq_false_iff]
    exact ⟨decide_eq_false (by omega), decide_eq_false (by omega)⟩
  have small : (List.replicate k.toNat xs).flatten.length ≤ 1000000 := by
    rw [PyProof.Rows.lm_len_rep_flat]
    have := Nat.mul_le_mul (show k.toNat ≤ 1000 by omega) h3
    omega
  refine wpAny_binaryOp_repeat_ref (U := "int") (T := "tuple") (by decide) ⟨_, ho, rfl⟩ (fun s' => typeIs_int s' k t) noFill_tuple_mul F.fills_int_mul F.slot_int_rmul repeat_tuple F.slot_int_index.lookup ?_
  refine call_meets F.slot_int_rmul (typeIs_int s k t) F.entry_int_rmul (F.args_int_rmul_2 _ _) (int_rmul_tuple k t l its.toArray n dd sl) ⟨ho, rfl, ⟨_, ho, rfl⟩, ?_⟩
  have same : ((its.toArray.isEmpty || k == 1) = true) → (xs = [] ∨ k = 1) := fun z => by
    cases its with
    | nil => cases r; exact .inl rfl
    | cons _ _ => exact .inr (by simpa using z)
  by_cases z1 : (its.toArray.isEmpty || k == 1) = true
  · exact call_meets F.slot_tuple_mul ⟨_, ho, rfl⟩ F.entry_tuple_mul (F.args_tuple_mul_2 _ _) (tmul_same l its.toArray n dd sl k t z0 z1) ⟨ho, .ref l, H, I, rfl, q1 (same z1)⟩
  · have z1 : (its.toArray.isEmpty || k == 1) = false := by simpa using z1
    obtain ⟨ne, k1⟩ := Bool.or_eq_false_iff.mp z1
    by_cases k0 : k ≤ 0
    · refine call_meets F.slot_tuple_mul ⟨_, ho, rfl⟩ F.entry_tuple_mul (F.args_tuple_mul_2 _ _) (tmul_none l its.toArray n dd sl k t z0 z1 (by rw [decide_eq_true k0]; rfl)) ⟨ho, ?_⟩
      rw [show k.toNat = 0 by omega] at q2
      exact tup_new I .nil (Nat.zero_le _) q2
    · have few : ((its.toArray.size : Nat) : Int) * k ≤ 1000000 := by
        rw [List.size_toArray, ← len]
        have := Int.mul_le_mul_of_nonneg_right (show (xs.length : Int) ≤ 1000 by omega) (show 0 ≤ k by omega)
        omega
      refine call_meets F.slot_tuple_mul ⟨_, ho, rfl⟩ F.entry_tuple_mul (F.args_tuple_mul_2 _ _) (tuple_mulW l its.toArray n dd sl k t z0 z1 (by rw [ne, decide_eq_false k0]; rfl) (by omega) (by
        unfold Builtin.Tuple.tupleTooMany
        rw [sizeLine_eq]
        exact decide_eq_false (by omega)) (by
        rw [size_rep, List.size_toArray, PyProof.Rows.lm_len_rep_flat, ← len, sizeLine_eq, ← PyProof.Rows.lm_len_rep_flat]
        omega)) ⟨ho, ?_⟩
      rw [size_rep]
      exact tup_new I (r.rep k.toNat) (by rw [sizeLine_eq]; omega) q2
end Fs

set_option Elab.async false
set_option linter.all false
set_option maxRecDepth 100000
set_option maxHeartbeats 4000000
namespace Fs
open PySem L2

/-- new tuples at as, of old values -/
inductive News (pa : PA) (G H H1 : Hp) : List Addr → List D → Prop where
  | nil : News pa G H H1 [] []
  | cons {a : Addr} {xs : List V} {ds : List D} {as : List Addr} {es : List D} : H a = none → TupAt H1 a xs → Rps pa G xs ds → News pa G H H1 as es → News pa G H H1 (a :: as) (.tuple ds :: es)
/-- what an operation gave: an old value, a new tuple, a new list, a new list of new tuples -/
def Res (pa : PA) (G H : Hp) (v : V) (d : D) (fr : Bool) (H1 : Hp) : Prop :=
  Sub H H1 ∧ ((fr = false ∧ (Rp pa G v d ∨ ∃ a xs ds, v = .ref a ∧ d = .tuple ds ∧ H a = none ∧ TupAt H1 a xs ∧ Rps pa G xs ds)) ∨
    (fr = true ∧ ((∃ a xs ds, v = .ref a ∧ d = .list ds ∧ H a = none ∧ H1 a = some (.lst xs) ∧ Rps pa G xs ds) ∨
      ∃ a as es, v = .ref a ∧ d = .list es ∧ H a = none ∧ H1 a = some (.lst (as.map V.ref)) ∧ as.Nodup ∧ a ∉ as ∧ News pa G H H1 as es)))
section
variable {pa : PA} {H0 G0 G G1 H H1 : Hp} {σ : L2.St} {s s1 : S} {v : V} {d : D}
theorem Res.old (r : Rp pa G v d) : Res pa G H v d false H := ⟨.refl, .inl ⟨rfl, .inl r⟩⟩
theorem Res.tup {Q : VK} {xs : List V} {ds : List D} (k : ∀ v H1, Res pa G H v (.tuple ds) false H1 → Q v H1) (r : Rps pa G xs ds) : mkT H Q xs :=
  fun a _ h b => k _ _ ⟨.upd h, .inl ⟨rfl, .inr ⟨a, xs, ds, rfl, rfl, h, .here b, r⟩⟩⟩
theorem Res.lst {a : Addr} {xs : List V} {ds : List D} (h : H a = none) (r : Rps pa G xs ds) : Res pa G H (.ref a) (.list ds) true (upd H a (.lst xs)) :=
  ⟨.upd h, .inr ⟨rfl, .inl ⟨a, xs, ds, rfl, rfl, h, upd_same, r⟩⟩⟩

theorem PenAt.heap {p : Option Pn} (h : PenAt pa G H p) (k : Sub H H1) : PenAt pa G H1 p := by
  cases pa with
  | none => cases p with
    | none => trivial
    | some q => exact h.elim
  | some x =>
    obtain ⟨a, c, T⟩ := x
    cases p with
    | none => exact h.elim
    | some q => exact ⟨h.1, k _ _ h.2.1, h.2.2.1, h.2.2.2.1, tabs_sub h.2.2.2.2.1 k, h.2.2.2.2.2⟩
theorem Sim.none0 (S1 : Sim pa H0 G0 G σ H s) {a : Addr} (h : H a = none) : H0 a = none ∧ G a = none ∧ ¬ pen1 pa a ∧ ¬ OwnAt σ s a := by
  have np : ¬ pen1 pa a := fun n => by
    obtain ⟨o, e⟩ := S1.pen.there n
    rw [h] at e; cases e
  refine ⟨?_, ?_, np, ?_⟩
  · cases z : H0 a with
    | none => rfl
    | some o => have := S1.kee a o z np; rw [h] at this; cases this
  · cases z : G a with
    | none => rfl
    | some o => have := S1.sub a o z; rw [h] at this; cases this
  · rintro ⟨i, d, e1, e2⟩
    obtain ⟨b, xs, ds, e3, _, e4, _⟩ := S1.ow i d e1
    rw [e2] at e3; cases e3
    rw [h] at e4; cases e4
/-- the heap grows -/
theorem Sim.grow (S1 : Sim pa H0 G0 G σ H s) (k : Sub H H1) : Sim pa H0 G0 G σ H1 s where
  len := S1.len
  sub := S1.sub.trans k
  base := S1.base
  new := S1.new
  kee := fun a o h n => k _ _ (S1.kee a o h n)
  pen := S1.pen.heap k
  fz := S1.fz
  ow := fun i d h => by
    obtain ⟨a, xs, ds, e1, e2, e3, e4⟩ := S1.ow i d h
    exact ⟨a, xs, ds, e1, e2, k _ _ e3, e4⟩
  dis := S1.dis
/-- something new comes into G -/
theorem Sim.newG (S1 : Sim pa H0 G0 G σ H s) {a : Addr} {o : HO} (h : H a = some o) (g : G a = none) (h0 : H0 a = none) (n : ¬ pen1 pa a) (no : ¬ OwnAt σ s a) : Sim pa H0 G0 (upd G a o) σ H s := by
  have gk : Sub G (upd G a o) := .upd g
  refine ⟨S1.len, fun b u e => ?_, S1.base.trans gk, fun b u e => ?_, S1.kee, ?_, fun i d e => ?_, fun i d e => ?_, S1.dis⟩
  · by_cases z : b = a
    · subst z; rw [upd_same] at e; cases e; exact h
    · rw [upd_ne z] at e; exact S1.sub b u e
  · by_cases z : b = a
    · subst z; exact .inr h0
    · rw [upd_ne z] at e; exact S1.new b u e
  · have p := S1.pen
    refine p.up gk fun b hb => ?_
    rw [upd_ne]
    · exact p.free hb
    · rintro rfl; exact n hb
  · obtain ⟨v, e1, e2⟩ := S1.fz i d e
    exact ⟨v, e1, e2.mono gk⟩
  · obtain ⟨b, ys, es, e1, e2, e3, e4, e5, e6, e7⟩ := S1.ow i d e
    refine ⟨b, ys, es, e1, e2, e3, e4.mono gk, ?_, e6, e7⟩
    rw [upd_ne]
    · exact e5
    · rintro rfl; exact no ⟨i, d, e, e1⟩
theorem News.none : ∀ {as : List Addr} {es : List D}, News pa G H H1 as es → ∀ b ∈ as, H b = none
  | _, _, .nil, _, h => nomatch h
  | _, _, .cons n _ _ r, b, h => by
    rcases List.mem_cons.mp h with rfl | h
    · exact n
    · exact News.none r b h
theorem News.mono (k : Sub G G1) : ∀ {as : List Addr} {es : List D}, News pa G H H1 as es → News pa G1 H H1 as es
  | _, _, .nil => .nil
  | _, _, .cons n t r q => .cons n t (r.mono k) (News.mono k q)
theorem Sim.news {Gb : Hp} : ∀ {as : List Addr} {es : List D}, News pa Gb H H1 as es → ∀ {G : Hp}, Sub Gb G → Sim pa H0 G0 G σ H1 s → as.Nodup → (∀ b ∈ as, G b = none ∧ H0 b = none ∧ ¬ pen1 pa b ∧ ¬ OwnAt σ s b) →
    ∃ G1, Sim pa H0 G0 G1 σ H1 s ∧ Sub G G1 ∧ (∀ b o, G1 b = some o → G b = some o ∨ b ∈ as) ∧ Rps pa G1 (as.map V.ref) es
  | _, _, .nil, G, _, S1, _, _ => ⟨G, S1, .refl, fun _ _ e => .inl e, .nil⟩
  | _, _, .cons (a := a) (xs := xs) (as := as) n t r q, G, gk, S1, nd, h => by
    obtain ⟨o, h1, bare⟩ := t
    obtain ⟨g1, g2, g3, g4⟩ := h a (List.mem_cons_self ..)
    rw [List.nodup_cons] at nd
    obtain ⟨G1, S2, k, w, rr⟩ := Sim.news q (G := upd G a (.frz o (.tup xs))) (gk.trans (.upd g1)) (S1.newG h1 g1 g2 g3 g4) nd.2 fun b hb => by
      obtain ⟨z1, z2⟩ := h b (List.mem_cons_of_mem _ hb)
      exact ⟨by rw [upd_ne (fun z => nd.1 (by rw [← z]; exact hb))]; exact z1, z2⟩
    refine ⟨G1, S2, (Sub.upd g1).trans k, fun b u e => ?_, .cons (.tup ((TupAt.here bare).up k) (r.mono (gk.trans ((Sub.upd g1).trans k)))) rr⟩
    rcases w b u e with z | z
    · by_cases y : b = a
      · exact .inr (by rw [y]; exact List.mem_cons_self ..)
      · rw [upd_ne y] at z; exact .inl z
    · exact .inr (List.mem_cons_of_mem _ z)
/-- an operation's result, taken over -/
theorem Sim.res {fr : Bool} (S1 : Sim pa H0 G0 G σ H s) (r : Res pa G H v d fr H1) :
    ∃ G1, Sim pa H0 G0 G1 σ H1 s ∧ Ext pa G G1 H H1 σ s s ∧ RT pa H0 G1 σ H1 s v d (if fr then .fresh else .fz) ∧ NewT H v (if fr then .fresh else .fz) := by
  obtain ⟨k, r⟩ := r
  have S2 := S1.grow k
  rcases r with ⟨rfl, r | ⟨a, xs, ds, rfl, rfl, h, h1, r⟩⟩ | ⟨rfl, ⟨a, xs, ds, rfl, rfl, h, h1, r⟩ | ⟨a, as, es, rfl, rfl, h, h1, nd, na, r⟩⟩
  · exact ⟨G, S2, ⟨fun a o h _ => k a o h, .refl, fun _ _ h => .inl h, rfl, fun _ h => h, fun _ _ f h => ⟨f, h, fun z => z⟩⟩, r, fun z => by cases z⟩
  · obtain ⟨n1, n2, n3, n4⟩ := S1.none0 h
    obtain ⟨o, h1, bare⟩ := h1
    refine ⟨upd G a (.frz o (.tup xs)), S2.newG h1 n2 n1 n3 n4, ⟨fun a o h _ => k a o h, .upd n2, fun b u e => ?_, rfl, fun _ h => h, fun _ _ f h => ⟨f, h, fun z => z⟩⟩, .tup (.here bare) (r.mono (.upd n2)), fun z => by cases z⟩
    by_cases z : b = a
    · subst z; exact .inr (.inl h)
    · rw [upd_ne z] at e; exact .inl e
  · obtain ⟨n1, n2, n3, n4⟩ := S1.none0 h
    exact ⟨G, S2, ⟨fun a o h _ => k a o h, .refl, fun _ _ h => .inl h, rfl, fun _ h => h, fun _ _ f h => ⟨f, h, fun z => z⟩⟩, ⟨a, xs, ds, rfl, rfl, h1, r, n2, n1, n3, n4⟩, fun _ b e => by cases e; exact h⟩
  · obtain ⟨n1, n2, n3, n4⟩ := S1.none0 h
    obtain ⟨G1, S3, gk, w, rr⟩ := Sim.news r (G := G) .refl S2 nd fun b hb => by
      obtain ⟨m1, m2, m3, m4⟩ := S1.none0 (r.none b hb)
      exact ⟨m2, m1, m3, m4⟩
    have ga : G1 a = none := by
      cases z : G1 a with
      | none => rfl
      | some u => rcases w a u z with y | y
                  · rw [n2] at y; cases y
                  · exact absurd y na
    refine ⟨G1, S3, ⟨fun a o h _ => k a o h, gk, fun b u e => ?_, rfl, fun _ h => h, fun _ _ f h => ⟨f, h, fun z => z⟩⟩, ⟨a, as.map V.ref, es, rfl, rfl, h1, rr, ga, n1, n3, n4⟩, fun _ b e => by cases e; exact h⟩
    rcases w b u e with z | z
    · exact .inl z
    · exact .inr (.inl (r.none b z))
end

section
variable {pa : PA} {G H : Hp} {v : V}
theorem RpT.int {i : Int} (r : RpT pa G H v (.int i)) : v = .int i := by cases (show Rp pa G v (.int i) from r); rfl
theorem RpT.bl {i : Bool} (r : RpT pa G H v (.bool i)) : v = .bl i := by cases (show Rp pa G v (.bool i) from r); rfl
theorem RpT.str {i : Str} (r : RpT pa G H v (.str i)) : v = .str i := by cases (show Rp pa G v (.str i) from r); rfl
theorem RpT.non (r : RpT pa G H v .none) : v = .non := by cases (show Rp pa G v .none from r); rfl
theorem RpT.lst {ds : List D} (r : RpT pa G H v (.list ds)) : ∃ a xs, v = .ref a ∧ H a = some (.lst xs) ∧ Rps pa G xs ds := r
theorem RpT.tup {ds : List D} (r : RpT pa G H v (.tuple ds)) : ∃ a xs, v = .ref a ∧ TupAt G a xs ∧ Rps pa G xs ds := by
  cases (show Rp pa G v (.tuple ds) from r) with
  | tup h r => exact ⟨_, _, rfl, h, r⟩
theorem RpT.dicR {kvs : List (D × D)} (r : RpT pa G H v (.dict kvs)) : ∃ a, v = .ref a := by
  cases (show Rp pa G v (.dict kvs) from r) with
  | pen h => exact ⟨_, rfl⟩
  | fn => exact ⟨_, rfl⟩
  | exc h => exact ⟨_, rfl⟩
  | exa h x r => exact ⟨_, rfl⟩
  | dct h r => exact ⟨_, rfl⟩
theorem RpT.exa {C : Int} {c f : Str} {e : D} (r : RpT pa G H v (.dict [(.int C, .str c), (.str f, e)])) : ∃ (a D dx : Addr) (w : V), v = .ref a ∧ C = (D : Nat) ∧ ExAt G a (.ref D) (some dx) ∧ XdAt G dx f w ∧ Rp pa G w e := by
  cases (show Rp pa G v (.dict [(.int C, .str c), (.str f, e)]) from r) with
  | exa h x r => exact ⟨_, _, _, _, rfl, rfl, h, x, r⟩
theorem RpT.exc {C : Int} {c : Str} (r : RpT pa G H v (.dict [(.int C, .str c)])) : ∃ (a : Addr) (D : Addr), v = .ref a ∧ C = (D : Nat) ∧ ExAt G a (.ref D) none := by
  cases (show Rp pa G v (.dict [(.int C, .str c)]) from r) with
  | exc h => exact ⟨_, _, rfl, rfl, h⟩
theorem RpT.dp (u : Sub G H) (K : PySem.W.Frag) {d : D} {n : Nat} (g : good n d = true) (r : RpT pa G H v d) : Dp K H v d := (r.all u).dp K g
end

def rD2 (op : Operator) : R2 := fun x y H Q => ∃ pa G d1 d2 d fr, Sub G H ∧ RpT pa G H x d1 ∧ RpT pa G H y d2 ∧ binD op d1 d2 = some (d, fr) ∧ ∀ v H1, Res pa G H v d fr H1 → Q v H1
section
variable {X : Cx}
theorem op_bin (op : Operator) : OpR X (binaryOp op) (rD2 op) := by
  intro pins s σ H x y v u Q I rx ry h
  obtain ⟨pa, G, d1, d2, d, fr, gh, r1, r2, e, k⟩ := h
  cases op with
  | Add =>
    change addD d1 d2 = some (d, fr) at e
    unfold addD at e
    split at e
    · cases e; rw [r1.int] at rx; rw [r2.int] at ry
      exact op_add pins s σ H _ _ v u Q I rx ry ⟨_, _, rfl, rfl, k _ _ (.old (.int _))⟩
    · split at e
      · rename_i hz
        cases e
        obtain ⟨a, xs, rfl, ha, ra⟩ := r1.tup
        obtain ⟨b, ys, rfl, hb, rb⟩ := r2.tup
        refine op_catF pins s σ H _ _ v u Q I rx ry ⟨a, b, xs, ys, rfl, rfl, (ha.up gh).sq, (hb.up gh).sq, by rw [ra.len, rb.len]; exact hz, fun z => ?_, fun z2 => ?_, ?_⟩
        · subst z; cases ra
          exact k _ _ (.old (.tup hb rb))
        · subst z2; cases rb
          rw [List.append_nil] at k
          exact k _ _ (.old (.tup ha ra))
        · exact Res.tup k (ra.app rb)
      · cases e
    · split at e
      · rename_i hz
        cases e
        obtain ⟨a, xs, rfl, ha, ra⟩ := r1.lst
        obtain ⟨b, ys, rfl, hb, rb⟩ := r2.lst
        exact op_cat pins s σ H _ _ v u Q I rx ry ⟨a, b, xs, ys, rfl, rfl, ha, hb, by rw [ra.len, rb.len]; exact hz, fun p hp => k _ _ (.lst hp (ra.app rb))⟩
      · cases e
    · split at e
      · rename_i hz
        cases e; rw [r1.str] at rx; rw [r2.str] at ry
        exact op_add_str pins s σ H _ _ v u Q I rx ry ⟨_, _, rfl, rfl, hz, k _ _ (.old (.str _))⟩
      · cases e
    · cases e
  | Sub =>
    simp only [binD] at e
    split at e
    · cases e; rw [r1.int] at rx; rw [r2.int] at ry
      exact op_sub pins s σ H _ _ v u Q I rx ry ⟨_, _, rfl, rfl, k _ _ (.old (.int _))⟩
    · cases e
  | Mult =>
    change mulD d1 d2 = some (d, fr) at e
    unfold mulD at e
    split at e
    · split at e
      · rename_i hz
        cases e; rw [r1.int] at rx; rw [r2.int] at ry
        exact op_mul pins s σ H _ _ v u Q I rx ry ⟨_, _, rfl, rfl, hz, k _ _ (.old (.int _))⟩
      · cases e
    · split at e
      · rename_i hz
        cases e; rw [r2.int] at ry
        obtain ⟨a, xs, rfl, ha, ra⟩ := r1.lst
        exact op_rep pins s σ H _ _ v u Q I rx ry ⟨a, _, xs, rfl, rfl, ha, hz.1, hz.2.1, by rw [ra.len]; exact hz.2.2, fun p hp => k _ _ (.lst hp (ra.rep _))⟩
      · cases e
    · split at e
      · rename_i a1 k1 hz
        cases e; rw [r2.int] at ry
        obtain ⟨a, xs, rfl, ha, ra⟩ := r1.tup
        have rel : RelV (.int _) u := ry
        refine op_repF pins s σ H _ _ v u Q I rx ry ⟨a, _, xs, rfl, rfl, (ha.up gh).sq, ⟨hz.1, hz.2.1, by rw [ra.len]; exact hz.2.2⟩, fun z => ?_, Res.tup k (ra.rep _)⟩
        have : (List.replicate k1.toNat a1).flatten = a1 := by
          rcases z with rfl | rfl
          · cases ra; simp
          · simp
        rw [this] at k
        exact k _ _ (.old (.tup ha ra))
      · cases e
    · cases e
  | FloorDiv =>
    simp only [binD] at e
    split at e
    · split at e
      · rename_i hz
        cases e; rw [r1.int] at rx; rw [r2.int] at ry
        exact op_fdiv pins s σ H _ _ v u Q I rx ry ⟨_, _, rfl, rfl, hz, k _ _ (.old (.int _))⟩
      · cases e
    · cases e
  | Mod =>
    simp only [binD] at e
    split at e
    · split at e
      · rename_i hz
        cases e; rw [r1.int] at rx; rw [r2.int] at ry
        exact op_mod pins s σ H _ _ v u Q I rx ry ⟨_, _, rfl, rfl, hz, k _ _ (.old (.int _))⟩
      · cases e
    · cases e
  | Pow =>
    simp only [binD] at e
    split at e
    · split at e
      · rename_i hz
        cases e; rw [r1.int] at rx; rw [r2.int] at ry
        exact op_pow pins s σ H _ _ v u Q I rx ry ⟨_, _, rfl, rfl, hz, k _ _ (.old (.int _))⟩
      · cases e
    · cases e
  | _ => cases e

def rC2 (op : CmpOp) : R2 := fun x y H Q => ∃ pa G d1 d2 b, Sub G H ∧ RpT pa G H x d1 ∧ RpT pa G H y d2 ∧ cmpD op d1 d2 = some b ∧ Q (.bl b) H
theorem okEq_cases {x y : D} (h : okEq x y = true) : (∃ a b, x = .str a ∧ y = .str b) ∨ (good 60 x = true ∧ good 60 y = true) := by
  unfold okEq at h
  split at h
  · exact .inl ⟨_, _, rfl, rfl⟩
  · exact .inr (by simpa using h)
theorem eqv_str {a b : Str} : PyData.eqv (.str a) (.str b) = decide (V.str a = V.str b) := by
  rw [dec_str]
  first | rfl | simp [PyData.eqv]
theorem op_cmp (op : CmpOp) (hu : X.A.units + 65 < cLine) : OpR X (compareOp op) (rC2 op) := by
  intro pins s σ H x y v u Q I rx ry h
  obtain ⟨pa, G, d1, d2, b, gh, r1, r2, e, k⟩ := h
  have hu2 : X.A.units + 64 < cLine := by omega
  cases op with
  | Eq =>
    simp only [cmpD] at e
    split at e
    · rename_i hz
      cases e
      rcases okEq_cases hz with ⟨a, b, rfl, rfl⟩ | ⟨g1, g2⟩
      · rw [r1.str] at rx; rw [r2.str] at ry
        rw [eqv_str] at k
        exact op_eq pins s σ H _ _ v u Q I rx ry ⟨rfl, k⟩
      · exact op_eqD hu2 pins s σ H x y v u Q I rx ry ⟨d1, d2, r1.dp gh _ g1, r2.dp gh _ g2, good_shaped g1, good_shaped g2, k⟩
    · cases e
  | NotEq =>
    simp only [cmpD] at e
    split at e
    · rename_i hz
      cases e
      rcases okEq_cases hz with ⟨a, b, rfl, rfl⟩ | ⟨g1, g2⟩
      · rw [r1.str] at rx; rw [r2.str] at ry
        rw [eqv_str] at k
        exact op_ne pins s σ H _ _ v u Q I rx ry ⟨rfl, k⟩
      · exact op_neD hu2 pins s σ H x y v u Q I rx ry ⟨d1, d2, r1.dp gh _ g1, r2.dp gh _ g2, good_shaped g1, good_shaped g2, k⟩
    · cases e
  | Lt =>
    simp only [cmpD] at e
    split at e
    · cases e; rw [r1.int] at rx; rw [r2.int] at ry
      exact op_lt pins s σ H _ _ v u Q I rx ry ⟨_, _, rfl, rfl, k⟩
    · cases e
  | LtE =>
    simp only [cmpD] at e
    split at e
    · cases e; rw [r1.int] at rx; rw [r2.int] at ry
      exact op_le pins s σ H _ _ v u Q I rx ry ⟨_, _, rfl, rfl, k⟩
    · cases e
  | Gt =>
    simp only [cmpD] at e
    split at e
    · cases e; rw [r1.int] at rx; rw [r2.int] at ry
      exact op_gt pins s σ H _ _ v u Q I rx ry ⟨_, _, rfl, rfl, k⟩
    · cases e
  | GtE =>
    simp only [cmpD] at e
    split at e
    · cases e; rw [r1.int] at rx; rw [r2.int] at ry
      exact op_ge pins s σ H _ _ v u Q I rx ry ⟨_, _, rfl, rfl, k⟩
    · cases e
  | In =>
    simp only [cmpD] at e
    cases d2 with
    | list ds =>
      simp only [itemsD, Option.bind_some] at e
      split at e
      · rename_i hz
        cases e
        rcases okEq_cases hz with ⟨a, b, _, z⟩ | ⟨g1, g2⟩
        · cases z
        · exact op_inD hu pins s σ H x y v u Q I rx ry ⟨d1, ds, r1.dp gh _ g1, r2.dp gh _ g2, good_shaped g1, good_shaped g2, k⟩
      · cases e
    | tuple ds =>
      simp only [itemsD, Option.bind_some] at e
      split at e
      · rename_i hz
        cases e
        rcases okEq_cases hz with ⟨a, b, _, z⟩ | ⟨g1, g2⟩
        · cases z
        · obtain ⟨as, q1⟩ := Dp.reads I d1 x v (r1.dp gh _ g1) rx
          obtain ⟨bs, q2⟩ := Dp.reads I (.tuple ds) y u (r2.dp gh _ g2) ry
          have sd := good_shaped g1
          exact SeqAt.in_tuple_reads q2 q1 (SeqAt.canLay_of_shaped (good_shaped g2)) (SeqAt.canLay_of_shaped sd) (by
            have h1 := SeqAt.depth_of_shaped sd
            have h2 : min (PyData.depthAll ds) d1.depth ≤ d1.depth := Nat.min_le_right _ _
            omega) ⟨.bl _, H, I, rfl, k⟩
      · cases e
    | _ => cases e
  | NotIn =>
    simp only [cmpD] at e
    cases d2 with
    | list ds =>
      simp only [itemsD, Option.bind_some] at e
      split at e
      · rename_i hz
        cases e
        rcases okEq_cases hz with ⟨a, b, _, z⟩ | ⟨g1, g2⟩
        · cases z
        · exact op_notInD hu pins s σ H x y v u Q I rx ry ⟨d1, ds, r1.dp gh _ g1, r2.dp gh _ g2, good_shaped g1, good_shaped g2, k⟩
      · cases e
    | tuple ds =>
      simp only [itemsD, Option.bind_some] at e
      split at e
      · rename_i hz
        cases e
        rcases okEq_cases hz with ⟨a, b, _, z⟩ | ⟨g1, g2⟩
        · cases z
        · obtain ⟨as, q1⟩ := Dp.reads I d1 x v (r1.dp gh _ g1) rx
          obtain ⟨bs, q2⟩ := Dp.reads I (.tuple ds) y u (r2.dp gh _ g2) ry
          have sd := good_shaped g1
          exact SeqAt.notIn_tuple_reads q2 q1 (SeqAt.canLay_of_shaped (good_shaped g2)) (SeqAt.canLay_of_shaped sd) (by
            have h1 := SeqAt.depth_of_shaped sd
            have h2 : min (PyData.depthAll ds) d1.depth ≤ d1.depth := Nat.min_le_right _ _
            omega) ⟨.bl _, H, I, rfl, k⟩
      · cases e
    | _ => cases e
  | Is =>
    simp only [cmpD] at e
    split at e
    · cases e; rw [r1.bl] at rx; rw [r2.bl] at ry
      exact op_is_bl pins s σ H _ _ v u Q I rx ry ⟨_, _, rfl, rfl, k⟩
    · cases e
  | IsNot =>
    simp only [cmpD] at e
    split at e
    · cases e; rw [r1.bl] at rx; rw [r2.bl] at ry
      exact op_isnot_bl pins s σ H _ _ v u Q I rx ry ⟨_, _, rfl, rfl, k⟩
    · cases e

def rIxD : R2 := fun x y H Q => ∃ pa G d1 d2 d, Sub G H ∧ RpT pa G H x d1 ∧ RpT pa G H y d2 ∧ ixD d1 d2 = some d ∧ ∀ v, Rp pa G v d → Q v H
theorem Rps.atI {pa : PA} {G : Hp} {xs : List V} {ds : List D} {i : Int} {d : D} (r : Rps pa G xs ds) (h : L2.atI ds i = some d) : ∃ v, L2.atI xs i = some v ∧ Rp pa G v d := by
  unfold L2.atI at h ⊢
  rw [r.len]
  cases z : ixN ds.length i with
  | none => rw [z] at h; cases h
  | some j =>
    rw [z, Option.bind_some] at h
    obtain ⟨v, e, q⟩ := r.get h
    exact ⟨v, by rw [Option.bind_some]; exact e, q⟩
theorem dKey_V {pa : PA} {G H : Hp} {y : V} {d : D} {k : Key} (r : RpT pa G H y d) (e : dKey d = some k) : y = kV k := by
  unfold dKey at e
  split at e
  · cases e; exact r.int
  · cases e
    cases (show Rp pa G y (.str _) from r) with
    | str z => rfl
  · cases e
theorem Rks.look {pa : PA} {G : Hp} {k : Key} {d : D} : ∀ {kvs : List (Key × V)} {es : List (D × D)}, Rks pa G kvs es → lookK es k = some d → ∃ v, valV kvs k = some v ∧ Rp pa G v d
  | _, _, .nil, e => by cases e
  | _, _, .cons (k := k2) (v := v2) (kvs := kvs) r t, e => by
    unfold lookK at e
    have e1 : dKey (keyD k2) = some k2 := by cases k2 <;> rfl
    rw [e1] at e
    by_cases z : k2 = k
    · subst z
      rw [if_pos rfl] at e
      cases e
      refine ⟨v2, ?_, r⟩
      unfold valV
      rw [List.find?_cons, decide_eq_true rfl]; rfl
    · rw [if_neg (fun q => z (Option.some.inj q))] at e
      obtain ⟨v, h1, h2⟩ := Rks.look t e
      refine ⟨v, ?_, h2⟩
      unfold valV at h1 ⊢
      rw [List.find?_cons, decide_eq_false z]; exact h1
theorem ix_dict (hu : X.A.units + 1 < cLine) : IxR X (fun x y H Q => ∃ a v, x = .ref a ∧ DGet H a y (some v) ∧ Q v H) := by
  intro value slice pins s σ H x y v u Q I rx ry h hs
  obtain ⟨a, w, rfl, g, q⟩ := h
  obtain rfl : v = Value.ref a := rx
  exact PyProof.Rows.tail_any (dict_typeIs I g) PySem.F.slot_dict_getitem.lookup (d_getItem hu I g ry fun w' s3 I3 rw' => ⟨w, H, I3, rw', q⟩) hs
theorem ix_D (hu : X.A.units + 1 < cLine := by first | assumption | (have h := Fs.Cd.un (by assumption); omega)) : IxR X rIxD := by
  intro value slice pins s σ H x y v u Q I rx ry h hs
  obtain ⟨pa, G, d1, d2, d, gh, r1, r2, e, k⟩ := h
  unfold ixD at e
  split at e
  · rw [r2.int] at ry
    obtain ⟨a, xs, rfl, ha, ra⟩ := r1.lst
    obtain ⟨w, e1, q⟩ := ra.atI e
    exact ix_list value slice pins s σ H _ _ v u Q I rx ry ⟨a, xs, _, w, rfl, rfl, .of ha, e1, k w q⟩ hs
  · rw [r2.int] at ry
    obtain ⟨a, xs, rfl, ha, ra⟩ := r1.tup
    obtain ⟨w, e1, q⟩ := ra.atI e
    exact ix_tup value slice pins s σ H _ _ v u Q I rx ry ⟨a, xs, _, w, rfl, rfl, (ha.up gh).sq, e1, k w q⟩ hs
  · rename_i es0 y0
    obtain ⟨es, e1, e⟩ := Option.bind_eq_some_iff.mp e
    obtain ⟨kk, e2, e⟩ := Option.bind_eq_some_iff.mp e
    have ed := entsD_eq e1
    rw [ed] at r1
    obtain rfl := dKey_V r2 e2
    cases (show Rp pa G x (.dict ((.none, .none) :: es)) from r1) with
    | dct h r =>
      obtain ⟨w, l, q⟩ := r.look e
      exact ix_dict hu value slice pins s σ H _ _ v u Q I rx ry ⟨_, w, rfl, by rw [← l]; exact DGet.k (gh _ _ h), k w q⟩ hs
  · cases e
def rSlD : V → Option Int → Option Int → Hp → VK → Prop := fun x lo hi H Q => ∃ pa G d1 d fr, Sub G H ∧ RpT pa G H x d1 ∧ slD d1 (lo.map .int) (hi.map .int) = some (d, fr) ∧ ∀ v H1, Res pa G H v d fr H1 → Q v H1
theorem cut_rps {pa : PA} {G : Hp} {xs : List V} {ds : List D} (r : Rps pa G xs ds) (lo hi : Option Int) : Rps pa G (cutV xs lo hi) (cutD ds lo hi) := by
  unfold cutV cutD
  rw [r.len]
  exact (r.drop _).take _
theorem optI_map (o : Option Int) : optI (o.map .int) = some o := by cases o <;> rfl
theorem sl_D : SlR X rSlD := by
  intro pins s σ H x v vl vu lo hi sl Q I rx hs pl pu h
  obtain ⟨pa, G, d1, d, fr, gh, r1, e, k⟩ := h
  unfold slD at e
  rw [optI_map, optI_map, Option.bind_some, Option.bind_some] at e
  split at e
  · cases e
    obtain ⟨a, xs, rfl, ha, ra⟩ := r1.lst
    exact sl_list pins s σ H _ v vl vu lo hi sl Q I rx hs pl pu ⟨a, xs, rfl, .of ha, fun p hp => k _ _ (.lst hp (cut_rps ra lo hi))⟩
  · cases e
    obtain ⟨a, xs, rfl, ha, ra⟩ := r1.tup
    refine sl_tupF pins s σ H _ v vl vu lo hi sl Q I rx hs pl pu ⟨a, xs, rfl, (ha.up gh).sq, fun z => ?_, Res.tup k (cut_rps ra lo hi)⟩
    refine k _ _ (.old ?_)
    rename_i ds
    have : cutD ds lo hi = ds := by
      unfold cutD
      rw [← ra.len, z.1, z.2, List.drop_zero, Nat.sub_zero, ra.len, List.take_length]
    rw [this]
    exact .tup ha ra
  · split at e
    · rename_i hz
      cases e
      obtain rfl := RpT.str r1
      exact sl_str pins s σ H _ v vl vu lo hi sl Q I rx hs pl pu ⟨_, rfl, Nat.le_trans hz (by unfold sizeLine; decide), k _ _ (.old (.str _))⟩
    · cases e
  · cases e
end
end Fs

set_option Elab.async false
set_option linter.all false
set_option maxRecDepth 100000
set_option maxHeartbeats 4000000
namespace Fs
open PySem PySem.Spec PyProof.Rows L2

section
variable {P : Program} {w : World} {A : Around} {E : Value → Shared → Prop} {s : Shared}
abbrev bare0 (w : World) : Obj := { cls := .type "set", dict := none, data := .set #[] 0 (.fresh 0 0 (!w.params.followText "set-order")) }
abbrev heap1 (w : World) (s : Shared) : Heap := s.heap.push (bare0 w)
set_option maxHeartbeats 3200000 in
theorem set_of_ints {l : Addr} {items : Array Value} (ns : List Int) {Q : Value → Shared → Prop} (hh : A.handled = none)
    (hl : s.heap.IsList l items) (hit : IntsAre items.toList ns) (hb : ns.length + 1 < scanBound)
    (h : ∀ (h' : Heap) (tk c : Nat), SetR w h' s.heap.objs.size (fun j => decide (j ∈ ns)) c → c ≤ ns.length →
      (∀ b o, s.heap.get? b = some o → h'.get? b = some o) → Q (.ref s.heap.objs.size) { s with heap := h', toks := tk }) :
    wpAny (model P w) A (call (.type "set") [.ref l]) Q E s := by
  have size_eq : items.size = ns.length := by
    have q := IntsAre.length hit
    rwa [Array.length_toList] at q
  obtain ⟨c, tl, the_mro⟩ := F.called_set.mro
  have is_made := F.called_set.made
  have is_sub := F.called_set.sub
  refine wpAny_call (codeAny_of_tree ?_)
  show wpAny _ _ (callAny (.type "set") _) _ _ _
  refine wpAny_pure ⟨Code.quiet_builtin _ (by decide +kernel), codeAny_builtin F.entry_type_call ?_⟩
  rw [Around.under_plain (weight_type_call_type "set" [.ref l] []) rfl]
  have no_type := F.called_set.notType
  have may_make := F.called_set.canCreate
  have checked := F.typeCall_set_1 (.ref l)
  repeat (any_goals (first | assumption | wp_step))
  refine codeAny_mono (code_set_led1 (.ref l) (E := E)
    (Q₁ := fun obj s₁ => obj = .ref s.heap.objs.size ∧ s₁ = { s with heap := heap1 w s }) ⟨rfl, rfl⟩) fun r s₁ got => ?_
  cases r with
  | error e => exact got
  | ok fl =>
    cases fl with
    | ret obj =>
      obtain ⟨rfl, rfl⟩ := got
      have at0 : (heap1 w s).get? s.heap.objs.size = some (bare0 w) := Heap.get?_push_size _ rfl
      have type0 : Shared.TypeIs { s with heap := heap1 w s } (.ref s.heap.objs.size) "set" := ⟨_, at0, rfl⟩
      have look0 := F.called_set.init.lookup
      have bind0 := F.called_set.init.bind (.ref s.heap.objs.size)
      repeat (any_goals (first | assumption | wp_step))
      refine codeAny_mono (codeAny_call_builtin (R := wants (fun r s₂ => r = .none ∧ ∃ h' tk c, s₂ = { s with heap := h', toks := tk } ∧
          SetR w h' s.heap.objs.size (fun j => decide (j ∈ ns)) c ∧ c ≤ ns.length ∧ (∀ b o, s.heap.get? b = some o → h'.get? b = some o)) E)
          F.called_set.init.plain F.entry_set_init (check_set_init_1 type0 ?_)) fun r₂ s₂ got2 => ?_
      · obtain ⟨ol, at1, cls1, n1, dat1⟩ := hl
        obtain ⟨ocls, odict, odata, oslots⟩ := ol
        simp only at cls1 dat1
        subst cls1; subst dat1
        have at2 : (heap1 w s).get? l = some { cls := .type "list", dict := odict, data := .seq items n1, slots := oslots } := Heap.get?_push_of_some _ at1
        have no_set := F.sub_list_set
        have no_froz := F.sub_list_frozenset
        have no_dict : (Value.type "list" == Value.type "dict") = false := by decide
        have lst1 : (heap1 w s).IsList l items := ⟨_, at2, rfl, n1, rfl⟩
        unfold Builtin.«set.__init__» noKeywords Builtin.Frozenset.updateFrom
        generalize the_iter : pyIter = PI
        wp_walk
        subst the_iter
        refine wpAny_pyIter_list lst1 ?_
        refine wpAny_bind (wpAny_runValue ?_)
        have below : l < s.heap.objs.size := Heap.lt_size at1
        have hd3 : A.in1.in1.in1.handled = none := by simp [hh]
        have sz1 : (heap1 w s).objs.size = s.heap.objs.size + 1 := Heap.size_push ..
        have l_ne : l ≠ (heap1 w s).objs.size := by
          rw [sz1]; exact Nat.ne_of_lt (Nat.lt_succ_of_lt below)
        have not_in : s.heap.objs.size ∉ [(heap1 w s).objs.size, l] := by
          rw [sz1]
          simp only [List.mem_cons, List.mem_singleton, List.not_mem_nil, or_false, not_or]
          exact ⟨Nat.ne_of_lt (Nat.lt_succ_self _), Nat.ne_of_gt below⟩
        have vals1 : ∀ (i : Nat) (v : Value), items[i]? = some v → ∃ k t, ns[i]? = some k ∧ v = .int k t := fun i v hv => by
          have hi : i < ns.length := by rw [← size_eq]; exact (Array.getElem?_eq_some_iff.mp hv).1
          obtain ⟨t, e⟩ := PyProof.Rows.IntsAre.int_at hit i v (by rw [Array.getElem?_toList]; exact hv)
          exact ⟨ns[i], t, List.getElem?_eq_getElem hi, by rw [e, List.getD_eq_getElem?_getD, List.getElem?_eq_getElem hi] <;> rfl⟩
        refine set_update_ints ((Walks.list hd3 _ l l_ne items).toS) s.heap.objs.size
          not_in ns size_eq hb vals1 (items.size - 0) 0 _ (by omega) (Nat.zero_le _)
          ⟨⟨_, Heap.get?_push_size _ rfl, rfl, rfl⟩, (lst1.push _)⟩ ?first ?last
        case first =>
          exact ⟨0, Nat.le_refl 0, setR_new_at (Heap.get?_push_of_some _ at0)⟩
        case last =>
          intro s' c' mv le' set'
          obtain ⟨h', g2, d', tk', os'⟩ := s'
          have eg : g2 = s.gens := mv.gens
          have ed : d' = s.drawn := mv.drawn
          have eo : os' = s.os := mv.os
          subst eg; subst ed; subst eo
          show wpAny _ _ _ _ _ _
          refine wpAny_pure ?_
          show wpAny _ _ (ret Value.none) _ _ _
          rw [size_eq] at le'
          refine wpAny_pure ⟨rfl, h', tk', c', rfl, set', le', fun b o e => ?_⟩
          have b0 : b < s.heap.objs.size := Heap.lt_size e
          refine mv.heap b o ?_ (Heap.get?_push_of_some _ (Heap.get?_push_of_some _ e))
          simp only [List.mem_cons, List.mem_singleton, List.not_mem_nil, or_false, not_or]
          exact ⟨Nat.ne_of_lt b0, by rw [Heap.size_push]; exact Nat.ne_of_lt (Nat.lt_succ_of_lt b0)⟩
      · cases r₂ with
        | error e => exact got2
        | ok fl₂ =>
          cases fl₂ with
          | ret r =>
            obtain ⟨rfl, h', tk, c', rfl, set', le', kept'⟩ := got2
            repeat (any_goals (first | assumption | wp_step))
            exact h _ _ _ set' le' kept'
          | _ => exact got2.elim
    | _ => exact got.elim
end

end Fs

set_option Elab.async false
set_option linter.all false
set_option maxRecDepth 100000
set_option maxHeartbeats 4000000
namespace Fs
open PySem PySem.Spec PyProof.Rows L2

section
variable {P : Program} {w : World} {A : Around} {E : Value → Shared → Prop} {s : Shared}
set_option maxHeartbeats 3200000 in
theorem set_of_intsT {l : Addr} {items : Array Value} (ns : List Int) {Q : Value → Shared → Prop} (hh : A.handled = none)
    (hl : s.heap.IsTuple l items) (hit : IntsAre items.toList ns) (hb : ns.length + 1 < scanBound)
    (h : ∀ (h' : Heap) (tk c : Nat), SetR w h' s.heap.objs.size (fun j => decide (j ∈ ns)) c → c ≤ ns.length →
      (∀ b o, s.heap.get? b = some o → h'.get? b = some o) → Q (.ref s.heap.objs.size) { s with heap := h', toks := tk }) :
    wpAny (model P w) A (call (.type "set") [.ref l]) Q E s := by
  have size_eq : items.size = ns.length := by
    have q := IntsAre.length hit
    rwa [Array.length_toList] at q
  obtain ⟨c, tl, the_mro⟩ := F.called_set.mro
  have is_made := F.called_set.made
  have is_sub := F.called_set.sub
  refine wpAny_call (codeAny_of_tree ?_)
  show wpAny _ _ (callAny (.type "set") _) _ _ _
  refine wpAny_pure ⟨Code.quiet_builtin _ (by decide +kernel), codeAny_builtin F.entry_type_call ?_⟩
  rw [Around.under_plain (weight_type_call_type "set" [.ref l] []) rfl]
  have no_type := F.called_set.notType
  have may_make := F.called_set.canCreate
  have checked := F.typeCall_set_1 (.ref l)
  repeat (any_goals (first | assumption | wp_step))
  refine codeAny_mono (code_set_led1 (.ref l) (E := E)
    (Q₁ := fun obj s₁ => obj = .ref s.heap.objs.size ∧ s₁ = { s with heap := heap1 w s }) ⟨rfl, rfl⟩) fun r s₁ got => ?_
  cases r with
  | error e => exact got
  | ok fl =>
    cases fl with
    | ret obj =>
      obtain ⟨rfl, rfl⟩ := got
      have at0 : (heap1 w s).get? s.heap.objs.size = some (bare0 w) := Heap.get?_push_size _ rfl
      have type0 : Shared.TypeIs { s with heap := heap1 w s } (.ref s.heap.objs.size) "set" := ⟨_, at0, rfl⟩
      have look0 := F.called_set.init.lookup
      have bind0 := F.called_set.init.bind (.ref s.heap.objs.size)
      repeat (any_goals (first | assumption | wp_step))
      refine codeAny_mono (codeAny_call_builtin (R := wants (fun r s₂ => r = .none ∧ ∃ h' tk c, s₂ = { s with heap := h', toks := tk } ∧
          SetR w h' s.heap.objs.size (fun j => decide (j ∈ ns)) c ∧ c ≤ ns.length ∧ (∀ b o, s.heap.get? b = some o → h'.get? b = some o)) E)
          F.called_set.init.plain F.entry_set_init (check_set_init_1 type0 ?_)) fun r₂ s₂ got2 => ?_
      · obtain ⟨ol, at1, cls1, n1, dat1⟩ := hl
        obtain ⟨ocls, odict, odata, oslots⟩ := ol
        simp only at cls1 dat1
        subst cls1; subst dat1
        have at2 : (heap1 w s).get? l = some { cls := .type "tuple", dict := odict, data := .seq items n1, slots := oslots } := Heap.get?_push_of_some _ at1
        have no_set := F.sub_tuple_set
        have no_froz := F.sub_tuple_frozenset
        have no_dict : (Value.type "tuple" == Value.type "dict") = false := by decide
        have lst1 : (heap1 w s).IsTuple l items := ⟨_, at2, rfl, n1, rfl⟩
        unfold Builtin.«set.__init__» noKeywords Builtin.Frozenset.updateFrom
        generalize the_iter : pyIter = PI
        wp_walk
        subst the_iter
        refine wpAny_pyIter_tuple lst1 ?_
        refine wpAny_bind (wpAny_runValue ?_)
        have below : l < s.heap.objs.size := Heap.lt_size at1
        have hd3 : A.in1.in1.in1.handled = none := by simp [hh]
        have sz1 : (heap1 w s).objs.size = s.heap.objs.size + 1 := Heap.size_push ..
        have l_ne : l ≠ (heap1 w s).objs.size := by
          rw [sz1]; exact Nat.ne_of_lt (Nat.lt_succ_of_lt below)
        have not_in : s.heap.objs.size ∉ [(heap1 w s).objs.size, l] := by
          rw [sz1]
          simp only [List.mem_cons, List.mem_singleton, List.not_mem_nil, or_false, not_or]
          exact ⟨Nat.ne_of_lt (Nat.lt_succ_self _), Nat.ne_of_gt below⟩
        have vals1 : ∀ (i : Nat) (v : Value), items[i]? = some v → ∃ k t, ns[i]? = some k ∧ v = .int k t := fun i v hv => by
          have hi : i < ns.length := by rw [← size_eq]; exact (Array.getElem?_eq_some_iff.mp hv).1
          obtain ⟨t, e⟩ := PyProof.Rows.IntsAre.int_at hit i v (by rw [Array.getElem?_toList]; exact hv)
          exact ⟨ns[i], t, List.getElem?_eq_getElem hi, by rw [e, List.getD_eq_getElem?_getD, List.getElem?_eq_getElem hi] <;> rfl⟩
        refine set_update_ints ((Walks.tuple hd3 _ l l_ne items).toS) s.heap.objs.size
          not_in ns size_eq hb vals1 (items.size - 0) 0 _ (by omega) (Nat.zero_le _)
          ⟨⟨_, Heap.get?_push_size _ rfl, rfl, rfl⟩, (lst1.push _)⟩ ?first ?last
        case first =>
          exact ⟨0, Nat.le_refl 0, setR_new_at (Heap.get?_push_of_some _ at0)⟩
        case last =>
          intro s' c' mv le' set'
          obtain ⟨h', g2, d', tk', os'⟩ := s'
          have eg : g2 = s.gens := mv.gens
          have ed : d' = s.drawn := mv.drawn
          have eo : os' = s.os := mv.os
          subst eg; subst ed; subst eo
          show wpAny _ _ _ _ _ _
          refine wpAny_pure ?_
          show wpAny _ _ (ret Value.none) _ _ _
          rw [size_eq] at le'
          refine wpAny_pure ⟨rfl, h', tk', c', rfl, set', le', fun b o e => ?_⟩
          have b0 : b < s.heap.objs.size := Heap.lt_size e
          refine mv.heap b o ?_ (Heap.get?_push_of_some _ (Heap.get?_push_of_some _ e))
          simp only [List.mem_cons, List.mem_singleton, List.not_mem_nil, or_false, not_or]
          exact ⟨Nat.ne_of_lt b0, by rw [Heap.size_push]; exact Nat.ne_of_lt (Nat.lt_succ_of_lt b0)⟩
      · cases r₂ with
        | error e => exact got2
        | ok fl₂ =>
          cases fl₂ with
          | ret r =>
            obtain ⟨rfl, h', tk, c', rfl, set', le', kept'⟩ := got2
            repeat (any_goals (first | assumption | wp_step))
            exact h _ _ _ set' le' kept'
          | _ => exact got2.elim
    | _ => exact got.elim
end

end Fs

set_option Elab.async false
set_option linter.all false
set_option maxRecDepth 100000
set_option maxHeartbeats 4000000
namespace Fs
open PySem PySem.Spec PyProof.Rows L2
theorem mem_ins {n m : Int} : ∀ {l : List Int}, m ∈ ins n l ↔ m = n ∨ m ∈ l
  | [] => by simp [ins]
  | k :: r => by
    unfold ins
    split
    · simp
    · split
      · rename_i h; subst h; simp
      · simp only [List.mem_cons, mem_ins (l := r)]
        constructor
        · rintro (h | h | h)
          · exact .inr (.inl h)
          · exact .inl h
          · exact .inr (.inr h)
        · rintro (h | h | h)
          · exact .inr (.inl h)
          · exact .inl h
          · exact .inr (.inr h)
theorem ins_sorted {n : Int} : ∀ {l : List Int}, l.Pairwise (· < ·) → (ins n l).Pairwise (· < ·)
  | [], _ => by simp [ins]
  | k :: r, h => by
    obtain ⟨h1, h2⟩ := List.pairwise_cons.mp h
    unfold ins
    split
    · rename_i z
      refine List.pairwise_cons.mpr ⟨fun y hy => ?_, h⟩
      rcases List.mem_cons.mp hy with rfl | hy
      · exact z
      · exact Int.lt_trans z (h1 y hy)
    · split
      · exact h
      · refine List.pairwise_cons.mpr ⟨fun y hy => ?_, ins_sorted h2⟩
        rcases mem_ins.mp hy with rfl | hy
        · omega
        · exact h1 y hy
theorem ssetI_sorted : ∀ ns : List Int, (ssetI ns).Pairwise (· < ·)
  | [] => List.Pairwise.nil
  | n :: r => ins_sorted (ssetI_sorted r)
theorem mem_ssetI {m : Int} : ∀ {ns : List Int}, m ∈ ssetI ns ↔ m ∈ ns
  | [] => Iff.rfl
  | n :: r => by
    show m ∈ ins n (ssetI r) ↔ _
    rw [mem_ins, mem_ssetI (ns := r), List.mem_cons]
theorem sorted_uniq : ∀ {l m : List Int}, l.Pairwise (· < ·) → m.Pairwise (· < ·) → (∀ k, k ∈ l ↔ k ∈ m) → l = m
  | [], [], _, _, _ => rfl
  | [], b :: m, _, _, h => absurd ((h b).2 (by simp)) (by simp)
  | a :: l, [], _, _, h => absurd ((h a).1 (by simp)) (by simp)
  | a :: l, b :: m, h1, h2, h => by
    obtain ⟨p1, p2⟩ := List.pairwise_cons.mp h1
    obtain ⟨q1, q2⟩ := List.pairwise_cons.mp h2
    have e : a = b := by
      rcases List.mem_cons.mp ((h a).1 (by simp)) with z | z
      · exact z
      · rcases List.mem_cons.mp ((h b).2 (by simp)) with y | y
        · exact y.symm
        · have := p1 b y; have := q1 a z; omega
    subst e
    have : l = m := sorted_uniq p2 q2 fun k => by
      have hk := h k
      simp only [List.mem_cons] at hk
      constructor
      · intro hm
        rcases hk.1 (.inr hm) with rfl | z
        · exact absurd (p1 _ hm) (by omega)
        · exact z
      · intro hm
        rcases hk.2 (.inr hm) with rfl | z
        · exact absurd (q1 _ hm) (by omega)
        · exact z
    rw [this]

theorem nodup_len {l m : List Int} (hl : l.Nodup) (h : ∀ k, k ∈ l → k ∈ m) : l.length ≤ m.length := by
  induction l generalizing m with
  | nil => simp
  | cons x r ih =>
    obtain ⟨h1, h2⟩ := List.nodup_cons.mp hl
    have hx := h x (List.mem_cons_self ..)
    have := ih (m := m.erase x) h2 fun k hk => (List.mem_erase_of_ne (fun z => h1 (by rw [← z]; exact hk))).mpr (h k (List.mem_cons_of_mem _ hk))
    rw [List.length_erase_of_mem hx] at this
    have := List.length_pos_of_mem hx
    rw [List.length_cons]; omega
theorem setR_len {w : World} {h : Heap} {a : Addr} {ns : List Int} {c : Nat} (hS : SetR w h a (fun j => decide (j ∈ ns)) c) : c = (ssetI ns).length := by
  obtain ⟨o, es, ep, t, _, _, _, _, nd, hm, _, _, hn, _⟩ := hS
  have e : c = (es.toList.map keyOf).length := by rw [List.length_map, Array.length_toList, hn]
  have nd2 : (ssetI ns).Nodup := (ssetI_sorted ns).imp fun h => by omega
  have hmem : ∀ k, k ∈ es.toList.map keyOf ↔ k ∈ ssetI ns := fun k => by rw [← hm k, mem_ssetI, decide_eq_true_eq]
  have h1 := nodup_len nd fun k hk => (hmem k).mp hk
  have h2 := nodup_len nd2 fun k hk => (hmem k).mpr hk
  omega
def rSortSet (K : PySem.W.Frag) (te : TE) : TE := fun σ H Q => te σ H fun x H1 => ∃ (l : Addr) (ns : List Int), x = .ref l ∧ (SqL K H1 l (ns.map V.int) ∨ SqT K H1 l (ns.map V.int)) ∧ (ns.length ≤ 4000 ∧ (ssetI ns).length < 64) ∧ ∀ p, H1 p = none → Q (.ref p) (upd H1 p (.lst ((ssetI ns).map V.int)))
theorem pe_sortSet {X : Cx} {a : Expr} {ta : TE} {p p2 q pos : Pos} (hc : X.calm = true) (hg : Gl X "sorted") (hm : X.mg "sorted" = none) (hg2 : Gl X "set") (hm2 : X.mg "set" = none) (ha : PE X a ta)
    (na : starEach [a] X.env = (false, eval a X.env) :: starEach [] X.env) :
    PE X (.Call (.Name "sorted" p) [.Call (.Name "set" p2) [a] [] q] [] pos) (rSortSet X.K ta) := by
  refine ⟨fun pins s σ H Q I h => ?_⟩
  refine Call_ (ld_blt I hg hm PyProof.Rows.boot_sorted ?_)
  refine callWith_builtin1 (args_cons ?_ rfl) rfl rfl
  refine Call_ (ld_blt I hg2 hm2 PyProof.Rows.boot_set ?_)
  refine callWith_type1 (args_cons (thn (ha.run pins s σ H _ I h) fun v s1 ⟨x, H1, I1, r1, q1⟩ => args_nil ?_) na) na rfl
  obtain ⟨l, ns, rfl, hq, hl, q1⟩ := q1
  cases r1
  have both : ∀ {Q' : Value → Shared → Prop}, (∀ (h' : Heap) (tk c : Nat), SetR X.w h' s1.heap.objs.size (fun j => decide (j ∈ ns)) c → c ≤ ns.length →
      (∀ b o, s1.heap.get? b = some o → h'.get? b = some o) → Q' (.ref s1.heap.objs.size) { s1 with heap := h', toks := tk }) → wpAny (model X.prog X.w) X.A (call (.type "set") [.ref l]) Q' X.xe s1 := fun {Q'} fin => by
    rcases hq with hq | hq
    · obtain ⟨its, r, pl, hz⟩ := I1.list hq
      exact set_of_ints ns (I1.ok.hd hc) pl.isList (by simpa using r.ints) (by unfold scanBound; omega) fin
    · obtain ⟨its, r, pl, hz⟩ := I1.tuple hq
      exact set_of_intsT ns (I1.ok.hd hc) pl (by simpa using r.ints) (by unfold scanBound; omega) fin
  refine both fun h' tk c hS hcn hk => ?_
  refine args_nil ?_
  have I2 : Inv X pins σ H1 { s1 with heap := h', toks := tk } := I1.kept hk
  have hcl : c = (ssetI ns).length := setR_len hS
  refine sorted_set hS (I1.ok.hd hc) (by omega) fun s' p out cc ms k2 g2 o2 hp2 hout hints hpw hmem hlen => ?_
  have e : ms = ssetI ns := sorted_uniq hpw (ssetI_sorted ns) fun k => by
    rw [hmem k, mem_ssetI, decide_eq_true_eq]
  subst e
  have lim : ((ssetI ns).map V.int).length ≤ sizeLine := by rw [List.length_map, hlen]; exact small64 (by omega)
  have hn : H1 p = none := I2.hok.fresh hp2
  exact ⟨.ref p, _, I2.call' (ch := []) o2 (Un.laid k2 hp2 hn) (I2.hok.laid k2 hp2 (show ObjOk X.prog X.w _ _ _ (.lst ((ssetI ns).map V.int)) from ⟨lim, out.toList, cc, vals_of_ints hints, hout⟩)) (by rw [g2]; exact I2.bare) (fun _ z => nomatch z), rfl, q1 p hn⟩
def rLenSet (K : PySem.W.Frag) (te : TE) : TE := fun σ H Q => te σ H fun x H1 => ∃ (l : Addr) (ns : List Int), x = .ref l ∧ (SqL K H1 l (ns.map V.int) ∨ SqT K H1 l (ns.map V.int)) ∧ ns.length ≤ 4000 ∧ Q (.int ((ssetI ns).length : Nat)) H1
theorem pe_lenSet {X : Cx} {a : Expr} {ta : TE} {p p2 q pos : Pos} (hc : X.calm = true) (hg : Gl X "len") (hm : X.mg "len" = none) (hg2 : Gl X "set") (hm2 : X.mg "set" = none) (ha : PE X a ta)
    (na : starEach [a] X.env = (false, eval a X.env) :: starEach [] X.env) :
    PE X (.Call (.Name "len" p) [.Call (.Name "set" p2) [a] [] q] [] pos) (rLenSet X.K ta) := by
  refine ⟨fun pins s σ H Q I h => ?_⟩
  refine Call_ (ld_blt I hg hm boot_len ?_)
  refine callWith_builtin1 (args_cons ?_ rfl) rfl rfl
  refine Call_ (ld_blt I hg2 hm2 PyProof.Rows.boot_set ?_)
  refine callWith_type1 (args_cons (thn (ha.run pins s σ H _ I h) fun v s1 ⟨x, H1, I1, r1, q1⟩ => args_nil ?_) na) na rfl
  obtain ⟨l, ns, rfl, hq, hl, q1⟩ := q1
  cases r1
  have both : ∀ {Q' : Value → Shared → Prop}, (∀ (h' : Heap) (tk c : Nat), SetR X.w h' s1.heap.objs.size (fun j => decide (j ∈ ns)) c → c ≤ ns.length →
      (∀ b o, s1.heap.get? b = some o → h'.get? b = some o) → Q' (.ref s1.heap.objs.size) { s1 with heap := h', toks := tk }) → wpAny (model X.prog X.w) X.A (call (.type "set") [.ref l]) Q' X.xe s1 := fun {Q'} fin => by
    rcases hq with hq | hq
    · obtain ⟨its, r, pl, hz⟩ := I1.list hq
      exact set_of_ints ns (I1.ok.hd hc) pl.isList (by simpa using r.ints) (by unfold scanBound; omega) fin
    · obtain ⟨its, r, pl, hz⟩ := I1.tuple hq
      exact set_of_intsT ns (I1.ok.hd hc) pl (by simpa using r.ints) (by unfold scanBound; omega) fin
  refine both fun h' tk c hS hcn hk => ?_
  refine args_nil ?_
  have I2 : Inv X pins σ H1 { s1 with heap := h', toks := tk } := I1.kept hk
  have hcl : c = (ssetI ns).length := setR_len hS
  obtain ⟨o, es, ep, t, ho, hex, hd, _, _, _, hsc, hf, hn, _⟩ := hS
  refine call_len_set ho hex hd hf (by omega) ?_
  rw [hn, hcl]
  exact ⟨.int ((ssetI ns).length : Nat), _, I2.tok _, ⟨_, rfl⟩, q1⟩
theorem imp {X : Cx} {e : Expr} {t t' : TE} (h : PE X e t) (k : ∀ σ H Q, t' σ H Q → t σ H Q) : PE X e t' := ⟨fun pins s σ H Q I q => h.run pins s σ H Q I (k σ H Q q)⟩

def RpTs (pa : PA) (G H : Hp) : List V → List D → Prop
  | [], [] => True
  | v :: vs, d :: ds => RpT pa G H v d ∧ RpTs pa G H vs ds
  | _, _ => False
theorem RpTs.one {pa : PA} {G H : Hp} {vs : List V} {d : D} (h : RpTs pa G H vs [d]) : ∃ v, vs = [v] ∧ RpT pa G H v d := by
  match vs, h with
  | [v], h => exact ⟨v, rfl, h.1⟩
theorem RpTs.two {pa : PA} {G H : Hp} {vs : List V} {d e : D} (h : RpTs pa G H vs [d, e]) : ∃ v w, vs = [v, w] ∧ RpT pa G H v d ∧ RpT pa G H w e := by
  match vs, h with
  | [v, w], h => exact ⟨v, w, rfl, h.1, h.2.1⟩
def rBlt (f : Bf) : List V → Hp → VK → Prop := fun vs H Q => ∃ pa G ds d fr, Sub G H ∧ RpTs pa G H vs ds ∧ bltD f ds = some (d, fr) ∧ ∀ v H1, Res pa G H v d fr H1 → Q v H1
theorem maxI_is : ∀ {ns : List Int} {m : Int}, m ∈ ns → (∀ y, y ∈ ns → y ≤ m) → m = maxI ns
  | [], _, h, _ => by simp at h
  | [n], m, h, _ => by simpa [maxI] using h
  | n :: k :: r, m, h, u => by
    show m = max n (maxI (k :: r))
    by_cases z : m ∈ k :: r
    · have ih := maxI_is z fun y hy => u y (List.mem_cons_of_mem _ hy)
      have := u n (by simp)
      omega
    · rcases List.mem_cons.mp h with rfl | h
      · have : ∀ l : List Int, (∀ y, y ∈ l → y ≤ m) → l ≠ [] → maxI l ≤ m := by
          intro l
          induction l with
          | nil => intro _ z; exact absurd rfl z
          | cons a l ih =>
            intro hy _
            cases l with
            | nil => exact hy a (by simp)
            | cons b l =>
              have := ih (fun y h => hy y (List.mem_cons_of_mem _ h)) (by simp)
              have := hy a (by simp)
              show max a (maxI (b :: l)) ≤ m
              omega
        have := this (k :: r) (fun y hy => u y (List.mem_cons_of_mem _ hy)) (by simp)
        omega
      · exact absurd h z
theorem minI_is : ∀ {ns : List Int} {m : Int}, m ∈ ns → (∀ y, y ∈ ns → m ≤ y) → m = minI ns
  | [], _, h, _ => by simp at h
  | [n], m, h, _ => by simpa [minI] using h
  | n :: k :: r, m, h, u => by
    show m = min n (minI (k :: r))
    by_cases z : m ∈ k :: r
    · have ih := minI_is z fun y hy => u y (List.mem_cons_of_mem _ hy)
      have := u n (by simp)
      omega
    · rcases List.mem_cons.mp h with rfl | h
      · have : ∀ l : List Int, (∀ y, y ∈ l → m ≤ y) → l ≠ [] → m ≤ minI l := by
          intro l
          induction l with
          | nil => intro _ z; exact absurd rfl z
          | cons a l ih =>
            intro hy _
            cases l with
            | nil => exact hy a (by simp)
            | cons b l =>
              have := ih (fun y h => hy y (List.mem_cons_of_mem _ h)) (by simp)
              have := hy a (by simp)
              show m ≤ min a (minI (b :: l))
              omega
        have := this (k :: r) (fun y hy => u y (List.mem_cons_of_mem _ hy)) (by simp)
        omega
      · exact absurd h z
section
variable {X : Cx}
theorem b_len : CallR X (.builtin "len") (rBlt .len) := by
  intro pins s σ H vs us Q I r h
  obtain ⟨pa, G, ds, d, fr, gh, rs, e, k⟩ := h
  change bB_len _ = _ at e
  unfold bB_len at e
  split at e
  all_goals try (first | (cases e; done) | (rename_i z _; cases z; done) | (rename_i z; cases z; done))
  · split at e
    · rename_i hz
      cases e
      obtain ⟨v, rfl, rv⟩ := rs.one
      rw [rv.str] at r
      exact call_len_str pins s σ H _ us Q I r ⟨_, rfl, hz, k _ _ (.old (.int _))⟩
    · cases e
  · cases e
    obtain ⟨v, rfl, rv⟩ := rs.one
    obtain ⟨a, xs, rfl, ha, ra⟩ := rv.lst
    refine call_len_seq pins s σ H _ us Q I r ⟨a, xs, rfl, .inl (.of ha), ?_⟩
    rw [ra.len]
    exact k _ _ (.old (.int _))
  · cases e
    obtain ⟨v, rfl, rv⟩ := rs.one
    obtain ⟨a, xs, rfl, ha, ra⟩ := rv.tup
    refine call_len_seq pins s σ H _ us Q I r ⟨a, xs, rfl, .inr (ha.up gh).sq, ?_⟩
    rw [ra.len]
    exact k _ _ (.old (.int _))
theorem b_all (hc : X.calm = true) : CallR X (.builtin "all") (rBlt .all) := by
  intro pins s σ H vs us Q I r h
  obtain ⟨pa, G, ds, d, fr, gh, rs, e, k⟩ := h
  change bB_all _ = _ at e
  unfold bB_all at e
  split at e
  all_goals try (first | (cases e; done) | (rename_i z _; cases z; done) | (rename_i z; cases z; done))
  obtain ⟨bs, eb, e⟩ := Option.map_eq_some_iff.mp e
  cases e
  obtain ⟨v, rfl, rv⟩ := rs.one
  obtain ⟨a, xs, rfl, ha, ra⟩ := rv.lst
  rw [ra.bools eb] at ha
  exact cr_all hc pins s σ H _ us Q I r ⟨a, bs, rfl, .of ha, k _ _ (.old (.bl _))⟩
theorem b_any (hc : X.calm = true) : CallR X (.builtin "any") (rBlt .any) := by
  intro pins s σ H vs us Q I r h
  obtain ⟨pa, G, ds, d, fr, gh, rs, e, k⟩ := h
  change bB_any _ = _ at e
  unfold bB_any at e
  split at e
  all_goals try (first | (cases e; done) | (rename_i z _; cases z; done) | (rename_i z; cases z; done))
  obtain ⟨bs, eb, e⟩ := Option.map_eq_some_iff.mp e
  cases e
  obtain ⟨v, rfl, rv⟩ := rs.one
  obtain ⟨a, xs, rfl, ha, ra⟩ := rv.lst
  rw [ra.bools eb] at ha
  exact cr_any hc pins s σ H _ us Q I r ⟨a, bs, rfl, .of ha, k _ _ (.old (.bl _))⟩
theorem b_sum (hc : X.calm = true) : CallR X (.builtin "sum") (rBlt .sum) := by
  intro pins s σ H vs us Q I r h
  obtain ⟨pa, G, ds, d, fr, gh, rs, e, k⟩ := h
  change bB_sum _ = _ at e
  unfold bB_sum at e
  split at e
  all_goals try (first | (cases e; done) | (rename_i z _; cases z; done) | (rename_i z; cases z; done))
  obtain ⟨ns, eb, e⟩ := Option.map_eq_some_iff.mp e
  cases e
  obtain ⟨v, rfl, rv⟩ := rs.one
  obtain ⟨a, xs, rfl, ha, ra⟩ := rv.lst
  rw [ra.ints eb] at ha
  exact cr_sum hc pins s σ H _ us Q I r ⟨a, ns, rfl, .of ha, k _ _ (.old (.int _))⟩
/-- what a pair in the heap says -/
def keyP (G : Hp) : V → Int × Int
  | .ref t => match G t with
    | some (.frz _ (.tup [.int a, .int b])) => (a, b)
    | _ => (0, 0)
  | _ => (0, 0)
theorem rp_pair {pa : PA} {G : Hp} {v : V} {p : Int × Int} (r : Rp pa G v (pairD p)) : ∃ t, v = .ref t ∧ TupAt G t [.int p.1, .int p.2] ∧ keyP G v = p := by
  cases r with
  | tup h r =>
    rename_i a xs
    obtain rfl : xs = [p.1, p.2].map V.int := Rps.ints r (by rfl)
    refine ⟨a, rfl, h, ?_⟩
    obtain ⟨o, h, _⟩ := h
    unfold keyP
    have h : G a = some (.frz o (.tup [.int p.1, .int p.2])) := h
    simp only [h]
theorem rps_mem {pa : PA} {G : Hp} : ∀ {xs : List V} {ps : List (Int × Int)}, Rps pa G xs (ps.map pairD) → (∀ x ∈ xs, Rp pa G x (pairD (keyP G x))) ∧ xs.map (keyP G) = ps
  | [], ps, r => by
    have := r.len
    cases ps with
    | nil => exact ⟨fun x hx => (by cases hx), rfl⟩
    | cons _ _ => simp at this
  | x :: xs, [], r => by have := r.len; simp at this
  | x :: xs, p :: ps, r => by
    cases r with
    | cons r1 r2 =>
      obtain ⟨_, _, _, e⟩ := rp_pair r1
      obtain ⟨h1, h2⟩ := rps_mem r2
      refine ⟨fun y hy => ?_, by rw [List.map_cons, e, h2]⟩
      rcases List.mem_cons.mp hy with rfl | hy
      · rw [e]; exact r1
      · exact h1 y hy
theorem rps_of {pa : PA} {G : Hp} : ∀ {ys : List V}, (∀ y ∈ ys, Rp pa G y (pairD (keyP G y))) → Rps pa G ys ((ys.map (keyP G)).map pairD)
  | [], _ => .nil
  | y :: ys, h => .cons (h y (List.mem_cons_self ..)) (rps_of fun z hz => h z (List.mem_cons_of_mem _ hz))
theorem intsOf_eq : ∀ {xs : List D} {ks : List Int}, intsOf xs = some ks → xs = ks.map .int
  | [], ks, h => by rw [intsOf] at h; cases h; rfl
  | x :: xs, ks, h => by
    cases x with
    | int i =>
      rw [intsOf] at h
      obtain ⟨js, e, h⟩ := Option.map_eq_some_iff.mp h
      subst h
      rw [List.map_cons, ← intsOf_eq e]
    | _ => cases h
theorem rowOf_some {d : D} {x : Int × List Int} (h : rowOf d = some x) : d = rowE x := by
  unfold rowOf at h
  split at h
  · rename_i a ds
    obtain ⟨l, e, rfl⟩ := Option.map_eq_some_iff.mp h
    unfold rowE
    rw [intsOf_eq e]
  · cases h
theorem rowsOf_some : ∀ {xs : List D} {rs : List (Int × List Int)}, rowsOf xs = some rs → xs = rs.map rowE
  | [], rs, h => by cases h; rfl
  | d :: xs, rs, h => by
    unfold rowsOf at h
    obtain ⟨x, e1, h⟩ := Option.bind_eq_some_iff.mp h
    obtain ⟨r, e2, rfl⟩ := Option.map_eq_some_iff.mp h
    rw [rowOf_some e1, rowsOf_some e2]; rfl
def RowR (pa : PA) (G : Hp) (v : Value) (b : Int × List Int) : Prop := ∃ t, v = .ref t ∧ Rp pa G (.ref t) (rowE b)
theorem rowR_of {pa : PA} {G : Hp} : ∀ {its : List Value} {rs : List (Int × List Int)}, Rps pa G (its.map backV) (rs.map rowE) → (∀ w ∈ its, ∃ t, w = Value.ref t) → PySem.W.EachIs (RowR pa G) its rs
  | [], [], _, _ => .nil
  | [], _ :: _, r, _ => by cases r
  | _ :: _, [], r, _ => by cases r
  | w :: its, b :: rs, r, h => by
    cases r with
    | cons r1 r2 =>
      obtain ⟨t, rfl⟩ := h w (List.mem_cons_self ..)
      exact .cons ⟨t, rfl, r1⟩ (rowR_of r2 fun w hw => h w (List.mem_cons_of_mem _ hw))
theorem rowR_back {pa : PA} {G : Hp} : ∀ {out : List Value} {rs : List (Int × List Int)}, PySem.W.EachIs (RowR pa G) out rs → Rps pa G (out.map backV) (rs.map rowE) ∧ ∀ w ∈ out, ∃ t, w = Value.ref t
  | _, _, .nil => ⟨.nil, fun w hw => by cases hw⟩
  | _, _, .cons ⟨t, e, r⟩ h => by
    obtain ⟨h1, h2⟩ := rowR_back h
    subst e
    exact ⟨.cons r h1, fun w hw => by
      rcases List.mem_cons.mp hw with rfl | hw
      · exact ⟨t, rfl⟩
      · exact h2 w hw⟩
theorem b_srt (hu : X.A.units + 65 < cLine) : CallR X (.builtin "sorted") (rBlt .srt) := by
  intro pins s σ H vs us Q I r h
  obtain ⟨pa, G, ds, d, fr, gh, rs, e, k⟩ := h
  change bB_srt _ = _ at e
  unfold bB_srt at e
  split at e
  all_goals try (first | (cases e; done) | (rename_i z _; cases z; done) | (rename_i z; cases z; done))
  · obtain ⟨ys, eb, e⟩ := Option.map_eq_some_iff.mp e
    cases e
    obtain ⟨v, rfl, rv⟩ := rs.one
    obtain ⟨a, xs, rfl, ha, ra⟩ := rv.lst
    unfold srtD at eb
    split at eb
    · rename_i ns en
      cases eb
      rw [ra.ints en] at ha
      refine cr_sortedI pins s σ H _ us Q I r ⟨a, ns, rfl, .of ha, fun ns' p h1 h2 h3 => ?_⟩
      rw [srt_of h1 h2]
      exact k _ _ (.lst h3 (Rps.ofInts _))
    · split at eb
      · rename_i ps ep
        cases eb
        rw [pairsOf_some ep] at ra
        obtain ⟨hm, hk⟩ := rps_mem ra
        obtain ⟨u, rfl, ru⟩ := vals1 r
        cases ru
        obtain ⟨its, rv, hl, small⟩ := I.list (.of ha)
        obtain ⟨ex, refs⟩ := refs_back rv fun x hx => (rp_pair (hm x hx)).imp fun _ z => z.1
        refine SrtO.sorted_pairsO (k := fun w => keyP G (backV w)) hl.isList (rv.length ▸ small) (fun w hw => ?_) fun h' b out sorted stable kept new at' => ?_
        · obtain ⟨t, rfl⟩ := refs w hw
          obtain ⟨t', e, ⟨o, h1, _⟩, h2⟩ := rp_pair (hm (backV (.ref t)) (by rw [ex]; exact List.mem_map.mpr ⟨_, hw, rfl⟩))
          cases e
          obtain ⟨_, _, its2, r2, ob, e1, e2, n, e3⟩ := I.hok _ _ (gh _ _ h1)
          obtain ⟨w1, w2, rfl, ⟨t1, rfl⟩, ⟨t2, rfl⟩⟩ := vals2 r2
          exact ⟨_, ob, t1, t2, n, rfl, e1, e2, e3⟩
        · have refs2 : ∀ w ∈ out, ∃ t, w = Value.ref t := fun w hw => refs w (stable.perm.mem_iff.mp hw)
          obtain ⟨n, at'⟩ := at'
          have perm : (out.map backV).Perm xs := by rw [ex]; exact stable.perm.map _
          have hz : (out.map backV).map (keyP G) = srtP ps := by
            refine srtP_of (by rw [← hk]; exact perm.map _) (List.pairwise_map.mpr (List.pairwise_map.mpr (sorted.imp fun {x y} q => ?_)))
            have q := SrtO.lexB_no.mp q
            rw [leP_iff]
            omega
          have all := rps_of (pa := pa) (G := G) (ys := out.map backV) fun y hy => hm y (perm.mem_iff.mp hy)
          rw [hz] at all
          refine ⟨.ref b, _, I.laid (t' := s.toks) (o := .lst (out.map backV)) kept new ⟨?_, out, n, vals_back refs2, at'⟩, rfl, k _ _ (.lst (I.hok.fresh new) all)⟩
          rw [perm.length_eq]; exact small
      · obtain ⟨rws, er, eb⟩ := Option.bind_eq_some_iff.mp eb
        split at eb
        · rename_i g60
          cases eb
          have ex0 := rowsOf_some er
          obtain ⟨u, rfl, ru⟩ := vals1 r
          obtain ⟨as, rd'⟩ := Dp.reads I (.list _) _ u (rv.dp gh _ g60) ru
          cases ru
          obtain ⟨its, rvs, hlst, small⟩ := I.list (.of ha)
          cases rd' with
          | list h1 h2 h3 h4 =>
            rename_i arr _ as0
            have ev : arr = its.toArray := by
              obtain ⟨o, e1, e2, n, e3⟩ := hlst.isList
              rw [h1] at e1
              cases e1
              rw [h3] at e3
              cases e3; rfl
            subst ev
            subst ex0
            have h4 : ReadsAll s.heap its (rws.map rowE) as0 := by simpa using h4
            have hxr : ∀ x ∈ xs, ∃ t, x = V.ref t := fun x hx => by
              obtain ⟨i, hi⟩ := List.mem_iff_getElem?.mp hx
              obtain ⟨d, hd, rx⟩ := ra.getV hi
              obtain ⟨b, _, rfl⟩ := List.mem_map.mp (List.mem_of_getElem? hd)
              cases rx with
              | tup h r => exact ⟨_, rfl⟩
            obtain ⟨ex, refs⟩ := refs_back rvs hxr
            rw [ex] at ra
            have hR := rowR_of ra refs
            refine PySem.W.sorted_data (enc := rowE) hlst.isList hR (PySem.W.readsAll_each rowE h4) (PySem.W.AllAlike.of fun b b' => ?_) (PySem.W.Sortable.tuples fun b => ⟨_, _, rfl⟩) (by rw [← hR.length]; exact rvs.length ▸ small) (fun b _ => ?_) fun out hlen hRo => ?_
            · exact PySem.W.alike_ints (b.1 :: b.2) (b'.1 :: b'.2)
            · have : (rowE b).depth = PyData.depthAll ((b.1 :: b.2).map PyData.int) + 1 := by simp [rowE, PyData.depth]
              rw [this, PySem.W.depth_ints]
              omega
            · obtain ⟨all, refs2⟩ := rowR_back hRo
              have kept : ∀ b o, s.heap.get? b = some o → (PyProof.Rows.sortedAll s.heap its out.toArray).get? b = some o := fun _ _ => PyProof.Rows.sortedAll_old
              have new : s.heap.objs.size ≤ s.heap.objs.size + 1 := Nat.le_succ _
              obtain ⟨n, at'⟩ := PyProof.Rows.sortedAll_at s.heap its out.toArray
              refine ⟨.ref _, _, I.laid (t' := s.toks) (o := .lst (out.map backV)) kept new ⟨?_, out, n, vals_back refs2, at'⟩, rfl, k _ _ (.lst (I.hok.fresh new) all)⟩
              rw [List.length_map, hlen, ← hR.length]
              exact rvs.length ▸ small
        · cases eb
  · obtain ⟨ns, eb, e⟩ := Option.map_eq_some_iff.mp e
    cases e
    obtain ⟨v, rfl, rv⟩ := rs.one
    obtain ⟨a, xs, rfl, ha, ra⟩ := rv.tup
    rw [ra.ints eb] at ha
    refine cr_sortedTI pins s σ H _ us Q I r ⟨a, ns, rfl, (ha.up gh).sq, fun ns' p h1 h2 h3 => ?_⟩
    rw [srt_of h1 h2]
    exact k _ _ (.lst h3 (Rps.ofInts _))
theorem maxI_fold (n : Int) : ∀ r : List Int, maxI (n :: r) = r.foldl max n := fun r => by
  have mem : ∀ (r : List Int) (n : Int), r.foldl max n ∈ n :: r ∧ ∀ y ∈ n :: r, y ≤ r.foldl max n := by
    intro r
    induction r with
    | nil => intro n; exact ⟨by simp, fun y hy => by rw [List.mem_singleton.mp hy]; exact Int.le_refl _⟩
    | cons k r ih =>
      intro n
      obtain ⟨h1, h2⟩ := ih (max n k)
      rw [List.foldl_cons]
      refine ⟨?_, fun y hy => ?_⟩
      · rcases List.mem_cons.mp h1 with e | h
        · rw [e]
          by_cases z : n ≤ k
          · rw [Int.max_eq_right z]; simp
          · rw [Int.max_eq_left (by omega)]; simp
        · exact List.mem_cons_of_mem _ (List.mem_cons_of_mem _ h)
      · have h3 := h2 _ (List.mem_cons_self ..)
        rcases List.mem_cons.mp hy with rfl | hy
        · omega
        · rcases List.mem_cons.mp hy with rfl | hy
          · omega
          · exact h2 y (List.mem_cons_of_mem _ hy)
  exact (maxI_is (mem r n).1 (mem r n).2).symm
theorem alike_intsA (ns : List Int) : PySem.W.AlikeAll (ns.map PyData.int) := ⟨fun x hx y hy => by
  obtain ⟨i, _, rfl⟩ := List.mem_map.mp hx
  obtain ⟨j, _, rfl⟩ := List.mem_map.mp hy
  rfl, fun x hx e => by
  obtain ⟨i, _, rfl⟩ := List.mem_map.mp hx
  cases e⟩
theorem max_tuple_at {prog : Program} {w : World} {A : Around} {E : Value → Shared → Prop} {s : Shared} {l : Addr} {vs : Array Value} {x : PyData} {xs : List PyData} {as : List Addr} {Q : Value → Shared → Prop} (hh : A.handled = none) (hl : s.heap.IsTuple l vs) (hr : ReadsAll s.heap vs.toList (x :: xs) as) (ha : PySem.W.AlikeAll (x :: xs)) (hu : A.units + 1 + PyData.depthAll (x :: xs) < cLine)
    (h : ∀ (i : Nat) v h' tk, vs[i]? = some v → i < (x :: xs).length → (x :: xs).getD i .none = PySem.W.maxD x xs → (∀ b o, s.heap.get? b = some o → h'.get? b = some o) → Q v { s with heap := h', toks := tk }) :
    wpAny (model prog w) A (call (.builtin "max") [.ref l]) Q E s := by
  have hn : vs.size = xs.length + 1 := PySem.W.readsAll_len hr
  refine call_max_walkH (PySem.W.iter_tupleW (A := A.in1) hh hl fun s₂ e W st hfp hw hk => ?_)
  refine ⟨_, _, _, _, _, _, _, s.heap, _, rfl, W, st, hfp, by omega, hw, hk, PySem.W.cmpIn_gt (A := A.in1) hr ha (by show A.units + 1 + _ < _; exact hu), fun v s' hP m => ?_⟩
  obtain ⟨h', tk, rfl, hk'⟩ := PySem.W.moved_old e rfl m
  have e1 : vs.size - 1 = xs.length := by omega
  obtain ⟨e0, e2⟩ := PySem.W.argBest_fold (fun a b => PySem.W.dataLt b a) PyData.none x xs xs.length (Nat.le_refl _)
  rw [List.take_length] at e2
  rw [e1] at hP
  exact h _ v h' tk hP (by simp only [List.length_cons]; omega) e2 hk'
theorem b_max (hc : X.calm = true) (hu : X.A.units + 65 < cLine) : CallR X (.builtin "max") (rBlt .max) := by
  intro pins s σ H vs us Q I r h
  obtain ⟨pa, G, ds, d, fr, gh, rs, e, k⟩ := h
  change bB_max _ = _ at e
  unfold bB_max at e
  split at e
  all_goals try (first | (cases e; done) | (rename_i z _; cases z; done) | (rename_i z; cases z; done))
  · obtain ⟨ns, eb, e⟩ := Option.bind_eq_some_iff.mp e
    split at e
    · rename_i hz
      cases e
      obtain ⟨v, rfl, rv⟩ := rs.one
      obtain ⟨a, xs, rfl, ha, ra⟩ := rv.lst
      rw [ra.ints eb] at ha
      exact cr_max hc pins s σ H _ us Q I r ⟨a, ns, rfl, .of ha, hz, fun m h1 h2 => by rw [maxI_is h1 h2]; exact k _ _ (.old (.int _))⟩
    · cases e
  · rename_i xs0
    unfold maxTD at e
    cases eb : intsOf xs0 with
    | none => rw [eb] at e; cases e
    | some ns =>
      rw [eb] at e
      cases ns with
      | nil => cases e
      | cons n r0 =>
        dsimp only at e
        split at e
        · rename_i g60
          cases e
          obtain ⟨v, rfl, rv⟩ := rs.one
          obtain ⟨u, rfl, ru⟩ := vals1 r
          obtain ⟨as, rd'⟩ := Dp.reads I (.tuple xs0) v u (rv.dp gh _ g60) ru
          have lay := (good_lay 60).1 _ g60
          obtain ⟨a, xs, rfl, ha, ra⟩ := rv.tup
          have hxs : xs0 = (n :: r0).map .int := intsOf_eq eb
          obtain ⟨its, rvs, htup, _⟩ := I.tuple (ha.up gh).sq
          cases ru
          cases rd' with
          | tuple h1 h2 h3 h4 =>
            obtain ⟨o, e1, e2, n, e3⟩ := htup
            rw [h1] at e1
            cases e1
            rw [h3] at e3
            cases e3
            have dep : PyData.depthAll xs0 ≤ 60 := by
              have := lay.2
              simp only [PyData.depth] at this
              omega
            subst hxs
            refine max_tuple_at (x := .int n) (xs := r0.map .int) (I.ok.hd hc) ⟨_, h1, h2, _, h3⟩ h4 (alike_intsA (n :: r0)) (by have : PyData.depthAll (.int n :: r0.map .int) ≤ 60 := dep; omega) fun i v h' tk hv hi hd hk => ?_
            have hdi : ((n :: r0).map PyData.int)[i]? = some (.int (maxI (n :: r0))) := by
              rw [PySem.W.maxD_ints, ← maxI_fold] at hd
              have hi : i < ((n :: r0).map PyData.int).length := hi
              have hd : ((n :: r0).map PyData.int).getD i .none = _ := hd
              rw [List.getElem?_eq_getElem hi, ← hd, List.getD_eq_getElem?_getD, List.getElem?_eq_getElem hi]; rfl
            obtain ⟨xv, hxv, rp⟩ := ra.get hdi
            obtain ⟨u, hu1, ru⟩ := rvs.get hxv
            have : u = v := by
              have e1 : its[i]? = some v := by simpa using hv
              rw [hu1] at e1
              exact Option.some.inj e1
            subst this
            exact ⟨xv, H, I.kept (t' := tk) hk, ru, k _ _ (.old rp)⟩
        · cases e
  · cases e
    obtain ⟨v, w, rfl, rv, rw'⟩ := rs.two
    rw [rv.int, rw'.int] at r
    exact call_max2 hc pins s σ H _ us Q I r ⟨_, _, rfl, k _ _ (.old (.int _))⟩
theorem alikeB_all {xs : List D} (h : alikeB xs = true) : PySem.W.AlikeAll xs := by
  unfold alikeB at h
  rw [Bool.and_eq_true, List.all_eq_true, List.all_eq_true] at h
  refine ⟨fun x hx y hy => List.all_eq_true.mp (h.1 x hx) y hy, fun x hx e => ?_⟩
  have := h.2 x hx
  rw [e] at this
  cases this
theorem min_list_at {prog : Program} {w : World} {A : Around} {E : Value → Shared → Prop} {s : Shared} {l : Addr} {vs : Array Value} {x : PyData} {xs : List PyData} {as : List Addr} {Q : Value → Shared → Prop} (hh : A.handled = none) (hl : s.heap.IsList l vs) (hr : ReadsAll s.heap vs.toList (x :: xs) as) (ha : PySem.W.AlikeAll (x :: xs)) (hu : A.units + 1 + PyData.depthAll (x :: xs) < cLine)
    (h : ∀ (i : Nat) v h' tk, vs[i]? = some v → i < (x :: xs).length → (x :: xs).getD i .none = PySem.W.minD x xs → (∀ b o, s.heap.get? b = some o → h'.get? b = some o) → Q v { s with heap := h', toks := tk }) :
    wpAny (model prog w) A (call (.builtin "min") [.ref l]) Q E s := by
  have hn : vs.size = xs.length + 1 := PySem.W.readsAll_len hr
  refine call_min_walkH (PySem.W.iter_listW (A := A.in1) hh hl fun s₂ e W st hfp hw hk => ?_)
  refine ⟨_, _, _, _, _, _, _, s.heap, _, rfl, W, st, hfp, by omega, hw, hk, PySem.W.cmpIn_lt (A := A.in1) hr ha (by show A.units + 1 + _ < _; exact hu), fun v s' hP m => ?_⟩
  obtain ⟨h', tk, rfl, hk'⟩ := PySem.W.moved_old e rfl m
  have e1 : vs.size - 1 = xs.length := by omega
  obtain ⟨e0, e2⟩ := PySem.W.argBest_fold PySem.W.dataLt PyData.none x xs xs.length (Nat.le_refl _)
  rw [List.take_length] at e2
  rw [e1] at hP
  exact h _ v h' tk hP (by simp only [List.length_cons]; omega) e2 hk'
theorem b_min (hc : X.calm = true) (hu : X.A.units + 65 < cLine) : CallR X (.builtin "min") (rBlt .min) := by
  intro pins s σ H vs us Q I r h
  obtain ⟨pa, G, ds, d, fr, gh, rs, e, k⟩ := h
  change bB_min _ = _ at e
  unfold bB_min at e
  split at e
  all_goals try (first | (cases e; done) | (rename_i z _; cases z; done) | (rename_i z; cases z; done))
  · rename_i xs0
    unfold minLD at e
    cases eb : intsOf xs0 with
    | some ns =>
      rw [eb] at e
      dsimp only at e
      split at e
      · rename_i hz
        cases e
        obtain ⟨v, rfl, rv⟩ := rs.one
        obtain ⟨a, xs, rfl, ha, ra⟩ := rv.lst
        rw [ra.ints eb] at ha
        exact cr_min hc pins s σ H _ us Q I r ⟨a, ns, rfl, .of ha, hz, fun m h1 h2 => by rw [minI_is h1 h2]; exact k _ _ (.old (.int _))⟩
      · cases e
    | none =>
      rw [eb] at e
      dsimp only at e
      cases xs0 with
      | nil => cases e
      | cons x0 r0 =>
        dsimp only at e
        split at e
        · rename_i hz
          obtain ⟨g60, hal⟩ := Bool.and_eq_true_iff.mp hz
          cases e
          obtain ⟨v, rfl, rv⟩ := rs.one
          obtain ⟨u, rfl, ru⟩ := vals1 r
          obtain ⟨as, rd'⟩ := Dp.reads I (.list (x0 :: r0)) v u (rv.dp gh _ g60) ru
          have lay := (good_lay 60).1 _ g60
          obtain ⟨a, xs, rfl, ha, ra⟩ := rv.lst
          obtain ⟨its, rvs, hlst, _⟩ := I.list (.of ha)
          cases ru
          cases rd' with
          | list h1 h2 h3 h4 =>
            rename_i arr _ _
            have ev : arr = its.toArray := by
              obtain ⟨o, e1, e2, n, e3⟩ := hlst.isList
              rw [h1] at e1
              cases e1
              rw [h3] at e3
              cases e3; rfl
            subst ev
            have dep : PyData.depthAll (x0 :: r0) ≤ 60 := by
              have := lay.2
              simp only [PyData.depth] at this
              omega
            refine min_list_at (I.ok.hd hc) ⟨_, h1, h2, _, h3⟩ h4 (alikeB_all hal) (by omega) fun i v h' tk hv hi hd hk => ?_
            have hdi : (x0 :: r0)[i]? = some (PySem.W.minD x0 r0) := by
              rw [List.getElem?_eq_getElem hi, ← hd, List.getD_eq_getElem?_getD, List.getElem?_eq_getElem hi]; rfl
            obtain ⟨xv, hxv, rp⟩ := ra.get hdi
            obtain ⟨u, hu1, ru⟩ := rvs.get hxv
            have : u = v := by
              have e1 : its[i]? = some v := by simpa using hv
              rw [hu1] at e1
              exact Option.some.inj e1
            subst this
            exact ⟨xv, H, I.kept (t' := tk) hk, ru, k _ _ (.old rp)⟩
        · cases e
  · cases e
    obtain ⟨v, w, rfl, rv, rw'⟩ := rs.two
    rw [rv.int, rw'.int] at r
    exact call_min2 hc pins s σ H _ us Q I r ⟨_, _, rfl, k _ _ (.old (.int _))⟩
theorem b_tuple : CallR X (.type "tuple") (rBlt .tuple) := by
  intro pins s σ H vs us Q I r h
  obtain ⟨pa, G, ds, d, fr, gh, rs, e, k⟩ := h
  change bB_tuple _ = _ at e
  unfold bB_tuple at e
  split at e
  all_goals try (first | (cases e; done) | (rename_i z _; cases z; done) | (rename_i z; cases z; done))
  · cases e
    obtain ⟨v, rfl, rv⟩ := rs.one
    obtain ⟨a, xs, rfl, ha, ra⟩ := rv.lst
    exact call_tupF pins s σ H _ us Q I r ⟨a, xs, rfl, .inl ⟨.of ha, Res.tup k ra⟩⟩
  · cases e
    obtain ⟨v, rfl, rv⟩ := rs.one
    obtain ⟨a, xs, rfl, ha, ra⟩ := rv.tup
    exact call_tupF pins s σ H _ us Q I r ⟨a, xs, rfl, .inr ⟨(ha.up gh).sq, k _ _ (.old (.tup ha ra))⟩⟩
theorem b_list : CallR X (.type "list") (rBlt .list) := by
  intro pins s σ H vs us Q I r h
  obtain ⟨pa, G, ds, d, fr, gh, rs, e, k⟩ := h
  change bB_list _ = _ at e
  unfold bB_list at e
  split at e
  all_goals try (first | (cases e; done) | (rename_i z _; cases z; done) | (rename_i z; cases z; done))
  · cases e
    obtain ⟨v, rfl, rv⟩ := rs.one
    obtain ⟨a, xs, rfl, ha, ra⟩ := rv.lst
    exact call_list_of pins s σ H _ us Q I r ⟨a, xs, rfl, .inl (.of ha), fun p hp => k _ _ (.lst hp ra)⟩
  · cases e
    obtain ⟨v, rfl, rv⟩ := rs.one
    obtain ⟨a, xs, rfl, ha, ra⟩ := rv.tup
    exact call_list_of pins s σ H _ us Q I r ⟨a, xs, rfl, .inr (ha.up gh).sq, fun p hp => k _ _ (.lst hp ra)⟩
theorem b_int : CallR X (.type "int") (rBlt .int) := by
  intro pins s σ H vs us Q I r h
  obtain ⟨pa, G, ds, d, fr, gh, rs, e, k⟩ := h
  change bB_int _ = _ at e
  unfold bB_int at e
  split at e
  all_goals try (first | (cases e; done) | (rename_i z _; cases z; done) | (rename_i z; cases z; done))
  · cases e
    obtain ⟨v, rfl, rv⟩ := rs.one
    rw [rv.int] at r
    exact call_int1 pins s σ H _ us Q I r (.inl ⟨_, rfl, k _ _ (.old (.int _))⟩)
  · cases e
    obtain ⟨v, rfl, rv⟩ := rs.one
    rw [rv.bl] at r
    exact call_int1 pins s σ H _ us Q I r (.inr ⟨_, rfl, k _ _ (.old (.int _))⟩)
theorem b_stri : CallR X (.type "str") (rBlt .stri) := by
  intro pins s σ H vs us Q I r h
  obtain ⟨pa, G, ds, d, fr, gh, rs, e, k⟩ := h
  change bB_stri _ = _ at e
  unfold bB_stri at e
  split at e
  all_goals try (first | (cases e; done) | (rename_i z _; cases z; done) | (rename_i z; cases z; done))
  rename_i i
  split at e
  · rename_i hz
    cases e
    obtain ⟨v, rfl, rv⟩ := rs.one
    rw [rv.int] at r
    exact call_str_int pins s σ H _ us Q I r ⟨_, rfl, hz, k _ _ (.old (.str _))⟩
  · cases e
theorem b_repr (hu : X.A.units + 65 < cLine) (hg : X.A.guards = some []) : CallR X (.builtin "repr") (rBlt .repr) := by
  intro pins s σ H vs us Q I r h
  obtain ⟨pa, G, ds, d, fr, gh, rs, e, k⟩ := h
  change bB_repr _ = _ at e
  unfold bB_repr at e
  split at e
  all_goals try (first | (cases e; done) | (rename_i z _; cases z; done) | (rename_i z; cases z; done))
  rename_i d'
  split at e
  · rename_i hz
    simp only [Bool.and_eq_true, decide_eq_true_eq] at hz
    obtain ⟨⟨g60, hs⟩, hl⟩ := hz
    cases e
    obtain ⟨v, rfl, rv⟩ := rs.one
    have k' := k _ _ (.old (.str _))
    obtain ⟨u, rfl, ru⟩ := vals1 r
    have lay := (good_lay 60).1 d' g60
    have big : ∀ a, v = .ref a → wpAny (model X.prog X.w) X.A (call (.builtin "repr") [u]) (EP X pins σ Q) X.xe s := fun a ea => by
      obtain ⟨as, rd'⟩ := Dp.reads I d' v u (rv.dp gh _ g60) ru
      subst ea
      cases ru
      exact repr_of_reads' rd' hs (PyData.noDict_hsm (PyData.hasDict_of_canLay d' lay.1)) hg (by omega) (fun _ _ e => e)
        (fun h' u tk hk => ⟨.str _, H, I.kept hk, ⟨u, rfl⟩, k'⟩) hl
    cases d' with
    | none =>
      rw [rv.non] at ru
      cases ru
      exact PySem.P.repr_of_none ⟨.str _, H, I.tok _, ⟨_, rfl⟩, k'⟩
    | bool b =>
      rw [rv.bl] at ru
      cases ru
      exact PySem.P.repr_of_bool ⟨.str _, H, I.tok _, ⟨_, rfl⟩, k'⟩
    | int i =>
      rw [rv.int] at ru
      obtain ⟨t, rfl⟩ := ru
      exact PySem.P.repr_of_int (by simpa [PyData.showable] using hs) ⟨.str _, H, I.tok _, ⟨_, rfl⟩, k'⟩
    | str x =>
      rw [rv.str] at ru
      obtain ⟨t, rfl⟩ := ru
      exact PySem.P.repr_of_str ⟨.str _, H, I.tok _, ⟨_, rfl⟩, k'⟩ hl
    | list xs =>
      obtain ⟨a, _, ea, _⟩ := rv.lst
      exact big a ea
    | tuple xs =>
      obtain ⟨a, _, ea, _⟩ := rv.tup
      exact big a ea
    | dict xs => simp [good] at g60
  · cases e
def rIs5 (t : Ty5) : List V → Hp → VK → Prop := fun vs H Q => ∃ pa G v d b, vs = [v, .ty t.ty] ∧ Sub G H ∧ RpT pa G H v d ∧ isiD t d = some b ∧ Q (.bl b) H
theorem b_isi (t : Ty5) : CallR X (.builtin "isinstance") (rIs5 t) := by
  intro pins s σ H vs us Q I r h
  obtain ⟨pa, G, v, d, b, rfl, gh, rv, e, k⟩ := h
  have go : ∀ (T : String), L2.TyOf X.K H v (.type T) → kitB T t.ty = some b → wpAny (model X.prog X.w) X.A (call (.builtin "isinstance") us) (EP X pins σ Q) X.xe s := fun T ty kb =>
    call_isi pins s σ H _ us Q I r ⟨v, .ty t.ty, .type T, .type t.ty, b, rfl, .ty _, .base ty, kit_ty kb, k⟩
  cases d with
  | none => rw [rv.non] at go; exact go "NoneType" .non (by cases t <;> (cases e; decide +kernel))
  | bool x => rw [rv.bl] at go; exact go "bool" (.bl _) (by cases t <;> (cases e; decide +kernel))
  | int x => rw [rv.int] at go; exact go "int" (.int _) (by cases t <;> (cases e; decide +kernel))
  | str x => rw [rv.str] at go; exact go "str" (.str _) (by cases t <;> (cases e; decide +kernel))
  | list x =>
    obtain ⟨a, xs, rfl, ha, ra⟩ := rv.lst
    exact go "list" (.lst ha) (by cases t <;> (cases e; decide +kernel))
  | tuple x =>
    obtain ⟨a, xs, rfl, ⟨o, ha, _⟩, ra⟩ := rv.tup
    have kb : kitB "tuple" t.ty = some b := by cases t <;> (cases e; decide +kernel)
    obtain ⟨u, c, rfl, ru, rc⟩ := vals2 r
    cases ru
    have ec := (ClsV.ty t.ty).eq rc
    subst ec
    obtain ⟨_, _, _, _, ob, h1, h2, _⟩ := I.hok a _ (gh _ _ ha)
    exact PySem.W.kia_one PySem.W.kitx_tuple I.kIn ⟨ob, h1, h2⟩ (kit_ty kb) (fun z => nomatch z) fun tk => ⟨.bl b, H, I.tok tk, rfl, k⟩
  | dict x => cases t <;> cases e
end
end Fs

set_option Elab.async false
set_option linter.all false
set_option maxRecDepth 100000
set_option maxHeartbeats 4000000
namespace Fs
open PySem PySem.Spec PyProof.Rows L2

abbrev GSp := List V → Hp → VK → Prop
def GR (outer : List Env) (P : Program) (w : World) (H : Hp) (s : Shared) (Q : VK) : Result → Shared → Prop
  | .ok (.ret u), s' => CE outer P w H s Q u s'
  | _, _ => False
/-- what stays the same through the law -/
structure Wd where
  P : Program
  w : World
  K : PySem.W.Frag
  mg : Str → Option Value
  base : Heap
structure GFn (W : Wd) (k : Nat) (f : Addr) (fd : FuncData) (ps : List Str) (sp : GSp) : Prop where
  len : ∀ vs H Q, sp vs H Q → vs.length = ps.length
  run : ∀ (A : Around) (outer : List Env) (s : Shared) (H : Hp) (args : Args) (us : List Value) (vs : List V) (Q : VK),
    Room k A → A.guards = some [] → Env0 W.P W.w W.K W.mg W.base A outer s H → BindsTo s fd args (ps.zip us) → Vals vs us → sp vs H Q →
    codeAny (model W.P W.w) A (.call (.ref f) args) (GR outer W.P W.w H s Q) s
theorem GFn.mono {W : Wd} {j k : Nat} {f : Addr} {fd : FuncData} {ps : List Str} {sp : GSp} (F : GFn W j f fd ps sp) (h : j ≤ k) : GFn W k f fd ps sp :=
  ⟨F.len, fun A outer s H args us vs Q hr => F.run A outer s H args us vs Q (hr.mono h)⟩
theorem GFn.imp {W : Wd} {k : Nat} {f : Addr} {fd : FuncData} {ps : List Str} {sp sp' : GSp} (F : GFn W k f fd ps sp) (h : ∀ vs H Q, sp' vs H Q → sp vs H Q) : GFn W k f fd ps sp' :=
  ⟨fun vs H Q z => F.len vs H Q (h vs H Q z), fun A outer s H args us vs Q hr hg e0 b rv z => F.run A outer s H args us vs Q hr hg e0 b rv (h vs H Q z)⟩
def wdOf (X : Cx) : Wd := ⟨X.prog, X.w, X.K, X.mg, X.base⟩

/-- the context of a def's body -/
def gx (W : Wd) (N : List Str) (qual : Str) (scope : Scope) (f : Addr) (cd : Value) (A : Around) (outer : List Env) (s : Shared) (H : Hp) : Cx :=
  { cxOf (fun _ _ _ _ _ _ => False) W.P W.w W.K W.mg W.base N qual scope f cd A outer s H (fun _ _ _ => False) with xe := fun _ _ => False }
theorem inv_xe {X : Cx} {pins : List (Addr × Obj)} {σ : L2.St} {H : Hp} {s : Shared} (E : Value → Shared → Prop) (I : Inv X pins σ H s) : Inv { X with xe := E } pins σ H s := I.wish E

/-- a def of the text, by its body -/
theorem gfn_of {W : Wd} {k : Nat} {f : Addr} {name qual : Str} {params : Arguments} {body : List Stmt} {scope : Scope} {dV kV doc pm cdv ct oc : Value} {an od : Option Addr} {osl : Array (Option Value)} {N ps : List Str} {sp : GSp}
    (lk : W.K.lookup f = some ⟨oc, od, .func (PySem.W.fnOf name qual params body scope dV kV doc pm an cdv ct), osl⟩)
    (hcd : PySem.W.codeIn W.K cdv qual = true) (S : FnScope N ps scope) (len : ∀ vs H Q, sp vs H Q → vs.length = ps.length)
    (hbody : ∀ (A : Around) (outer : List Env) (s : Shared) (H : Hp) (vs : List V) (Q : VK), Room k (A.deeper (envOfC qual scope s.heap.objs.size f cdv)) → A.guards = some [] → sp vs H Q →
      ∃ t, PSs (gx W N qual scope f cdv A outer s H) body t ∧ t { nx := fun _ H' => Q .non H', rt := Q } (L2.start N vs) H) :
    GFn W (k + 1) f (PySem.W.fnOf name qual params body scope dV kV doc pm an cdv ct) ps sp := by
  refine ⟨len, fun A outer s H args us vs Q room hgd e0 binds rv promise => ?_⟩
  have same_len := len _ _ _ promise
  have inK : W.K.In s.heap := e0.mod.kin.keeps fun b o e => (e0.bs b o e).1
  have nolim : s.heap.NoLimit := e0.mod.nolimit.keeps fun b o e => (e0.bs b o e).1
  have kinds : ∀ y ∈ ps.zip us, scope.names.lookup y.1 = some .local ∨
      (scope.names.lookup y.1 = some .cell ∧ ((cellsFrom (s.heap.objs.size + 1) scope.names []).lookup y.1).isSome = true) := by
    rintro ⟨n, v⟩ hy
    rcases S.par n (List.of_mem_zip hy).1 with z | z
    · exact .inl z
    · exact .inr ⟨z, PySem.W.cellsFrom_some _ _ _ (.inl z)⟩
  refine codeAny_call_function room.depth (inK _ _ lk) rfl S.co S.gen rfl (PySem.W.codeRec_of inK hcd) (binds _ _ _ _ ?_)
  refine wpAny_newFunctionEnv_cells S.kind kinds fun env henv s1 entered => ?_
  subst henv
  refine ⟨nolim.keeps entered.toInCall.keep, codeAny_func ?_⟩
  obtain ⟨t, ht, hq⟩ := hbody A outer s H vs Q (room.deeper _) hgd promise
  have J0 : Inv (gx W N qual scope f cdv A outer s H) [] (L2.start N vs) H s1 := inv_xe _ (inv_start S room.hd e0 same_len rv entered)
  refine wpAny_mono (ht.run [] s1 (L2.start N vs) H _ J0 hq) (fun fl s' got => ?_) fun e s' no => no.elim
  have done : ∀ {σ' : L2.St} {H' : Hp} {v : V} {u : Value}, Inv (gx W N qual scope f cdv A outer s H) [] σ' H' s' → RelV v u → Q v H' → CE outer W.P W.w H s Q u s' := by
    intro σ' H' v u J r q
    exact ⟨v, H', J.os, J.bare, J.base, J.hok, r, q⟩
  cases fl with
  | ret u =>
    obtain ⟨v, σ', H', J, r, q⟩ := got
    exact done J r q
  | next =>
    obtain ⟨σ', H', J, q⟩ := got
    exact done (v := V.non) (u := Value.none) J rfl q
  | brk => exact got.elim fun _ h => h.elim fun _ h => False.elim h.2
  | cont => exact got.elim fun _ h => h.elim fun _ h => False.elim h.2

/-- a call of a def -/
theorem pe_gcall {X : Cx} {k : Nat} {f : Addr} {fd : FuncData} {ps : List Str} {sp : GSp} {x : Str} {p pos : Pos} {e : Expr} {es : List Expr} {t : TA}
    (F : GFn (wdOf X) k f fd ps sp) (hr : Room k X.A) (hgd : X.A.guards = some []) (hg : Gl X x) (hm : X.mg x = some (.ref f)) (hk : PySem.W.keepIn X.K (.ref f) = true) (hb : Binds X.K fd ps []) (ha : L2.PA X (e :: es) t)
    (hdb : (x == ("__debug__" : Str)) = false) (he : starEach (e :: es) X.env = (false, eval e X.env) :: starEach es X.env) (hpl : (backTo pos (starEach es X.env)).any (·.1) = false) :
    PE X (.Call (.Name x p) (e :: es) [] pos) (fun σ H Q => t σ H fun vs H1 => sp vs H1 Q) := by
  refine ⟨fun pins s σ H Q I h => ?_⟩
  refine wpAny_Call_Name_kw (ld_glob I hg hm ?_ hdb)
  refine PySem.W.callWith_K (h₀ := X.base) I.ok.mod.kin hk (thn (ha.run pos pins s σ H _ I h) fun us s1 ⟨vs, H1, I1, r, q⟩ => ⟨I1.kIn, ?_⟩) he hpl
  have n1 : (us ++ ([] : List Value)).length = ps.length := by rw [List.append_nil, ← r.length]; exact F.len _ _ _ q
  have b1 := hb s1 us I1.kIn n1
  rw [List.append_nil] at b1
  refine wpAny_call (codeAny_mono (F.run X.A X.stack s1 H1 ⟨us, []⟩ us vs Q hr hgd I1.env0 b1 r q) fun r s' got => ?_)
  match r, got with
  | .ok (.ret u), got => exact I1.after got

/-- the law's call -/
theorem glaw_call {P : Program} {w : World} {K : PySem.W.Frag} {mg mb : Str → Option Value} {k : Nat} {fa a : Addr} {fd : FuncData} {x : Str} {sp : GSp} {s₁ : Shared} {vs : List Value} {ns : List Int}
    (inK : K.In s₁.heap) (glob : s₁.heap.Ns mainGlobals mg) (blts : s₁.heap.Ns builtinsNs mb) (boot : ∀ x : Str, x ≠ "__name__" → mb x = bootBuiltins x) (nolim : s₁.heap.NoLimit) (nogens : s₁.gens = #[])
    (script : s₁.heap.get? a = some { cls := .type "list", data := .seq vs.toArray }) (hnums : IntsAre vs ns) (len1 : ns.length ≤ sizeLine) (room : Room k callerA) (hgd : callerA.guards = some [])
    (F : ∀ base : Heap, K.In base → base.Ns mainGlobals mg → GFn ⟨P, w, K, mg, base⟩ k fa fd [x] sp) (binds : ∀ (s : Shared) (u : Value), BindsTo s fd ⟨[u], []⟩ [(x, u)])
    (hsp : ∀ H : Hp, Only H → SqL K H a (ns.map V.int) → sp [.ref a] H (fun v _ => v = .bl true)) :
    codeAny (model P w) callerA (.call (.ref fa) ⟨[.ref a], []⟩) (fun r s' => r = .ok (.ret (.bool true)) ∧ OldK s₁.heap s'.heap ∧ s'.os = s₁.os ∧ AllBare s'.gens) s₁ := by
  have rv := vals_ints hnums
  have len2 := hnums.length
  have main : ∀ H : Hp, Only H → SqL K H a (ns.map V.int) → HOk P w H s₁.heap → (∀ b, H b ≠ none → b = a) → (H a ≠ none → K.lookup a = none) →
      codeAny (model P w) callerA (.call (.ref fa) ⟨[.ref a], []⟩) (fun r s' => r = .ok (.ret (.bool true)) ∧ OldK s₁.heap s'.heap ∧ s'.os = s₁.os ∧ AllBare s'.gens) s₁ := by
    intro H only hS ok onlyA freeK
    have to : ∀ {b : Addr} {o : Obj}, s₁.heap.get? b = some o → H b = none → (hidT s₁.heap H).get? b = some o := fun e n => hidT_get e n
    have dictFree : ∀ {b : Addr} {o : Obj} {es : Array DictEntry} {ep : Nat}, s₁.heap.get? b = some o → o.data = .dict es ep → H b = none := by
      intro b o es ep e d
      cases q : H b with
      | none => rfl
      | some u =>
        have : b = a := onlyA b (by rw [q]; simp)
        subst this
        rw [script] at e; cases e
        cases (show Data.seq vs.toArray _ = Data.dict es ep from d)
    have toNs : ∀ {b : Addr} {m : Str → Option Value}, s₁.heap.Ns b m → (hidT s₁.heap H).Ns b m := by
      rintro b m ⟨o, es, ep, e, d, r⟩
      exact ⟨o, es, ep, to e (dictFree e d), d, r⟩
    have inB : K.In (hidT s₁.heap H) := by
      intro b o e
      refine to (inK b o e) ?_
      cases q : H b with
      | none => rfl
      | some u =>
        have : b = a := onlyA b (by rw [q]; simp)
        subst this
        rw [freeK (by rw [q]; simp)] at e; cases e
    have modB : Mod K mg (hidT s₁.heap H) := by
      obtain ⟨mc, c1, c2⟩ := nolim
      exact ⟨inB, toNs glob, ⟨mb, toNs blts, boot⟩, ⟨mc, toNs c1, c2⟩⟩
    have env0 : Env0 P w K mg (hidT s₁.heap H) callerA [] s₁ H := by
      refine ⟨rfl, modB, fun b o e => of_hidT e, Nat.le_of_eq (hidT_size _ _), trivial, fun b hb => ?_, ok, .of_eq nogens⟩
      exact absurd (show b ∈ ([] : List Addr) from hb) (by simp)
    refine codeAny_mono ((F _ inB (toNs glob)).run callerA [] s₁ H ⟨[.ref a], []⟩ [.ref a] [.ref a] _ room hgd env0 (binds s₁ (.ref a)) (.cons rfl .nil) (hsp H only hS)) fun r s' got => ?_
    match r, got with
    | .ok (.ret u), got =>
      obtain ⟨v, H', os, bare, un, ok', r', q⟩ := got
      have q' : v = .bl true := q
      subst q'
      obtain rfl : u = Value.bool true := r'
      refine ⟨rfl, OldK.of_keep fun b o e => ?_, os, bare⟩
      cases q : H b with
      | none => exact un.keep b o e q (fun z => absurd (show b ∈ ([] : List Addr) from z) (by simp)) (by simp)
      | some u =>
        rcases only b with z | ⟨ob, xs, z⟩
        · rw [q] at z; cases z
        · obtain ⟨e1, _⟩ := ok b _ z
          obtain ⟨e2, _⟩ := ok' b _ (un.frzs b ob _ z)
          rw [e] at e1; cases e1
          exact e2
  cases hk : K.lookup a with
  | some o =>
    have e := inK a o hk
    rw [script] at e
    cases e
    refine main (fun _ => none) (fun _ => .inl rfl) (.inr ⟨_, vs.toArray, _, hk, rfl, rfl, rfl, ?_, by simpa using rv⟩) (fun b u z => ?_) (fun b z => absurd rfl z) fun z => absurd rfl z
    · rw [List.size_toArray, len2]; exact len1
    · cases (show (none : Option HO) = some u from z)
  | none =>
    let o1 : Obj := { cls := .type "list", data := .seq vs.toArray }
    let H1 : Hp := fun b => if b = a then some (.frz o1 (.lst (ns.map V.int))) else none
    have at1 : H1 a = some (.frz o1 (.lst (ns.map V.int))) := if_pos rfl
    have at2 : ∀ b, b ≠ a → H1 b = none := fun b hb => if_neg hb
    refine main H1 (fun b => ?_) (.inl (.inr ⟨o1, at1⟩)) (fun b u z => ?_) (fun b z => ?_) fun _ => hk
    · by_cases hb : b = a
      · subst hb; exact .inr ⟨_, _, at1⟩
      · exact .inl (at2 b hb)
    · by_cases hb : b = a
      · subst hb
        rw [at1] at z; cases z
        exact ⟨script, by rw [List.length_map]; exact len1, vs, _, rv, script⟩
      · rw [at2 b hb] at z; cases z
    · by_cases hb : b = a
      · exact hb
      · exact absurd (at2 b hb) z
theorem gwalk_of {l : PySem.W.OpenLaw} {n k : Nat} {q : Program} {loose : List Str} {XP : (Str → Option Value) → Heap → Prop} {YP : World → Heap → Prop} {d : DefRec} {K : Params → PySem.W.Frag} {sp : World → GSp} {x : Str}
    (hn : l.most = some n) (hn2 : n ≤ sizeLine) (hdf : d.params.defaults = []) (room : Room k callerA) (hgd : callerA.guards = some [])
    (hY : ∀ (w : World) (h : Heap), YP w h → (K w.params).In h)
    (F : ∀ (w : World) (mg : Str → Option Value) (fa : Addr) (h : Heap), (K w.params).In h → h.Ns mainGlobals mg → mg d.name = some (.ref fa) →
      ∃ fd : FuncData, (∀ (s : Shared) (u : Value), BindsTo s fd ⟨[u], []⟩ [(x, u)]) ∧
        ∀ base : Heap, (K w.params).In base → base.Ns mainGlobals mg → GFn ⟨l.prog, w, K w.params, mg, base⟩ k fa fd [x] (sp w))
    (hsp : ∀ (w : World) (H : Hp) (a : Addr) (ns : List Int), ns.length ≤ n → Only H → SqL (K w.params) H a (ns.map V.int) → sp w [.ref a] H (fun v _ => v = .bl true)) :
    PySem.W.WalkO q loose XP YP l.row.toRowW d [] (fun f vs => PySem.call f vs) := by
  refine Att.attach_call hn hdf fun w s₀ s₁ mg mb fa o pm cd doc a vs ns G Y ho hd hcd hmg hobj hints hlen hg => ?_
  have inK := hY w _ Y
  obtain ⟨fd, hb, hF⟩ := F w mg fa _ inK G.T.g hmg
  exact glaw_call inK G.T.g G.T.b G.T.builtins G.T.nolimit hg hobj hints (Nat.le_trans hlen hn2) room hgd hF hb fun H hO hS => hsp w H a ns hlen hO hS
end Fs

set_option Elab.async false
set_option linter.all false
set_option maxRecDepth 100000
set_option maxHeartbeats 4000000
namespace Fs
open PySem PySem.Spec PyProof.Rows L2
open Sem (wp)
open AutoSeq1 (wpAny_loadPart')

abbrev tit0 (l : Addr) : Obj := { cls := .type "tuple_iterator", data := .fields #[.ref l, .int 0 0] }
abbrev enu0 (it : Addr) : Obj := { cls := .type "enumerate", data := .fields #[.none, .bool false, .ref it, rawInt 0, .none, .none] }
theorem meets_enum_tup (l : Addr) (items : Array Value) (n : Nat) (dct : Option Addr) (sl : Array (Option Value)) :
    Meets (Builtin.«enumerate.__new__» ⟨[.type "enumerate", .ref l], []⟩) (fun _ R s =>
      s.heap.get? l = some { cls := .type "tuple", dict := dct, data := .seq items n, slots := sl } ∧
      R (.ok (.ret (.ref (s.heap.push (tit0 l)).objs.size))) { s with heap := (s.heap.push (tit0 l)).push (enu0 s.heap.objs.size) }) :=
  .of_wp fun prog w A R s both => by
    obtain ⟨hp, g, d, tk, os⟩ := s
    obtain ⟨at0, fin⟩ := both
    have self_sub := sub_enumerate
    have isT : Heap.IsTuple (Shared.heap ⟨hp, g, d, tk, os⟩) l items := ⟨_, at0, rfl, n, rfl⟩
    wp_walk using wpAny_loadPart' at0
    refine wpAny_stack_any fun st => wpAny_pure ?_
    split
    · rename_i c _ _ _ _ _
      cases (c == Value.type "enumerate")
      · wp_walk using wpAny_loadPart' at0, wpAny_pyIter_tuple isT
        exact ⟨_, rfl, fin⟩
      · wp_walk using wpAny_loadPart' at0, wpAny_pyIter_tuple isT
        exact ⟨_, rfl, fin⟩
    · wp_walk using wpAny_loadPart' at0, wpAny_pyIter_tuple isT
      exact ⟨_, rfl, fin⟩
section
variable {prog : Program} {w : World} {A : Around} {E : Value → Shared → Prop} {s : Shared}
theorem call_enum_tup {l : Addr} {items : Array Value} {Q : Value → Shared → Prop} (isT : s.heap.IsTuple l items)
    (fin : ∀ h', IsEnum h' (s.heap.objs.size + 1) s.heap.objs.size 0 .none → h'.IsTupleIter s.heap.objs.size l 0 →
      (∀ b o, s.heap.get? b = some o → h'.get? b = some o) → Q (.ref (s.heap.objs.size + 1)) { s with heap := h' }) :
    wpAny (model prog w) A (call (.type "enumerate") [.ref l]) Q E s := by
  obtain ⟨⟨c, dct, dt, sl⟩, at0, cls0, n, dat0⟩ := isT
  simp only at cls0 dat0
  subst cls0 dat0
  refine callType_new F.called_enumerate (by decide) (F.typeCall_enumerate_1 _) (F.newCall_enumerate_1 _) (fun obj => F.args_object_init_2 obj _)
    F.entry_enumerate_new (meets_enum_tup l items n dct sl) ⟨at0, ?_⟩
  have z1 : (s.heap.push (tit0 l)).objs.size = s.heap.objs.size + 1 := Heap.size_push ..
  show _ ∧ _
  rw [z1]
  have en : IsEnum ((s.heap.push (tit0 l)).push (enu0 s.heap.objs.size)) (s.heap.objs.size + 1) s.heap.objs.size 0 .none := by
    have q := Heap.get?_push_size (s.heap.push (tit0 l)) (o := enu0 s.heap.objs.size) rfl
    rw [z1] at q
    exact q
  exact ⟨⟨_, en, rfl⟩, fin _ en ⟨_, Heap.get?_push_of_some _ (Heap.get?_push_size _ rfl), rfl, rfl⟩ fun b o x => Heap.get?_push_of_some _ (Heap.get?_push_of_some _ x)⟩
theorem enum_tup_end {e it l : Addr} {i : Nat} {items : Array Value} {old : Value} {Q : Option Value → Shared → Prop} (hd0 : A.handled = none) (en : IsEnum s.heap e it i old) (hit : s.heap.IsTupleIter it l i)
    (isT : s.heap.IsTuple l items) (past : items[i]? = none) (fin : ∀ h', Heap.ExtBut it s.heap h' → Q none { s with heap := h' }) : wpAny (model prog w) A (pyNext (.ref e)) Q E s := by
  have ty : s.TypeIs (.ref e) "enumerate" := ⟨_, en, rfl⟩
  have hd1 : A.in1.handled = none := hd0
  unfold pyNext
  refine wpAny_bind (wpAny_attempt (wpAny_callSpecial?_slot (name := Str.ofString "__next__") ty F.slot_enumerate_next ?_))
  refine wpAny_call_entry F.slot_enumerate_next ty F.entry_enumerate_next ?_ (F.args_enumerate_next_1 _)
  show wpAny _ _ (field (.ref e) 2 >>= _) _ _ _
  refine wpAny_bind (wpAny_field en rfl (x := .ref it) rfl ?_)
  refine wpAny_bind (wpAny_nextOf_tuple_end hd1 hit isT past fun h' x eb hx' => ?_)
  obtain ⟨o, ho, hc⟩ := hx'
  exact wpAny_bind (wpAny_isInstance (T := "StopIteration") (b := true) ⟨o, ho, hc⟩ isSubtype_stop (wpAny_pure (fin _ eb)))
end

/-- the tuple at a, each item in a new pair -/
def ItE (K : PySem.W.Frag) (a : Addr) : It :=
  ⟨fun i H => ∃ (xs : List V) (x : V), SqT K H a xs ∧ xs[i]? = some x,
   fun i H v H' => ∃ T x, v = .ref T ∧ H T = none ∧ H' = upd H T (.tup [.int (i : Nat), x]) ∧ ∀ xs, SqT K H a xs → xs[i]? = some x,
   fun i H => ∃ xs : List V, SqT K H a xs ∧ xs.length ≤ i⟩
theorem turn_enumT {P : Program} {w : World} {K : PySem.W.Frag} {elts : List Expr} {kk : Nat} {tpos : Pos} (a e it : Addr) :
    Turn P w K (.Tuple elts kk tpos) (ItE K a) [e, it] e (fun i h => (∃ old, IsEnum h e it ((i : Nat) : Int) old) ∧ h.IsTupleIter it a i ∧ e ≠ it ∧ a ≠ it ∧ a ≠ e) where
  mem := by simp
  obj := fun i h st b hb => by
    obtain ⟨⟨old, en⟩, ⟨o, ho, hc, hd⟩, _⟩ := st
    rcases (show b = e ∨ b = it by simpa using hb) with rfl | rfl
    · exact ⟨_, en, fun v q => nomatch q⟩
    · exact ⟨o, ho, fun v q => by rw [hd] at q; cases q⟩
  keep := fun i h h' st k => by
    obtain ⟨⟨old, en⟩, hi, ne⟩ := st
    exact ⟨⟨old, k e (by simp) _ en⟩, hi.at fun o q => k it (by simp) o q, ne⟩
  item := by
    intro X hP hw hK hc i pins s σ H E I hf st hg
    subst hP hw hK
    obtain ⟨⟨old, en⟩, hit, n1, n2, n3⟩ := st
    obtain ⟨xs, x, hq, hx⟩ := hg
    obtain ⟨its, rv, p, _⟩ := I.tuple hq
    obtain ⟨u, hu, ru⟩ := rv.get hx
    have l1 : e < s.heap.objs.size := Heap.lt_size en
    have l2 : it < s.heap.objs.size := by obtain ⟨_, q, _⟩ := hit; exact Heap.lt_size q
    have hd0 : X.A.in1.handled = none := I.ok.hd hc
    have dr := Draws.tuple (prog := X.prog) (w := X.w) hd0 it a n2 its.toArray
    have ilt : i < its.toArray.size := by
      rw [List.size_toArray]
      exact (List.getElem?_eq_some_iff.mp hu).1
    refine wpAny_pyNext_enum_itemD dr en ⟨hit, show s.heap.IsTuple a its.toArray from p⟩ ilt n1 (by simp only [List.mem_cons, List.not_mem_nil, or_false, not_or]; exact ⟨n1, Ne.symm n3⟩) fun y h' tk hy ho st' hT hsz hk => ?_
    have ey : y = u := by
      have e1 : its[i]? = some y := by simpa using hy
      rw [hu] at e1; exact (Option.some.inj e1).symm
    subst ey
    refine ⟨_, rfl, wpAny_letOwnedTupleGo_enum (s := { s with heap := h', toks := tk + 1 }) ho fun h'' he' sb => ?_⟩
    have at2 : h''.get? s.heap.objs.size = some { cls := .type "tuple", data := .seq #[.int i tk, y] } := (sb.2 _ (Nat.ne_of_gt l1)).trans hT
    have new : ObjOk X.prog X.w (upd H s.heap.objs.size (.tup [.int (i : Nat), x])) h'' s.heap.objs.size (.tup [.int (i : Nat), x]) := by
      refine ⟨by show 2 ≤ sizeLine; decide, [.int i tk, y], .cons ⟨_, rfl⟩ (.cons ru .nil), ⟨_, at2, rfl, _, rfl⟩⟩
    have I1 : Inv X pins σ (upd H s.heap.objs.size (.tup [.int (i : Nat), x])) { s with heap := h'', toks := tk + 1 } := by
      refine I.turnedNew (ch := [e, it]) (fun b ob hb q => ?_) hf (Nat.le_refl _) new
      exact (sb.2 b (fun z => hb (by simp [z]))).trans (hk b ob (fun z => hb (by simp [z])) (fun z => hb (by simp [z])) q)
    refine ⟨.ref s.heap.objs.size, _, I1, rfl, ⟨_, x, rfl, I.hok.fresh (Nat.le_refl _), rfl, fun ys hy => by rw [I.tuple_inj hy hq]; exact hx⟩, ⟨⟨y, ?_⟩, st'.1.at fun o q => (sb.2 it (Ne.symm n1)).trans q, n1, n2, n3⟩, fun b hb => ?_⟩
    · have e1 : ((i + 1 : Nat) : Int) = (i : Int) + 1 := by omega
      rw [e1]; exact he'
    · have below : b < s.heap.objs.size := by
        rcases (show b = e ∨ b = it by simpa using hb) with z | z <;> (rw [z]; assumption)
      rw [upd_ne (Nat.ne_of_lt below)]
      exact (hf b hb).1
  done := by
    intro X hP hw hK hc i pins s σ H E I hf st hg
    subst hP hw hK
    obtain ⟨⟨old, en⟩, hit, n1, n2, n3⟩ := st
    obtain ⟨xs, hq, hx⟩ := hg
    obtain ⟨its, rv, p, _⟩ := I.tuple hq
    obtain ⟨f0, f1, f2, f3, f4, f5⟩ := hf it (by simp)
    have hl := rv.length
    have hd0 : X.A.handled = none := I.ok.hd hc
    refine enum_tup_end hd0 en hit (show s.heap.IsTuple a its.toArray from p) (by simp; omega) fun h' eb => ?_
    exact ⟨rfl, I.turned (t' := s.toks) (fun b o hb q => eb b o hb q) f0 f1 f3 f4 f5⟩
  self := fun A i s Q E st h => let ⟨⟨_, en⟩, _⟩ := st; wpAny_pyIter_enum en h
def iEnA (K : PySem.W.Frag) (ta : TA) : TI := fun σ H R => ta σ H fun vs H1 => ∃ a xs, vs = [.ref a] ∧ ((SqL K H1 a xs ∧ R (Ite K a) H1) ∨ (SqT K H1 a xs ∧ R (ItE K a) H1))
theorem pi_enA {X : Cx} {e : Expr} {ta : TA} {p pos tpos : Pos} {elts : List Expr} {kk : Nat} (hg : Gl X "enumerate") (hm : X.mg "enumerate" = none) (ha : L2.PA X [e] ta)
    (hs : starEach [e] X.env = (false, eval e X.env) :: starEach [] X.env) : PI X (.Tuple elts kk tpos) (.Call (.Name "enumerate" p) [e] [] pos) (iEnA X.K ta) := by
  refine ⟨fun pins s σ H R I h => ?_⟩
  refine Call_ (ld_blt I hg hm boot_enumerate (PyProof.Rows.callWith_type1 (thn (ha.run pos pins s σ H _ I h) fun us s1 ⟨vs, H1, I1, r1, q1⟩ => ?_) hs rfl))
  obtain ⟨a, xs, ex, q1⟩ := q1
  subst ex
  obtain rfl : us = [.ref a] := r1.ref1
  have fresh2 : ∀ b, b ∈ [s1.heap.objs.size + 1, s1.heap.objs.size] → FpOk X pins H1 b := fun b hb => by
    have le : s1.heap.objs.size ≤ b := by
      rcases (show b = s1.heap.objs.size + 1 ∨ b = s1.heap.objs.size by simpa using hb) with z | z <;> omega
    exact I1.fpOk le (I1.hok.fresh le)
  rcases q1 with ⟨hq, q⟩ | ⟨hq, q⟩
  · obtain ⟨its, rv, p', _⟩ := I1.list hq
    refine call_enumerate_list p'.isList fun h' en hit _ hk => wpAny_pyIter_enum en ?_
    have I2 : Inv X pins σ H1 { s1 with heap := h' } := I1.kept (t' := s1.toks) hk
    exact ⟨s1.heap.objs.size + 1, [s1.heap.objs.size + 1, s1.heap.objs.size], _, _, H1, rfl, I2, turn_enum a _ _, ⟨⟨.none, en⟩, hit, Nat.succ_ne_self _⟩, fresh2, q⟩
  · obtain ⟨its, rv, p', _⟩ := I1.tuple hq
    have la : a < s1.heap.objs.size := by obtain ⟨o, z, _⟩ := id p'; exact Heap.lt_size z
    refine call_enum_tup (show s1.heap.IsTuple a its.toArray from p') fun h' en hit hk => wpAny_pyIter_enum en ?_
    have I2 : Inv X pins σ H1 { s1 with heap := h' } := I1.kept (t' := s1.toks) hk
    exact ⟨s1.heap.objs.size + 1, [s1.heap.objs.size + 1, s1.heap.objs.size], _, _, H1, rfl, I2, turn_enumT a _ _, ⟨⟨.none, en⟩, hit, Nat.succ_ne_self _, Nat.ne_of_lt la, Nat.ne_of_lt (Nat.lt_succ_of_lt la)⟩, fresh2, q⟩
theorem walk_enumT {K : PySem.W.Frag} {a : Addr} {xs : List V} : Walk (ItE K a) xs.length (fun H => SqT K H a xs) (YPair (fun i => some (.int (i : Nat))) (fun i => xs[i]?)) := by
  refine ⟨fun i _ hi q => ⟨xs, xs[i], q, by simp [hi]⟩, fun _ q => ⟨xs, q, Nat.le_refl _⟩, fun i H v H' _ q y => ?_⟩
  obtain ⟨T, x, h1, h2, h3, h4⟩ := y
  exact ⟨T, .int (i : Nat), x, h1, h2, h3, rfl, h4 xs q⟩
theorem walk_zipT {K : PySem.W.Frag} {a b : Addr} {xs ys : List V} {n : Nat} (hn : n = min xs.length ys.length) : Walk (RZ.ItzT K a b) n (fun H => SqT K H a xs ∧ SqT K H b ys) (YPair (fun i => xs[i]?) (fun i => ys[i]?)) := by
  subst hn
  refine ⟨fun i _ hi q => ?_, fun _ q => ⟨xs, ys, q.1, q.2, by omega⟩, fun i H v H' _ q y => ?_⟩
  · have h1 : i < xs.length := by omega
    have h2 : i < ys.length := by omega
    exact ⟨xs, ys, xs[i], ys[i], q.1, q.2, by simp [h1], by simp [h2]⟩
  · obtain ⟨T, x, z, h1, h2, h3, h4, h5⟩ := y
    exact ⟨T, x, z, h1, h2, h3, h4 xs q.1, h5 ys q.2⟩
end Fs

set_option Elab.async false
set_option linter.all false
set_option maxRecDepth 100000
set_option maxHeartbeats 4000000
namespace Fs
open PySem L2

section
variable {pa : PA} {H0 G0 G G1 G2 H H1 H2 : Hp} {σ : L2.St} {s s1 s2 : S} {v w : V} {d : D} {t : Tg}

theorem Ext.back (e : Ext pa G G1 H H1 σ s s1) {a : Addr} (h : H1 a = none) (S1 : Sim pa H0 G0 G1 σ H1 s1) : H a = none := by
  cases z : H a with
  | none => rfl
  | some o =>
    have np : ¬ pen1 pa a := (S1.none0 h).2.2.1
    rw [e.hk a o z np] at h; cases h
/-- a fresh list is no other value -/
theorem RT.apart (S1 : Sim pa H0 G0 G σ H s) {a : Addr} (g : G a = none) (o : ¬ OwnAt σ s a) (hd : ∃ ds, d = .list ds) (r : RT pa H0 G σ H s v d t) (e : v = .ref a) : t = .fresh := by
  subst e
  obtain ⟨ds, rfl⟩ := hd
  cases t with
  | fresh => rfl
  | fz =>
    exfalso
    cases (show Rp pa G _ _ from r) with
    | lst h _ => rw [g] at h; cases h
  | slot i =>
    exfalso
    obtain ⟨f, h1, h2⟩ := r
    cases f with
    | true => exact o ⟨i, _, h1, h2⟩
    | false =>
      obtain ⟨w, h3, r⟩ := S1.fz i _ h1
      rw [h2] at h3; cases h3
      cases r with
      | lst h _ => rw [g] at h; cases h

/-- several values -/
def RTs (pa : PA) (H0 G : Hp) (σ : L2.St) (H : Hp) (s : S) (Hs : Hp) : List V → List (D × Tg) → Prop
  | [], [] => True
  | v :: vs, x :: xs => RT pa H0 G σ H s v x.1 x.2 ∧ NewT Hs v x.2 ∧ (x.2 = .fresh → ∀ p ∈ vs.zip xs, p.2.2 = .fresh → p.1 ≠ v) ∧ RTs pa H0 G σ H s Hs vs xs
  | _, _ => False
theorem RTs.len : ∀ {vs : List V} {xs : List (D × Tg)} {Hs : Hp}, RTs pa H0 G σ H s Hs vs xs → vs.length = xs.length
  | [], [], _, _ => rfl
  | _ :: _, _ :: _, _, h => by simp [RTs.len h.2.2.2]
  | [], _ :: _, _, h => h.elim
  | _ :: _, [], _, h => h.elim
theorem RTs.weak {Hs Hs' : Hp} (k : ∀ a, Hs' a = none → Hs a = none) : ∀ {vs : List V} {xs : List (D × Tg)}, RTs pa H0 G σ H s Hs' vs xs → RTs pa H0 G σ H s Hs vs xs
  | [], [], _ => trivial
  | _ :: _, _ :: _, h => ⟨h.1, fun z a e => k a (h.2.1 z a e), h.2.2.1, RTs.weak k h.2.2.2⟩
  | [], _ :: _, h => h.elim
  | _ :: _, [], h => h.elim
theorem RTs.tops (S1 : Sim pa H0 G0 G σ H s) : ∀ {vs : List V} {xs : List (D × Tg)} {Hs : Hp}, RTs pa H0 G σ H s Hs vs xs → RpTs pa G H vs (xs.map (·.1))
  | [], [], _, _ => trivial
  | _ :: _, _ :: _, _, h => ⟨h.1.top S1, RTs.tops S1 h.2.2.2⟩
  | [], _ :: _, _, h => h.elim
  | _ :: _, [], _, h => h.elim
theorem RTs.new : ∀ {vs : List V} {xs : List (D × Tg)} {Hs : Hp}, RTs pa H0 G σ H s Hs vs xs → ∀ p ∈ vs.zip xs, NewT Hs p.1 p.2.2 ∧ RT pa H0 G σ H s p.1 p.2.1 p.2.2
  | [], [], _, _, p, hp => by simp at hp
  | v :: vs, x :: xs, _, h, p, hp => by
    rcases List.mem_cons.mp hp with rfl | hp
    · exact ⟨h.2.1, h.1⟩
    · exact RTs.new h.2.2.2 p hp
  | [], _ :: _, _, h, _, _ => h.elim
  | _ :: _, [], _, h, _, _ => h.elim
theorem keep_ext (t : Tg) : Ext pa G G H H σ s (s.keep t) := by
  cases t with
  | fz => exact .refl
  | fresh => exact .refl
  | slot i => exact freeze_ext i (fun _ _ h => .inl h) .refl
theorem keep_pn (t : Tg) : (s.keep t).pn = s.pn := by cases t <;> rfl
theorem keeps_pn : ∀ (ts : List Tg) (s : S), (s.keeps ts).pn = s.pn
  | [], _ => rfl
  | t :: ts, s => (keeps_pn ts _).trans (keep_pn t)
/-- another value, behind the keeping of one -/
theorem RT.other {G' : Hp} {t' : Tg} (S1 : Sim pa H0 G0 G σ H s) (k : Sub G G') (nk : ∀ b o, G' b = some o → G b = some o ∨ (v = .ref b ∧ ∃ ds, d = .list ds)) (rv : RT pa H0 G σ H s v d t) {w : V} {e : D}
    (ap : t = .fresh → t' = .fresh → w ≠ v) (r : RT pa H0 G σ H s w e t') : RT pa H0 G' σ H (s.keep t) w e t' := by
  have E : Ext pa G G H H σ s (s.keep t) := keep_ext t
  cases t' with
  | fz => exact Rp.mono k r
  | fresh =>
    obtain ⟨a, xs, ds, rfl, rfl, h, r, g, h0, n, o⟩ := r
    refine ⟨a, xs, ds, rfl, rfl, h, r.mono k, ?_, h0, n, fun z => o (E.own z)⟩
    cases q : G' a with
    | none => rfl
    | some u =>
      rcases nk a u q with z | z
      · rw [g] at z; cases z
      · have tf := rv.apart S1 g o z.2 z.1
        exact (ap tf rfl z.1.symm).elim
  | slot i =>
    obtain ⟨f, h1, h2⟩ := r
    obtain ⟨f', h3, _⟩ := E.sl i e f h1
    exact ⟨f', h3, h2⟩
theorem RTs.other {G' : Hp} {Hs : Hp} (S1 : Sim pa H0 G0 G σ H s) (k : Sub G G') (nk : ∀ b o, G' b = some o → G b = some o ∨ (v = .ref b ∧ ∃ ds, d = .list ds)) (rv : RT pa H0 G σ H s v d t) :
    ∀ {vs : List V} {xs : List (D × Tg)}, (t = .fresh → ∀ p ∈ vs.zip xs, p.2.2 = .fresh → p.1 ≠ v) → RTs pa H0 G σ H s Hs vs xs → RTs pa H0 G' σ H (s.keep t) Hs vs xs
  | [], [], _, _ => trivial
  | w :: vs, x :: xs, ap, h =>
    ⟨RT.other S1 k nk rv (fun z1 z2 => ap z1 (w, x) (by simp) z2) h.1, h.2.1, h.2.2.1, RTs.other S1 k nk rv (fun z p hp => ap z p (List.mem_cons_of_mem _ hp)) h.2.2.2⟩
  | [], _ :: _, _, h => h.elim
  | _ :: _, [], _, h => h.elim
/-- all values are kept for good -/
theorem RTs.keep {Hs Gs : Hp} {ss : S} : ∀ {vs : List V} {xs : List (D × Tg)} {G : Hp} {s : S}, Sim pa H0 G0 G σ H s → Ext pa Gs G Hs H σ ss s → RTs pa H0 G σ H s Hs vs xs →
    ∃ G', Sim pa H0 G0 G' σ H (s.keeps (xs.map (·.2))) ∧ Ext pa Gs G' Hs H σ ss (s.keeps (xs.map (·.2))) ∧ Sub G G' ∧ Rps pa G' vs (xs.map (·.1))
  | [], [], G, s, S1, E, _ => ⟨G, S1, E, .refl, .nil⟩
  | v :: vs, x :: xs, G, s, S1, E, h => by
    obtain ⟨r, nw, ap, rs⟩ := h
    obtain ⟨G1, S2, E2, k1, nk, rp⟩ := r.keep S1 E nw
    obtain ⟨G2, S3, E3, k2, rps⟩ := RTs.keep S2 E2 (rs.other S1 k1 nk r ap)
    exact ⟨G2, S3, E3, k1.trans k2, .cons (rp.mono k2) rps⟩
  | [], _ :: _, _, _, _, _, h => h.elim
  | _ :: _, [], _, _, _, _, h => h.elim

/-- behind a call -/
theorem Sim.call {p : Option Pn} (S1 : Sim pa H0 G0 G σ H s) (kept : ∀ a o, H a = some o → ¬ pen1 pa a → H2 a = some o) (k : Sub G G2) (u : Sub G2 H2) (nw : ∀ a o, G2 a = some o → G a = some o ∨ H a = none) (hp : PenAt pa G2 H2 p) :
    Sim pa H0 G0 G2 σ H2 { s with pn := p } ∧ Ext pa G G2 H H2 σ s { s with pn := p } := by
  refine ⟨⟨S1.len, u, S1.base.trans k, fun a o h => ?_, fun a o h n => kept a o (S1.kee a o h n) n, hp, fun i d h => ?_, fun i d h => ?_, S1.dis⟩, ⟨kept, k, fun a o h => ?_, rfl, fun _ h => h, fun _ _ f h => ⟨f, h, fun z => z⟩⟩⟩
  · rcases nw a o h with z | z
    · exact S1.new a o z
    · exact .inr (S1.none0 z).1
  · obtain ⟨v, e1, e2⟩ := S1.fz i d h
    exact ⟨v, e1, e2.mono k⟩
  · obtain ⟨a, xs, ds, e1, e2, e3, e4, e5, e6, e7⟩ := S1.ow i d h
    refine ⟨a, xs, ds, e1, e2, kept _ _ e3 e7, e4.mono k, ?_, e6, e7⟩
    cases q : G2 a with
    | none => rfl
    | some o =>
      rcases nw a o q with z | z
      · rw [e5] at z; cases z
      · rw [e3] at z; cases z
  · rcases nw a o h with z | z
    · exact .inl z
    · exact .inr (.inl z)
theorem PenAt.back {p q : Option Pn} (h2 : PenAt pa G2 H2 q) (h1 : PenAt pa G1 H1 p) (k : Sub G1 G2) : PenAt pa G1 H2 q := by
  cases pa with
  | none => cases q with
    | none => trivial
    | some q => exact h2.elim
  | some x =>
    obtain ⟨a, c, T⟩ := x
    cases q with
    | none => exact h2.elim
    | some q =>
      cases p with
      | none => exact h1.elim
      | some p =>
        refine ⟨h2.1, h2.2.1, ?_, h1.2.2.2.1, h2.2.2.2.2.1, h1.2.2.2.2.2⟩
        have e1 := h1.2.2.1
        have e2 := k _ _ e1
        rw [h2.2.2.1] at e2
        rw [e1, e2]
theorem Rp.scal_mono (z : scal d = true) (r : Rp pa G v d) : Rp pa G1 v d := by
  cases r with
  | non => exact .non
  | bl b => exact .bl b
  | int i => exact .int i
  | str x => exact .str x
  | lst h r => cases z
  | tup h r => cases z
  | pen h => cases z
  | fn => cases z
  | exc h => cases z
  | exa h x r => cases z
  | dct h r => cases z
theorem Sub.keptPen (S1 : Sim pa H0 G0 G σ H s) (kept : ∀ a o, H a = some o → ¬ pen1 pa a → H2 a = some o) : Sub G H2 := fun a o h => by
  refine kept a o (S1.sub a o h) fun n => ?_
  rw [S1.pen.free n] at h; cases h
end

/-- a def does what F says -/
def spF (F : Fn) (n : Nat) : GSp := fun vs H Q => ∃ pa G ds p d fr p1, ds.length = n ∧ Sub G H ∧ PenAt pa G H p ∧ Rps pa G vs ds ∧ F ds p = some ((d, fr), p1) ∧
  ∀ v H1 G1, (∀ a o, H a = some o → ¬ pen1 pa a → H1 a = some o) → Sub G G1 → Sub G1 H1 → (∀ a o, G1 a = some o → G a = some o ∨ H a = none) → PenAt pa G1 H1 p1 →
    (if fr = true then ∃ a xs es, v = .ref a ∧ d = .list es ∧ H a = none ∧ H1 a = some (.lst xs) ∧ Rps pa G1 xs es ∧ G1 a = none else Rp pa G1 v d) → Q v H1
/-- the drawing of an item -/
def spOne : GSp := fun vs H Q => ∃ pa G v w x y p d p1, vs = [v, w] ∧ Sub G H ∧ PenAt pa G H p ∧ RpT pa G H v x ∧ RpT pa G H w y ∧ (∀ b, w = .ref b → ¬ pen1 pa b) ∧ oneF x y p = some (d, p1) ∧
  ∀ u H1, (∀ a o, H a = some o → ¬ pen1 pa a → H1 a = some o) → PenAt pa G H1 p1 → Rp pa G u d → Q u H1
structure Call1 (W : Wd) (k : Nat) (x : Str) (n : Nat) (sp : GSp) : Prop where
  of : ∃ f fd ps, GFn W k f fd ps sp ∧ W.mg x = some (.ref f) ∧ PySem.W.keepIn W.K (.ref f) = true ∧ L2.Binds W.K fd ps []
/-- a table of the module -/
def TabR (P : Params) : List DictEntry → List (Str × Int) → Prop
  | [], [] => True
  | e :: r, (k, v) :: l => (∃ t, e.key = .str k t) ∧ e.hash = PyData.keyHash P k ∧ (∃ t, e.val = .int v t) ∧ TabR P r l
  | _, _ => False
theorem TabR.lit {P : Params} : ∀ {es : List DictEntry} {tb : List (Str × Int)}, TabR P es tb → PySem.W.KeysLit P es
  | [], _, _ => trivial
  | _ :: _, (_, _) :: _, ⟨⟨t, h⟩, hh, _, r⟩ => ⟨⟨_, t, h, hh⟩, r.lit⟩
theorem TabR.ref {P : Params} : ∀ {es : List DictEntry} {tb : List (Str × Int)}, TabR P es tb → es.any (·.refKey) = false
  | [], _, _ => rfl
  | e :: _, (_, _) :: _, ⟨⟨t, h⟩, _, _, r⟩ => by
    rw [List.any_cons, r.ref]
    unfold DictEntry.refKey
    rw [h]; rfl
/-- what stands at a key -/
def TabV (r : Option Value) (v : Option Int) : Prop := match r, v with
  | none, none => True
  | some u, some n => ∃ t, u = .int n t
  | _, _ => False
theorem TabR.find {P : Params} (z : Str) : ∀ {es : List DictEntry} {tb : List (Str × Int)}, TabR P es tb → TabV ((es.find? (·.key.isStr z)).map (·.val)) (tbl tb z)
  | [], [], _ => trivial
  | e :: r, (k, v) :: l, ⟨⟨t, h⟩, _, ⟨t2, h2⟩, hr⟩ => by
    rw [List.find?_cons, tbl]
    have e1 : e.key.isStr z = (k == z) := by rw [h]; rfl
    rw [e1]
    by_cases q : k = z
    · rw [if_pos q, beq_iff_eq.mpr q]
      exact ⟨t2, h2⟩
    · rw [if_neg q]
      have q2 : (k == z) = false := by
        cases y : k == z with
        | false => rfl
        | true => exact absurd (beq_iff_eq.mp y) q
      rw [q2]
      exact hr.find z
/-- a table of the module's defs -/
def TabRF (P : Params) (adr : Str → Nat) : List DictEntry → List (Str × Str) → Prop
  | [], [] => True
  | e :: r, (k, v) :: l => (∃ t, e.key = .str k t) ∧ e.hash = PyData.keyHash P k ∧ e.val = .ref (adr v) ∧ TabRF P adr r l
  | _, _ => False
theorem TabRF.find {P : Params} {adr : Str → Nat} (z : Str) : ∀ {es : List DictEntry} {tb : List (Str × Str)}, TabRF P adr es tb → (es.find? (·.key.isStr z)).map (·.val) = (look tb z).map fun v => Value.ref (adr v)
  | [], [], _ => rfl
  | e :: r, (k, v) :: l, ⟨⟨t, h⟩, _, h2, hr⟩ => by
    rw [List.find?_cons, look]
    have e1 : e.key.isStr z = (k == z) := by rw [h]; rfl
    rw [e1]
    by_cases q : k = z
    · rw [if_pos q, beq_iff_eq.mpr q]
      exact congrArg some h2
    · rw [if_neg q]
      have q2 : (k == z) = false := by
        cases y : k == z with
        | false => rfl
        | true => exact absurd (beq_iff_eq.mp y) q
      rw [q2]
      exact hr.find z
theorem TabRF.lit {P : Params} {adr : Str → Nat} : ∀ {es : List DictEntry} {tb : List (Str × Str)}, TabRF P adr es tb → PySem.W.KeysLit P es
  | [], _, _ => trivial
  | _ :: _, (_, _) :: _, ⟨⟨t, h⟩, hh, _, r⟩ => ⟨⟨_, t, h, hh⟩, r.lit⟩
theorem TabRF.ref {P : Params} {adr : Str → Nat} : ∀ {es : List DictEntry} {tb : List (Str × Str)}, TabRF P adr es tb → es.any (·.refKey) = false
  | [], _, _ => rfl
  | e :: _, (_, _) :: _, ⟨⟨t, h⟩, _, _, r⟩ => by
    rw [List.any_cons, r.ref]
    unfold DictEntry.refKey
    rw [h]; rfl
theorem TabRF.ns {K : PySem.W.Frag} {w : World} {adr : Str → Nat} {d : Addr} {es : Array DictEntry} {n : Nat} {tb : List (Str × Str)} (D : L2.KDict K w d es n) (h : TabRF w.params adr es.toList tb) (z : Str) :
    PySem.W.nsIn K d z = some ((look tb z).map fun v => Value.ref (adr v)) := by
  have f := h.find z
  unfold PySem.W.nsIn
  rw [D.at_]
  dsimp only
  cases q : es.toList.find? (·.key.isStr z) with
  | some e => rw [q] at f; rw [← f]; rfl
  | none => rw [q] at f; rw [h.ref, ← f]; rfl
structure TabFAt (W : Wd) (x : Str) (adr : Str → Nat) (tb : List (Str × Str)) : Prop where
  of : ∃ d es n, W.mg x = some (.ref d) ∧ L2.KDict W.K W.w d es n ∧ TabRF W.w.params adr es.toList tb
structure TabAt (W : Wd) (x : Str) (tb : List (Str × Int)) : Prop where
  of : ∃ d es n, W.mg x = some (.ref d) ∧ L2.KDict W.K W.w d es n ∧ TabR W.w.params es.toList tb
theorem TabR.ns {K : PySem.W.Frag} {w : World} {d : Addr} {es : Array DictEntry} {n : Nat} {tb : List (Str × Int)} (D : L2.KDict K w d es n) (h : TabR w.params es.toList tb) (z : Str) :
    ∃ r, PySem.W.nsIn K d z = some r ∧ TabV r (tbl tb z) := by
  have f := h.find z
  unfold PySem.W.nsIn
  rw [D.at_]
  dsimp only
  cases q : es.toList.find? (·.key.isStr z) with
  | some e => rw [q] at f; exact ⟨_, rfl, f⟩
  | none =>
    rw [q] at f
    rw [h.ref]
    exact ⟨none, rfl, f⟩
/-- a class of exceptions without an own __init__ -/
def NewC (W : Wd) (x : Str) (C : Addr) : Prop := (∃ (B newId initId : String) (bmB : List Value), ExcBaseFacts B newId initId bmB ∧ PySem.W.excIn W.K C bmB newId = true) ∧ W.mg x = some (.ref C) ∧ PySem.W.keepIn W.K (.ref C) = true
/-- what an own __init__ does that keeps its value under f -/
def spXI (C : Addr) (f : Str) : GSp := fun vs H Q => ∃ (a : Addr) (v : V), vs = [.ref a, v] ∧ H a = some (exo a C none) ∧ ∀ dx, H dx = none → dx ≠ a → Q .non (upd (upd H dx (exd dx [(f, v)])) a (exo a C (some dx)))
/-- one with an own __init__ -/
def NewK (W : Wd) (k : Nat) (x : Str) (C : Addr) (f : Str) : Prop := ∃ (j : Nat) (g : Addr) (fd : FuncData) (ps : List Str), j + 1 ≤ k ∧ GFn W j g fd ps (spXI C f) ∧ W.mg x = some (.ref C) ∧ OexC W.K C ∧
  PySem.W.findIn W.K (.ref C) "__init__" = some (some (.ref g)) ∧ PySem.W.typeIn W.K (.ref g) = some (.type "function") ∧ L2.Binds W.K fd ps []
/-- a class whose instances' fields may be read -/
def AtC (W : Wd) (C : Addr) (m : Str) : Prop := L2.XfC W.K C ∧ PySem.W.findIn W.K (.ref C) m = some none
def askOf (W : Wd) (k : Nat) : Ask where
  glob x d := ∃ v u, W.mg x = some u ∧ RelV v u ∧ Rp none (fun _ => none) v d
  call x F n := Call1 W k x n (spF F n)
  one x := Call1 W k x 2 spOne
  isx x adr names sub := ∃ v cv, (W.mg x = some cv ∨ (W.mg x = none ∧ bootBuiltins x = some cv ∧ x ≠ "__name__")) ∧ RelV v cv ∧ (∀ u, RelV v u → u = cv) ∧
    ∀ c, c ∈ names → L2.ExcC W.K (adr c) ∧ PySem.W.kitOne W.K (.ref (adr c)) cv = some (sub c)
  tab x tb := TabAt W x tb
  fnat x adr := W.mg x = some (.ref (adr x))
  tabf x adr ks := TabFAt W x adr ks
  newx x adr f := match f with
    | none => NewC W x (adr x)
    | some f => NewK W k x (adr x) f
  xat m adr names := ∀ c, c ∈ names → AtC W (adr c) m

def bnames : List Str := ["len", "all", "any", "sum", "max", "min", "tuple", "list", "repr", "int", "sorted", "set", "range", "enumerate", "zip", "isinstance", "bool", "str"]
/-- the context of a text -/
structure Cd (X : Cx) (N : List Str) (sc : Scope) (k : Nat) : Prop where
  hN : X.N = N
  nd : N.Nodup
  hs : X.env.scope = sc
  calm : X.calm = true
  room : Room k X.A
  gd : X.A.guards = some []
  bl : ∀ x, x ∈ bnames → X.mg x = none
theorem Cd.un {X : Cx} {N : List Str} {sc : Scope} {k : Nat} (C : Cd X N sc k) : X.A.units + 65 < cLine := by have := C.room.un; omega

abbrev Ev := S → Option ((D × Tg) × S)
def tV (f : Ev) : TE := fun σ H Q => ∃ pa H0 G0 G s d t s1, Sim pa H0 G0 G σ H s ∧ f s = some ((d, t), s1) ∧
  ∀ v H1 G1, Sim pa H0 G0 G1 σ H1 s1 → Ext pa G G1 H H1 σ s s1 → RT pa H0 G1 σ H1 s1 v d t → NewT H v t → Q v H1
abbrev tI (e : IE) : TE := tV (evalE e)
def tQ (f : S → Option (Bool × S)) : TT := fun σ H Q => ∃ pa H0 G0 G s b s1, Sim pa H0 G0 G σ H s ∧ f s = some (b, s1) ∧ ∀ H1 G1, Sim pa H0 G0 G1 σ H1 s1 → Ext pa G G1 H H1 σ s s1 → Q b H1
def tAs (es : IEs) : TA := fun σ H Q => ∃ pa H0 G0 G s xs s1, Sim pa H0 G0 G σ H s ∧ evalEs es s = some (xs, s1) ∧
  ∀ vs H1 G1, Sim pa H0 G0 G1 σ H1 s1 → Ext pa G G1 H H1 σ s s1 → RTs pa H0 G1 σ H1 s1 H vs xs → Q vs H1
def tOo (o : IO) : TO := fun σ H Q => ∃ pa H0 G0 G s r s1, Sim pa H0 G0 G σ H s ∧ evalO o s = some (r, s1) ∧ ∃ i, optI r = some i ∧ ∀ H1 G1, Sim pa H0 G0 G1 σ H1 s1 → Ext pa G G1 H H1 σ s s1 → Q i H1
theorem PT.imp {X : Cx} {e : Expr} {t t' : TT} (h : PT X e t) (k : ∀ σ H Q, t' σ H Q → t σ H Q) : PT X e t' := ⟨fun pins s σ H Q I q => h.run pins s σ H Q I (k σ H Q q)⟩
theorem PW.imp {X : Cx} {e : Expr} {t t' : TT} (h : PW X e t) (k : ∀ σ H Q, t' σ H Q → t σ H Q) : PW X e t' := ⟨fun wh pins s σ H Q I q => h.run wh pins s σ H Q I (k σ H Q q)⟩
theorem PA.imp {X : Cx} {es : List Expr} {t t' : TA} (h : L2.PA X es t) (k : ∀ σ H Q, t' σ H Q → t σ H Q) : L2.PA X es t' := ⟨fun pos pins s σ H Q I q => h.run pos pins s σ H Q I (k σ H Q q)⟩
theorem PO.imp {X : Cx} {e : Option Expr} {t t' : TO} (h : PO X e t) (k : ∀ σ H Q, t' σ H Q → t σ H Q) : PO X e t' := ⟨fun pins s σ H Q I q => h.run pins s σ H Q I (k σ H Q q)⟩
theorem tQ_tB {f : Ev} {σ : L2.St} {H : Hp} {Q : Bool → Hp → Prop} (h : tQ (fun s => boolD (f s)) σ H Q) : tB (tV f) σ H Q := by
  obtain ⟨pa, H0, G0, G, s, b, s1, S1, e, k⟩ := h
  unfold boolD at e
  obtain ⟨⟨⟨d, t⟩, s2⟩, e1, e2⟩ := Option.bind_eq_some_iff.mp e
  dsimp only at e2
  split at e2
  · rename_i c
    cases e2
    refine ⟨pa, H0, G0, G, s, _, t, _, S1, e1, fun v H1 G1 S2 E2 R2 _ => ⟨b, (R2.top S2).bl, k H1 G1 S2 E2⟩⟩
  · cases e2
end Fs

set_option Elab.async false
set_option linter.all false
set_option maxRecDepth 100000
set_option maxHeartbeats 4000000
namespace Fs
open PySem L2

theorem obind {α β : Type} {o : Option α} {f : α → Option β} {b : β} (h : (o >>= f) = some b) : ∃ a, o = some a ∧ f a = some b := Option.bind_eq_some_iff.mp h

def plX : Expr → Bool
  | .Starred _ _ => false
  | .Slice _ _ _ _ => false
  | .Set _ _ _ => false
  | _ => true
def tsX : Expr → Bool
  | .UnaryOp .Not _ _ => false
  | .BoolOp _ _ _ => false
  | .IfExp _ _ _ _ => false
  | .Compare _ _ _ _ => false
  | _ => true
theorem em_pl (N : List Str) (e : IE) (E : Em) : plX (emE N e E).1 = true := by
  cases e <;> first | rfl | (rename_i f _; cases f <;> rfl) | (rename_i m _ _ _; cases m <;> rfl)
theorem star_pl {e : Expr} {es : List Expr} {env : Env} (h : plX e = true) : starEach (e :: es) env = (false, eval e env) :: starEach es env := by
  cases e <;> first | rfl | cases h
theorem ix_pl {e : Expr} (h : plX e = true) : PlainIx e := by
  cases e <;> first | (intro o i; rfl) | cases h
theorem mark_pl {e : Expr} {op : CmpOp} (h : plX e = true) : behindInMarks op e = false := by
  cases e <;> first | rfl | cases h
theorem fold_pl {e : Expr} {env : Env} (h : plX e = true) : ∀ x, foldedSetIterable e env x = pure x := by
  cases e <;> first | (intro x; rfl) | cases h
theorem true_pl {e : Expr} {env : Env} (h : tsX e = true) : ∀ whole, isTrue e env whole = (do let v ← whole; standAt e.pos; holding [v] (truthy v)) := by
  intro whole
  cases e with
  | UnaryOp op x p => cases op <;> first | rfl | cases h
  | _ => first | rfl | cases h
theorem stars (N : List Str) (env : Env) (pos : Pos) : ∀ (es : IEs) (E : Em), (backTo pos (starEach (emEs N es E).1 env)).any (·.1) = false
  | .nil, _ => rfl
  | .cons e es, E => by
    show (backTo pos (starEach ((emE N e E).1 :: (emEs N es (emE N e E).2).1) env)).any (·.1) = false
    rw [star_pl (em_pl N e E)]
    exact stars N env pos es (emE N e E).2
theorem em_len (N : List Str) : ∀ (es : IEs) (E : Em), (emEs N es E).1.length = es.len
  | .nil, _ => rfl
  | .cons e es, E => by
    show ((emE N e E).1 :: (emEs N es (emE N e E).2).1).length = es.len + 1
    rw [List.length_cons, em_len N es]
theorem ev_len : ∀ (es : IEs) {s s1 : S} {xs : List (D × Tg)}, evalEs es s = some (xs, s1) → xs.length = es.len
  | .nil, s, s1, xs, h => by
    rw [evalEs] at h; cases h; rfl
  | .cons e es, s, s1, xs, h => by
    rw [evalEs] at h
    obtain ⟨⟨x, s2⟩, e1, h⟩ := obind h
    obtain ⟨⟨ys, s3⟩, e2, h⟩ := obind h
    cases h
    rw [List.length_cons, ev_len es e2]; rfl

theorem vis_of {N : List Str} {sc : Scope} {i : Nat} (h : visB N sc i = true) : N[i]? = some (nm N i) ∧ Vis sc (nm N i) ∧ (nm N i == ("__debug__" : Str)) = false ∧ (nm N i == ("__classdict__" : Str)) = false := by
  unfold visB at h
  split at h
  · rename_i x hx
    have e : nm N i = x := by unfold nm; rw [List.getD_eq_getElem?_getD, hx]; rfl
    rw [e]
    simp only [Bool.and_eq_true, Bool.not_eq_true'] at h
    refine ⟨hx, ?_, h.1.2, h.2⟩
    have h1 := h.1.1
    split at h1
    · exact .inl (by assumption)
    · exact .inr (.inl (by assumption))
    · exact .inr (.inr (by assumption))
    · cases h1
  · cases h
theorem loc_of {N : List Str} {sc : Scope} {i : Nat} (h : locB N sc i = true) : N[i]? = some (nm N i) ∧ Loc sc (nm N i) := by
  unfold locB at h
  split at h
  · rename_i x hx
    have e : nm N i = x := by unfold nm; rw [List.getD_eq_getElem?_getD, hx]; rfl
    rw [e]
    refine ⟨hx, ?_⟩
    split at h
    · exact .inl (by assumption)
    · exact .inr (by assumption)
    · cases h
  · cases h
theorem gl_of {X : Cx} {N : List Str} {sc : Scope} {k : Nat} {x : Str} (C : Cd X N sc k) (h : glB sc x = true) : Gl X x ∧ (x == ("__debug__" : Str)) = false := by
  unfold glB at h
  simp only [Bool.and_eq_true, Bool.not_eq_true'] at h
  refine ⟨?_, h.2⟩
  show X.env.scope.names.lookup x = _
  rw [C.hs]
  have h1 := h.1
  split at h1
  · assumption
  · cases h1

section
variable {pa : PA} {H0 G0 G G1 G2 H H1 H2 : Hp} {σ : L2.St} {s s1 s2 : S} {d d1 d2 : D} {t t1 t2 : Tg}
theorem two {f g : Ev} (S0 : Sim pa H0 G0 G σ H s) (e1 : f s = some ((d1, t1), s1)) (e2 : g s1 = some ((d2, t2), s2)) {R : V → V → Hp → Prop}
    (k : ∀ v w H2 G2, Sim pa H0 G0 G2 σ H2 s2 → Ext pa G G2 H H2 σ s s2 → RT pa H0 G2 σ H2 s2 v d1 t1 → NewT H v t1 → RT pa H0 G2 σ H2 s2 w d2 t2 → NewT H w t2 → R v w H2) : tV f σ H fun x H1 => tV g σ H1 fun y H2 => R x y H2 :=
  ⟨pa, H0, G0, G, s, d1, t1, s1, S0, e1, fun v H1 G1 S1 E1 R1 N1 => ⟨pa, H0, G0, G1, s1, d2, t2, s2, S1, e2, fun w H2 G2 S2 E2 R2 N2 =>
    k v w H2 G2 S2 (E1.trans S2 E2) (R1.ext S2 E2) N1 R2 fun z a e => E1.back (N2 z a e) S1⟩⟩
theorem fin {fr : Bool} {Q : VK} (S2 : Sim pa H0 G0 G2 σ H2 s2) (E2 : Ext pa G G2 H H2 σ s s2)
    (k : ∀ v H1 G1, Sim pa H0 G0 G1 σ H1 s2 → Ext pa G G1 H H1 σ s s2 → RT pa H0 G1 σ H1 s2 v d (if fr then .fresh else .fz) → NewT H v (if fr then .fresh else .fz) → Q v H1) : ∀ v H3, Res pa G2 H2 v d fr H3 → Q v H3 := fun v H3 r => by
  obtain ⟨G3, S3, E3, R3, N3⟩ := S2.res r
  exact k v H3 G3 S3 (E2.trans S3 E3) R3 fun z a e => E2.back (N3 z a e) S2
theorem tQ_of {f : S → Option (Bool × S)} {b : Bool} {Q : Bool → Hp → Prop} (S0 : Sim pa H0 G0 G σ H s) (e : f s = some (b, s1)) (k : ∀ H1 G1, Sim pa H0 G0 G1 σ H1 s1 → Ext pa G G1 H H1 σ s s1 → Q b H1) : tQ f σ H Q :=
  ⟨pa, H0, G0, G, s, b, s1, S0, e, k⟩
theorem tV_of {f : Ev} {Q : VK} (S0 : Sim pa H0 G0 G σ H s) (e : f s = some ((d, t), s1)) (k : ∀ v H1 G1, Sim pa H0 G0 G1 σ H1 s1 → Ext pa G G1 H H1 σ s s1 → RT pa H0 G1 σ H1 s1 v d t → NewT H v t → Q v H1) : tV f σ H Q :=
  ⟨pa, H0, G0, G, s, d, t, s1, S0, e, k⟩
end

/-- a text's expressions -/
structure Sd (X : Cx) (N : List Str) (k : Nat) (e : IE) (E : Em) : Prop where
  pe : PE X (emE N e E).1 (tI e)
  pt : PT X (emE N e E).1 (tQ fun s => boolD (evalE e s))
theorem Sd.val {X : Cx} {N : List Str} {k : Nat} {e : IE} {E : Em} (h : PE X (emE N e E).1 (tI e)) (z : tsX (emE N e E).1 = true) : Sd X N k e E :=
  ⟨h, PT.imp (pt_val h (true_pl z)) fun σ H Q q => tQ_tB q⟩
structure Sd2 (X : Cx) (op : BoolOp) (es : List Expr) (f : Ev) : Prop where
  pe : ∀ pos, PE X (.BoolOp op es pos) (tV f)
  pw : ∀ pos, PW X (.BoolOp op es pos) (tQ fun s => boolD (f s))
end Fs

set_option Elab.async false
set_option linter.all false
set_option maxRecDepth 100000
set_option maxHeartbeats 4000000
namespace Fs
open PySem L2

theorem put_len (s : S) (i : Nat) (x : D × Bool) : (s.put i x).sl.length = s.sl.length := by simp [S.put]
theorem put_at {s : S} {i : Nat} {x : D × Bool} (h : i < s.sl.length) : (s.put i x).sl[i]? = some (some x) := by
  show (s.sl.set i (some x))[i]? = _
  rw [List.getElem?_set_self h]
theorem put_ne {s : S} {i j : Nat} {x : D × Bool} (h : i ≠ j) : (s.put i x).sl[j]? = s.sl[j]? := by
  show (s.sl.set i (some x))[j]? = _
  rw [List.getElem?_set_ne h]
theorem set_at {σ : L2.St} {i : Nat} {v : Option V} (h : i < σ.length) : (σ.set i v)[i]? = some v := List.getElem?_set_self h
theorem set_ne {σ : L2.St} {i j : Nat} {v : Option V} (h : i ≠ j) : (σ.set i v)[j]? = σ[j]? := List.getElem?_set_ne h

theorem wipe_len (s : S) : ∀ vs : List Nat, (s.wipe vs).sl.length = s.sl.length
  | [] => rfl
  | i :: is => by
    show ((s.wipe is).sl.set i none).length = _
    rw [List.length_set, wipe_len s is]
theorem wipe_pn (s : S) : ∀ vs : List Nat, (s.wipe vs).pn = s.pn
  | [] => rfl
  | i :: is => wipe_pn s is
theorem wipe_not {s : S} {j : Nat} : ∀ {vs : List Nat}, j ∉ vs → (s.wipe vs).sl[j]? = s.sl[j]?
  | [], _ => rfl
  | i :: is, h => by
    show ((s.wipe is).sl.set i none)[j]? = _
    rw [List.getElem?_set_ne (fun z => h (by simp [z]))]
    exact wipe_not fun z => h (List.mem_cons_of_mem _ z)
theorem wipe_mem {s : S} {j : Nat} {p : D × Bool} : ∀ {vs : List Nat}, j ∈ vs → (s.wipe vs).sl[j]? ≠ some (some p)
  | i :: is, h, e => by
    have e : ((s.wipe is).sl.set i none)[j]? = some (some p) := e
    by_cases z : i = j
    · subst z
      by_cases l : i < (s.wipe is).sl.length
      · rw [List.getElem?_set_self l] at e; cases e
      · rw [List.getElem?_eq_none (by simpa using l)] at e; cases e
    · rw [List.getElem?_set_ne z] at e
      rcases List.mem_cons.mp h with q | q
      · exact z q.symm
      · exact wipe_mem q e
theorem wipe_mem2 {s : S} {j : Nat} : ∀ {vs : List Nat}, j ∈ vs → j < s.sl.length → (s.wipe vs).sl[j]? = some none
  | i :: is, h, l => by
    show ((s.wipe is).sl.set i none)[j]? = _
    by_cases z : i = j
    · subst z
      rw [List.getElem?_set_self (by rw [wipe_len]; exact l)]
    · rw [List.getElem?_set_ne z]
      rcases List.mem_cons.mp h with q | q
      · exact absurd q.symm z
      · exact wipe_mem2 q l
theorem wipeV_not {σ : L2.St} {j : Nat} : ∀ {vs : List Nat}, j ∉ vs → (L2.wipe σ vs)[j]? = σ[j]?
  | [], _ => rfl
  | i :: is, h => by
    show ((L2.wipe σ is).set i none)[j]? = _
    rw [List.getElem?_set_ne (fun z => h (by simp [z]))]
    exact wipeV_not fun z => h (List.mem_cons_of_mem _ z)
theorem wipeV_mem {σ : L2.St} {j : Nat} : ∀ {vs : List Nat}, j ∈ vs → j < σ.length → (L2.wipe σ vs)[j]? = some none
  | i :: is, h, l => by
    show ((L2.wipe σ is).set i none)[j]? = _
    by_cases z : i = j
    · subst z
      rw [List.getElem?_set_self (by rw [L2.wipe_length]; exact l)]
    · rw [List.getElem?_set_ne z]
      rcases List.mem_cons.mp h with q | q
      · exact absurd q.symm z
      · exact wipeV_mem q l
theorem wipeV_eq {σ σ2 : L2.St} {vs : List Nat} (l : σ2.length = σ.length) (h : ∀ j, j ∉ vs → σ2[j]? = σ[j]?) : L2.wipe σ2 vs = L2.wipe σ vs := by
  apply List.ext_getElem?
  intro j
  by_cases z : j ∈ vs
  · by_cases q : j < σ.length
    · rw [wipeV_mem z (by omega), wipeV_mem z q]
    · rw [List.getElem?_eq_none (by rw [L2.wipe_length]; omega), List.getElem?_eq_none (by rw [L2.wipe_length]; omega)]
  · rw [wipeV_not z, wipeV_not z, h j z]
theorem rest_len (s o : S) : ∀ vs : List Nat, (s.restore o vs).sl.length = s.sl.length
  | [] => rfl
  | i :: is => by
    show ((s.restore o is).sl.set i _).length = _
    rw [List.length_set, rest_len s o is]
theorem rest_pn (s o : S) : ∀ vs : List Nat, (s.restore o vs).pn = s.pn
  | [] => rfl
  | i :: is => rest_pn s o is
theorem rest_not {s o : S} {j : Nat} : ∀ {vs : List Nat}, j ∉ vs → (s.restore o vs).sl[j]? = s.sl[j]?
  | [], _ => rfl
  | i :: is, h => by
    show ((s.restore o is).sl.set i _)[j]? = _
    rw [List.getElem?_set_ne (fun z => h (by simp [z]))]
    exact rest_not fun z => h (List.mem_cons_of_mem _ z)
theorem rest_mem {s o : S} {j : Nat} : ∀ {vs : List Nat}, j ∈ vs → s.sl.length = o.sl.length → (s.restore o vs).sl[j]? = o.sl[j]?
  | i :: is, h, l => by
    show ((s.restore o is).sl.set i ((o.sl[i]?).bind id))[j]? = _
    by_cases z : i = j
    · subst z
      by_cases q : i < o.sl.length
      · rw [List.getElem?_set_self (by rw [rest_len, l]; exact q), List.getElem?_eq_getElem q]; rfl
      · rw [List.getElem?_eq_none (by simp only [List.length_set, rest_len, l]; omega), List.getElem?_eq_none (by omega)]
    · rw [List.getElem?_set_ne z]
      rcases List.mem_cons.mp h with q | q
      · exact absurd q.symm z
      · exact rest_mem q l
theorem unown_of {s : S} {vs : List Nat} (h : s.unowned vs = true) {j : Nat} (hj : j ∈ vs) {d : D} : s.sl[j]? ≠ some (some (d, true)) := fun e => by
  have q := List.all_eq_true.mp h j hj
  have : rd s j = some (d, true) := by unfold rd; rw [e]; rfl
  rw [this] at q; cases q

section
variable {pa : PA} {H0 G0 G G1 G2 H H1 H2 : Hp} {σ σ2 : L2.St} {s s1 s2 : S} {v : V} {d : D}
/-- a kept value is stored -/
theorem Sim.put (S1 : Sim pa H0 G0 G σ H s) {i : Nat} (hi : i < s.sl.length) (r : Rp pa G v d) : Sim pa H0 G0 G (σ.set i (some v)) H (s.put i (d, false)) := by
  have hσ : i < σ.length := by rw [S1.len]; exact hi
  refine ⟨by rw [List.length_set, put_len]; exact S1.len, S1.sub, S1.base, S1.new, S1.kee, S1.pen, fun j e h => ?_, fun j e h => ?_, fun j k e e' a h h' g g' => ?_⟩
  · by_cases z : i = j
    · subst z
      rw [put_at hi] at h; cases h
      exact ⟨v, set_at hσ, r⟩
    · rw [put_ne z] at h; rw [set_ne z]; exact S1.fz j e h
  · by_cases z : i = j
    · subst z; rw [put_at hi] at h; cases h
    · rw [put_ne z] at h; rw [set_ne z]; exact S1.ow j e h
  · by_cases z : i = j
    · subst z; rw [put_at hi] at h; cases h
    · by_cases z' : i = k
      · subst z'; rw [put_at hi] at h'; cases h'
      · rw [put_ne z] at h; rw [put_ne z'] at h'; rw [set_ne z] at g; rw [set_ne z'] at g'; exact S1.dis j k e e' a h h' g g'
/-- a list of our own is stored -/
theorem Sim.putOwn (S1 : Sim pa H0 G0 G σ H s) {i : Nat} (hi : i < s.sl.length) {a : Addr} {xs : List V} {ds : List D} (h : H a = some (.lst xs)) (r : Rps pa G xs ds) (g : G a = none) (h0 : H0 a = none) (n : ¬ pen1 pa a)
    (o : ∀ (j : Nat) (e : D), j ≠ i → s.sl[j]? = some (some (e, true)) → σ[j]? ≠ some (some (V.ref a))) : Sim pa H0 G0 G (σ.set i (some (.ref a))) H (s.put i (.list ds, true)) := by
  have hσ : i < σ.length := by rw [S1.len]; exact hi
  refine ⟨by rw [List.length_set, put_len]; exact S1.len, S1.sub, S1.base, S1.new, S1.kee, S1.pen, fun j e h => ?_, fun j e q => ?_, fun j k e e' b q q' p p' => ?_⟩
  · by_cases z : i = j
    · subst z; rw [put_at hi] at h; cases h
    · rw [put_ne z] at h; rw [set_ne z]; exact S1.fz j e h
  · by_cases z : i = j
    · subst z
      rw [put_at hi] at q; cases q
      exact ⟨a, xs, ds, set_at hσ, rfl, h, r, g, h0, n⟩
    · rw [put_ne z] at q; rw [set_ne z]; exact S1.ow j e q
  · by_cases z : i = j
    · by_cases z' : i = k
      · rw [← z, ← z']
      · subst z
        rw [set_at hσ] at p; cases p
        rw [put_ne z'] at q'; rw [set_ne z'] at p'
        exact absurd p' (o k e' (Ne.symm z') q')
    · by_cases z' : i = k
      · subst z'
        rw [set_at hσ] at p'; cases p'
        rw [put_ne z] at q; rw [set_ne z] at p
        exact absurd p (o j e (Ne.symm z) q)
      · rw [put_ne z] at q; rw [put_ne z'] at q'; rw [set_ne z] at p; rw [set_ne z'] at p'; exact S1.dis j k e e' b q q' p p'
/-- an object that is no one's is written -/
theorem Sim.write (S1 : Sim pa H0 G0 G σ H s) {a : Addr} {o : HO} (hx : ∀ f, H a ≠ some (.ext f)) (g : G a = none) (h0 : H0 a = none) (n : ¬ pen1 pa a) (no : ¬ OwnAt σ s a) : Sim pa H0 G0 G σ (upd H a o) s := by
  refine ⟨S1.len, fun b u h => ?_, S1.base, S1.new, fun b u h m => ?_, ?_, S1.fz, fun i d h => ?_, S1.dis⟩
  · rw [upd_ne]
    · exact S1.sub b u h
    · rintro rfl; rw [g] at h; cases h
  · rw [upd_ne]
    · exact S1.kee b u h m
    · rintro rfl; rw [h0] at h; cases h
  · have p := S1.pen
    cases pa with
    | none =>
      cases q : s.pn with
      | none => trivial
      | some y => rw [q] at p; exact p.elim
    | some x =>
      obtain ⟨b, c, T⟩ := x
      cases q : s.pn with
      | none => rw [q] at p; exact p.elim
      | some y =>
        rw [q] at p
        refine ⟨p.1, ?_, p.2.2.1, p.2.2.2.1, tabs_upd p.2.2.2.2.1 hx (fun z => n ⟨_, _, _, rfl, .inr z⟩), p.2.2.2.2.2⟩
        rw [upd_ne]
        · exact p.2.1
        · rintro rfl; exact n pen1_pen
  · obtain ⟨b, xs, ds, e1, e2, e3, e4⟩ := S1.ow i d h
    refine ⟨b, xs, ds, e1, e2, ?_, e4⟩
    rw [upd_ne]
    · exact e3
    · rintro rfl; exact no ⟨i, d, h, e1⟩
/-- slots are forgotten -/
theorem Sim.wipe (S1 : Sim pa H0 G0 G σ H s) (vs : List Nat) : Sim pa H0 G0 G (L2.wipe σ vs) H (s.wipe vs) := by
  have nm : ∀ {j : Nat} {p : D × Bool}, (s.wipe vs).sl[j]? = some (some p) → j ∉ vs := fun h m => wipe_mem m h
  refine ⟨by rw [L2.wipe_length, wipe_len]; exact S1.len, S1.sub, S1.base, S1.new, S1.kee, by rw [wipe_pn]; exact S1.pen, fun j e h => ?_, fun j e h => ?_, fun j k e e' a h h' g g' => ?_⟩
  · have m := nm h
    rw [wipe_not m] at h; rw [wipeV_not m]; exact S1.fz j e h
  · have m := nm h
    rw [wipe_not m] at h; rw [wipeV_not m]; exact S1.ow j e h
  · have m := nm h
    have m' := nm h'
    rw [wipe_not m] at h; rw [wipe_not m'] at h'; rw [wipeV_not m] at g; rw [wipeV_not m'] at g'; exact S1.dis j k e e' a h h' g g'
/-- a turn of a comprehension, told without its own slots -/
theorem Ext.scope {vs : List Nat} (ln : s1.sl.length = s.sl.length) (out : ∀ j, j ∉ vs → s1.sl[j]? = s.sl[j]? ∧ σ2[j]? = σ[j]?) (inn : ∀ j, j ∈ vs → ∀ d, s1.sl[j]? ≠ some (some (d, true))) (was : ∀ j, j ∈ vs → ∀ p, s.sl[j]? ≠ some (some p))
    (E : Ext pa G G1 H H1 σ2 s1 s2) : Ext pa G G1 H H1 σ s (s2.wipe vs) where
  hk := E.hk
  gk := E.gk
  gn := fun a o h => by
    rcases E.gn a o h with z | z | ⟨j, d, e1, e2⟩
    · exact .inl z
    · exact .inr (.inl z)
    · by_cases m : j ∈ vs
      · exact absurd e1 (inn j m d)
      · obtain ⟨o1, o2⟩ := out j m
        exact .inr (.inr ⟨j, d, by rw [← o1]; exact e1, by rw [← o2]; exact e2⟩)
  ln := by rw [wipe_len, E.ln, ln]
  sn := fun j h => by
    by_cases m : j ∈ vs
    · have l : j < s.sl.length := by
        rcases Nat.lt_or_ge j s.sl.length with q | q
        · exact q
        · rw [List.getElem?_eq_none q] at h; cases h
      exact wipe_mem2 m (by rw [E.ln, ln]; exact l)
    · rw [wipe_not m]; exact E.sn j (by rw [(out j m).1]; exact h)
  sl := fun j d f h => by
    by_cases m : j ∈ vs
    · exact absurd h (was j m _)
    · rw [wipe_not m]; exact E.sl j d f (by rw [(out j m).1]; exact h)
/-- behind a comprehension: its own slots are what they were -/
theorem Sim.restore {vs : List Nat} (S0 : Sim pa H0 G0 G σ H s) (un : s.unowned vs = true) (E : Ext pa G G1 H H1 (L2.wipe σ vs) (s.wipe vs) s1) (S1 : Sim pa H0 G0 G1 (L2.wipe σ vs) H1 s1) :
    Sim pa H0 G0 G1 σ H1 (s1.restore s vs) ∧ Ext pa G G1 H H1 σ s (s1.restore s vs) := by
  have ln : s1.sl.length = s.sl.length := by rw [E.ln, wipe_len]
  have at_in : ∀ {j}, j ∈ vs → (s1.restore s vs).sl[j]? = s.sl[j]? := fun m => rest_mem m ln
  have at_out : ∀ {j}, j ∉ vs → (s1.restore s vs).sl[j]? = s1.sl[j]? := fun m => rest_not m
  have own_out : ∀ {j : Nat} {d : D}, (s1.restore s vs).sl[j]? = some (some (d, true)) → j ∉ vs := fun {j d} h m => by
    rw [at_in m] at h
    exact unown_of un m h
  refine ⟨⟨by rw [rest_len, ln]; exact S0.len, S1.sub, S1.base, S1.new, S1.kee, by rw [rest_pn]; exact S1.pen, fun j e h => ?_, fun j e h => ?_, fun j k e e' a h h' g g' => ?_⟩, ⟨E.hk, E.gk, fun a o h => ?_, by rw [rest_len, ln], fun j h => ?_, fun j e f h => ?_⟩⟩
  · by_cases m : j ∈ vs
    · rw [at_in m] at h
      obtain ⟨v, e1, e2⟩ := S0.fz j e h
      exact ⟨v, e1, e2.mono E.gk⟩
    · rw [at_out m] at h
      obtain ⟨v, e1, e2⟩ := S1.fz j e h
      rw [wipeV_not m] at e1
      exact ⟨v, e1, e2⟩
  · have m := own_out h
    rw [at_out m] at h
    have q := S1.ow j e h
    rw [wipeV_not m] at q
    exact q
  · have m := own_out h
    have m' := own_out h'
    rw [at_out m] at h; rw [at_out m'] at h'
    exact S1.dis j k e e' a h h' (by rw [wipeV_not m]; exact g) (by rw [wipeV_not m']; exact g')
  · rcases E.gn a o h with z | z | ⟨j, d, e1, e2⟩
    · exact .inl z
    · exact .inr (.inl z)
    · have m : j ∉ vs := fun m => wipe_mem m e1
      rw [wipe_not m] at e1
      rw [wipeV_not m] at e2
      exact .inr (.inr ⟨j, d, e1, e2⟩)
  · by_cases m : j ∈ vs
    · rw [at_in m]; exact h
    · rw [at_out m]; exact E.sn j (by rw [wipe_not m]; exact h)
  · by_cases m : j ∈ vs
    · rw [at_in m]; exact ⟨f, h, fun z => z⟩
    · rw [at_out m]; exact E.sl j e f (by rw [wipe_not m]; exact h)
end

def gNames : List Nat → TGs
  | [] => gNil
  | i :: is => gCons (gName i) (gNames is)
def tTr (K : PySem.W.Frag) : Tr → TG
  | .v i => gName i
  | .t is => gTup K is.length (gNames is)
  | .n i is => gTup K 2 (gCons (gName i) (gCons (gTup K is.length (gNames is)) gNil))
theorem asg_names (N : List Str) (env : Env) : ∀ (is : List Nat) (E : Em), (assignEach (emNames N is E).1 env).length = is.length ∧ (assignEach (emNames N is E).1 env).findIdx? (·.1) = none
  | [], _ => ⟨rfl, rfl⟩
  | i :: is, E => by
    obtain ⟨h1, h2⟩ := asg_names N env is E.np
    constructor
    · show (assignEach (.Name (nm N i) E.p :: (emNames N is E.np).1) env).length = _
      show (_ :: assignEach (emNames N is E.np).1 env).length = _
      rw [List.length_cons, List.length_cons, h1]
    · show (_ :: assignEach (emNames N is E.np).1 env).findIdx? _ = _
      rw [List.findIdx?_cons]
      show (if false = true then _ else _) = _
      rw [h2]; rfl
theorem pgs_names {X : Cx} (hN : X.N.Nodup) : ∀ (is : List Nat) (E : Em), (∀ i ∈ is, X.N[i]? = some (nm X.N i) ∧ Loc X.env.scope (nm X.N i) ∧ (X.fn (nm X.N i) = true ∨ X.env.scope.names.lookup (nm X.N i) = some .local)) → PGs X (emNames X.N is E).1 (gNames is)
  | [], _, _ => pgs_nil
  | i :: is, E, h => by
    obtain ⟨h1, h2, h3⟩ := h i (by simp)
    exact pgs_cons (pg_name hN h1 h2 h3) (pgs_names hN is E.np fun j hj => h j (List.mem_cons_of_mem _ hj))
theorem asg_two (env : Env) (x : Str) (p q : Pos) (es : List Expr) : (assignEach [.Name x p, .Tuple es 0 q] env).length = 2 ∧ (assignEach [.Name x p, .Tuple es 0 q] env).findIdx? (·.1) = none := by
  constructor
  · show (_ :: _ :: assignEach [] env).length = 2
    rw [List.length_cons, List.length_cons]
    rfl
  · show (_ :: _ :: assignEach [] env).findIdx? _ = _
    rw [List.findIdx?_cons]
    show (if false = true then _ else _) = _
    rw [if_neg (by decide), List.findIdx?_cons]
    show (if false = true then _ else _ : Option Nat).map _ = _
    rw [if_neg (by decide)]
    rfl
theorem asg_cons1 (env : Env) (x : Str) (p : Pos) (es : List Expr) : (assignEach (.Name x p :: es) env).map (·.2) = assign (.Name x p) env :: (assignEach es env).map (·.2) := by
  rw [assignEach, List.map_cons]
  intro t q z; cases z
theorem asg_cons2 (env : Env) (q : Pos) (ts es : List Expr) : (assignEach (.Tuple ts 0 q :: es) env).map (·.2) = assign (.Tuple ts 0 q) env :: (assignEach es env).map (·.2) := by
  rw [assignEach, List.map_cons]
  intro t q z; cases z
theorem pg_tr {X : Cx} (hN : X.N.Nodup) (hc : X.calm = true) (tg : Tr) (E : Em) (h : ∀ i ∈ tg.slots, X.N[i]? = some (nm X.N i) ∧ Loc X.env.scope (nm X.N i) ∧ (X.fn (nm X.N i) = true ∨ X.env.scope.names.lookup (nm X.N i) = some .local)) : PG X (emTr X.N tg E).1 (tTr X.K tg) := by
  cases tg with
  | v i =>
    obtain ⟨h1, h2, h3⟩ := h i (by simp [Tr.slots])
    exact pg_name hN h1 h2 h3
  | t is =>
    obtain ⟨a1, a2⟩ := asg_names X.N X.env is E.np
    exact pg_tup hc (pgs_names hN is E.np h) a1 a2
  | n i is =>
    obtain ⟨h1, h2, h3⟩ := h i (by simp [Tr.slots])
    obtain ⟨a1, a2⟩ := asg_names X.N X.env is E.np.np.np
    obtain ⟨b1, b2⟩ := asg_two X.env (nm X.N i) E.np.p E.np.np.p (emNames X.N is E.np.np.np).1
    have q := pgs_names hN is E.np.np.np fun j hj => h j (by show j ∈ i :: is; exact List.mem_cons_of_mem _ hj)
    have q2 := pg_tup (k := 0) (pos := E.np.np.p) hc q a1 a2
    have q3 := pgs_cons (pg_name (pos := E.np.p) hN h1 h2 h3) (pgs_cons q2 pgs_nil (asg_cons2 _ _ _ _)) (asg_cons1 _ _ _ _)
    have q4 := pg_tup (k := 0) (pos := E.p) hc q3 b1 b2
    exact q4

section
variable {pa : PA} {H0 G0 G H : Hp} {σ : L2.St} {s s1 : S} {v : V} {d : D}
def putsF (s : S) (l : List (Nat × D)) : S := l.foldl (fun s p => s.put p.1 (p.2, false)) s
theorem bind_names : ∀ (is : List Nat) {vs : List V} {ds : List D} {σ : L2.St} {s : S}, Sim pa H0 G0 G σ H s → is.length = ds.length → (is.all fun i => decide (i < s.sl.length)) = true → Rps pa G vs ds → ∀ {Q : L2.St → Hp → Prop},
    (∀ σ2, Sim pa H0 G0 G σ2 H (putsF s (is.zip ds)) → σ2.length = σ.length → (∀ j, j ∉ is → σ2[j]? = σ[j]? ∧ (putsF s (is.zip ds)).sl[j]? = s.sl[j]?) → (∀ j, j ∈ is → ∀ d, (putsF s (is.zip ds)).sl[j]? ≠ some (some (d, true))) → (putsF s (is.zip ds)).sl.length = s.sl.length → Q σ2 H) → gNames is vs σ H Q
  | [], [], [], σ, s, S0, _, _, _, Q, k => ⟨rfl, k σ S0 rfl (fun j _ => ⟨rfl, rfl⟩) (fun j h => by simp at h) rfl⟩
  | i :: is, v :: vs, d :: ds, σ, s, S0, l, hb, r, Q, k => by
    cases r with
    | cons r rs =>
      simp only [List.all_cons, Bool.and_eq_true, decide_eq_true_eq] at hb
      refine ⟨v, vs, rfl, ?_⟩
      have S1 := S0.put hb.1 r
      refine bind_names is S1 (by simpa using l) ?_ rs fun σ2 S2 l2 o2 n2 ln2 => ?_
      · rw [put_len]; exact hb.2
      · refine k σ2 S2 (by rw [l2, List.length_set]) (fun j hj => ?_) (fun j hj e => ?_) (ln2.trans (put_len ..))
        · have hj1 : i ≠ j := fun z => hj (by simp [z])
          have hj2 : j ∉ is := fun z => hj (List.mem_cons_of_mem _ z)
          obtain ⟨o3, o4⟩ := o2 j hj2
          exact ⟨by rw [o3, set_ne hj1], o4.trans (put_ne hj1)⟩
        · by_cases z : j ∈ is
          · exact n2 j z e
          · have e2 := (o2 j z).2
            have z2 : j = i := by
              rcases List.mem_cons.mp hj with q | q
              · exact q
              · exact absurd q z
            subst z2
            rw [put_at hb.1] at e2
            intro q
            have q2 : (putsF (s.put j (d, false)) (is.zip ds)).sl[j]? = some (some (e, true)) := q
            rw [e2] at q2; cases q2
  | [], _ :: _, [], _, _, _, _, _, r, _, _ => by cases r
  | [], _ :: _, _ :: _, _, _, _, l, _, _, _, _ => by simp at l
  | _ :: _, [], _, _, _, _, l, _, r, _, _ => by cases r; simp at l
  | [], [], _ :: _, _, _, _, l, _, _, _, _ => by simp at l
  | _ :: _, _ :: _, [], _, _, _, l, _, _, _, _ => by simp at l
/-- a pair whose second is a tuple is bound -/
theorem bind_two {i : Nat} {is : List Nat} {v w : V} {ds : List D} (S0 : Sim pa H0 G0 G σ H s) (hi : i < s.sl.length) (l : is.length = ds.length) (hb : (is.all fun i => decide (i < s.sl.length)) = true) (r : Rp pa G v d) (r2 : Rp pa G w (.tuple ds)) {K : PySem.W.Frag} {Q : L2.St → Hp → Prop}
    (k : ∀ σ2, Sim pa H0 G0 G σ2 H (putsF (s.put i (d, false)) (is.zip ds)) → σ2.length = σ.length → (∀ j, j ∉ i :: is → σ2[j]? = σ[j]? ∧ (putsF (s.put i (d, false)) (is.zip ds)).sl[j]? = s.sl[j]?) → (∀ j, j ∈ i :: is → ∀ d', (putsF (s.put i (d, false)) (is.zip ds)).sl[j]? ≠ some (some (d', true))) → (putsF (s.put i (d, false)) (is.zip ds)).sl.length = s.sl.length → Q σ2 H) :
    gCons (gName i) (gCons (gTup K is.length (gNames is)) gNil) [v, w] σ H Q := by
  cases r2 with
  | tup h rs =>
    rename_i a xs
    refine ⟨v, [_], rfl, ?_⟩
    have S1 := S0.put hi r
    refine ⟨_, [], rfl, a, xs, rfl, (h.up S1.sub).sq, by rw [rs.len, l], ?_⟩
    refine bind_names is S1 l (by rw [put_len]; exact hb) rs fun σ2 S2 l2 out inn ln => ⟨rfl, k σ2 S2 (by rw [l2, List.length_set]) (fun j hj => ?_) (fun j hj d' => ?_) (ln.trans (put_len ..))⟩
    · have hj1 : i ≠ j := fun z => hj (by simp [z])
      have hj2 : j ∉ is := fun z => hj (List.mem_cons_of_mem _ z)
      obtain ⟨o3, o4⟩ := out j hj2
      exact ⟨by rw [o3, set_ne hj1], o4.trans (put_ne hj1)⟩
    · by_cases z : j ∈ is
      · exact inn j z d'
      · rcases List.mem_cons.mp hj with rfl | hj
        · intro q
          rw [(out j z).2, put_at hi] at q
          cases q
        · exact absurd hj z
theorem pairT_some {d d1 : D} {ds : List D} (h : pairT d = some (d1, ds)) : d = .tuple [d1, .tuple ds] := by
  unfold pairT at h
  split at h
  · cases h; rfl
  · cases h
theorem rp_two {v : V} {d1 d2 : D} (r : Rp pa G v (.tuple [d1, d2])) : ∃ a v1 v2, v = .ref a ∧ TupAt G a [v1, v2] ∧ Rp pa G v1 d1 ∧ Rp pa G v2 d2 := by
  cases r with
  | tup h rs =>
    cases rs with
    | cons r1 rs =>
      cases rs with
      | cons r2 rs =>
        cases rs
        exact ⟨_, _, _, rfl, h, r1, r2⟩
/-- a value (kept) is bound -/
theorem bind_ok (K : PySem.W.Frag) {tg : Tr} (S0 : Sim pa H0 G0 G σ H s) (r : Rp pa G v d) (e : s.bindT tg d = some s1) {Q : L2.St → Hp → Prop}
    (k : ∀ σ2, Sim pa H0 G0 G σ2 H s1 → σ2.length = σ.length → (∀ j, j ∉ tg.slots → σ2[j]? = σ[j]? ∧ s1.sl[j]? = s.sl[j]?) → (∀ j, j ∈ tg.slots → ∀ d, s1.sl[j]? ≠ some (some (d, true))) → s1.sl.length = s.sl.length → Q σ2 H) : tTr K tg v σ H Q := by
  cases tg with
  | v i =>
    simp only [S.bindT] at e
    split at e
    · rename_i hi
      cases e
      refine k _ (S0.put hi r) (by rw [List.length_set]) (fun j hj => ?_) (fun j hj d' q => ?_) (put_len ..)
      · have : i ≠ j := fun z => hj (by simp [Tr.slots, z])
        exact ⟨set_ne this, put_ne this⟩
      · obtain rfl : j = i := by simpa [Tr.slots] using hj
        rw [put_at hi] at q; cases q
    · cases e
  | t is =>
    cases d with
    | tuple ds =>
      simp only [S.bindT] at e
      split at e
      · rename_i hi
        cases e
        obtain ⟨hl, hb⟩ := hi
        cases r with
        | tup h rs =>
          rename_i a xs
          exact ⟨a, xs, rfl, (h.up S0.sub).sq, by rw [rs.len, hl], bind_names is S0 hl hb rs k⟩
      · cases e
    | _ => simp only [S.bindT] at e; cases e
  | n i is =>
    simp only [S.bindT] at e
    obtain ⟨⟨d1, ds⟩, ep, e⟩ := Option.bind_eq_some_iff.mp e
    split at e
    · rename_i hi
      cases e
      obtain ⟨hi, hl, hb⟩ := hi
      rw [pairT_some ep] at r
      obtain ⟨a, v1, v2, rfl, h, r1, r2⟩ := rp_two r
      exact ⟨a, [v1, v2], rfl, (h.up S0.sub).sq, rfl, bind_two S0 hi hl hb r1 r2 k⟩
    · cases e
end
end Fs

set_option Elab.async false
set_option linter.all false
set_option maxRecDepth 100000
set_option maxHeartbeats 4000000
/-! FsZm: zip of a tuple and a list. An iterator is known by what one draw of it does (Draw); the pair iterator is shown
once for any two of them. -/
namespace Fs
open PySem PySem.Spec PyProof.Rows L2
open PySem.Sem (wp)
/-- one draw of the iterator at it over the object at l: B before it, C behind it; x what is drawn, none at its end -/
structure Draw (prog : Program) (w : World) (it l : Addr) (B C : Heap → Prop) (x : Option Value) : Prop where
  item : ∀ {A : Around} {E : Value → Shared → Prop} {s : Shared} {Q : Value → Shared → Prop} {v : Value}, x = some v → B s.heap →
    (∀ h', C h' → Heap.SameBut it s.heap h' → Q v { s with heap := h' }) → wpAny (model prog w) A (Builtin.SmallTypes.nextOf (.ref it)) Q E s
  stop : ∀ {A : Around} {E : Value → Shared → Prop} {s : Shared} {Q : Value → Shared → Prop}, A.handled = none → x = none → B s.heap →
    (∀ h' e, Heap.ExtBut it s.heap h' → (∃ o, h'.get? e = some o ∧ o.cls = .type "StopIteration") → E (.ref e) { s with heap := h' }) → wpAny (model prog w) A (Builtin.SmallTypes.nextOf (.ref it)) Q E s
  keepB : ∀ {h h' : Heap}, B h → (∀ o, h.get? it = some o → h'.get? it = some o) → (∀ o, h.get? l = some o → h'.get? l = some o) → B h'
  keepC : ∀ {h h' : Heap}, C h → (∀ o, h.get? it = some o → h'.get? it = some o) → C h'
theorem draw_tup {prog : Program} {w : World} {it l : Addr} {k : Nat} {xs : Array Value} : Draw prog w it l (fun h => h.IsTupleIter it l k ∧ h.IsTuple l xs) (fun h => h.IsTupleIter it l (k + 1)) xs[k]? where
  item := fun hx b h => RZ.nextOf_tuple_item b.1 b.2 hx h
  stop := fun hh hx b h => RZ.nextOf_tuple_end hh b.1 b.2 hx h
  keepB := fun b k1 k2 => ⟨b.1.at k1, b.2.at k2⟩
  keepC := fun c k1 => c.at k1
theorem draw_lst {prog : Program} {w : World} {it l : Addr} {k : Nat} {xs : Array Value} : Draw prog w it l (fun h => h.IsListIter it l k ∧ h.IsList l xs) (fun h => h.IsListIter it l (k + 1)) xs[k]? where
  item := fun hx b h => wpAny_nextOf_list_item b.1 b.2 hx h
  stop := fun hh hx b h => wpAny_nextOf_list_end hh b.1 b.2 hx h
  keepB := fun b k1 k2 => ⟨b.1.at k1, b.2.at k2⟩
  keepC := fun c k1 => c.at k1
section
variable {prog : Program} {w : World} {A : Around} {E : Value → Shared → Prop} {s : Shared} {z TI TO i1 i2 l1 l2 : Addr} {B1 C1 B2 C2 : Heap → Prop} {x y : Option Value} {a b : Value}
/-- what a step of the pair iterator leaves alone -/
abbrev Spares (z TO i1 i2 : Addr) (h h' : Heap) : Prop := ∀ c o, c ≠ z → c ≠ TO → c ≠ i1 → c ≠ i2 → h.get? c = some o → h'.get? c = some o
/-- the step up to the first draw -/
theorem zip_begin {Q : Fin → Shared → Prop} (D : ZipApart z TI TO i1 i2 l1 l2) (d1 : Draw prog w i1 l1 B1 C1 x) (d2 : Draw prog w i2 l2 B2 C2 y) (hh : x = none ∨ y = none → A.handled = none)
    (hz : IsZip s.heap z TI TO .none) (hTI : IsPair s.heap TI (.ref i1) (.ref i2)) (hTO : IsPair s.heap TO a b) (b1 : B1 s.heap) (b2 : B2 s.heap)
    (hq : ∀ u v, x = some u → y = some v → ∀ h', IsZip h' z TI TO (rawInt s.heap.objs.size) → IsPair h' TO u v → C1 h' → C2 h' → IsPair h' s.heap.objs.size u v → h'.objs.size = s.heap.objs.size + 1 → Spares z TO i1 i2 s.heap h' →
      Q (.done (.ret (.ref s.heap.objs.size))) { s with heap := h' })
    (hE : x = none ∨ y = none → ∀ h' e, Spares z TO i1 i2 s.heap h' → (∃ o, h'.get? e = some o ∧ o.cls = .type "StopIteration") → E (.ref e) { s with heap := h' }) :
    wpAny (model prog w) A (Builtin.«zip.__next__» ⟨[.ref z], []⟩) Q E s := by
  show wpAny _ _ (field (.ref z) 2 >>= _) _ _ _
  refine wpAny_bind (wpAny_field hz rfl (x := .bool false) rfl ?_)
  show wpAny _ _ (field (.ref z) 3 >>= _) _ _ _
  refine wpAny_bind (wpAny_field hz rfl (x := .ref TI) rfl ?_)
  refine wpAny_bind (wpAny_seqItems hTI rfl ?_)
  show wpAny _ _ (Builtin.SmallTypes.ownedTupleIsFree (.ref z) >>= _) _ _ _
  refine wpAny_bind ?_
  unfold Builtin.SmallTypes.ownedTupleIsFree
  refine wpAny_bind (wpAny_field hz rfl (x := .none) rfl (wpAny_pure ?_))
  simp only [if_true]
  refine wpAny_bind (wpAny_rule ?_)
  refine wpAny_bind (wpAny_field hz rfl (x := .ref TO) rfl ?_)
  refine wpAny_bind (wpAny_setField_rec hz (by simp) fun g1 zg1 sg1 => ?_)
  replace zg1 : IsZip g1 z TI TO .ellipsis := zg1
  have k1 : ∀ c o, c ≠ z → s.heap.get? c = some o → g1.get? c = some o := fun c o e => sg1.extBut _ _ e
  refine wpAny_bind ?_
  simp only [List.zipIdx_cons, List.zipIdx_nil, List.forIn_cons, List.forIn_nil]
  refine wpAny_bind (wpAny_bind (wpAny_onRaise ?_))
  show wpAny _ _ (Builtin.SmallTypes.nextOf (.ref i1) >>= _) _ _ _
  have c1 : B1 g1 := d1.keepB b1 (fun o => k1 _ o D.i1z) (fun o => k1 _ o D.l1z)
  cases ex : x with
  | none =>
    refine wpAny_bind (d1.stop (hh (.inl ex)) ex c1 fun g2 e xg2 he => ?_)
    obtain ⟨oe, hoe, hce⟩ := he
    have zg2 : IsZip g2 z TI TO .ellipsis := xg2 _ _ D.i1z.symm zg1
    have hez : e ≠ z := fun q => by subst q; rw [zg2] at hoe; cases hoe; simp at hce
    exact wpAny_setField_rec zg2 (by simp) fun g3 _ sg3 => hE (.inl ex) g3 e (fun c o n1 _ n3 _ q => sg3.extBut _ _ n1 (xg2 _ _ n3 (k1 c o n1 q))) ⟨oe, sg3.extBut _ _ hez hoe, hce⟩
  | some u =>
    refine wpAny_bind (d1.item ex c1 fun g2 e2 sg2 => wpAny_pure ?_)
    have k2 : ∀ c o, c ≠ i1 → g1.get? c = some o → g2.get? c = some o := fun c o e => sg2.extBut _ _ e
    have t2 : IsPair g2 TO a b := k2 _ _ D.TOi1 (k1 _ _ D.TOz hTO)
    refine wpAny_bind (wpAny_seqItems t2 rfl ?_)
    refine wpAny_bind (wpAny_updateSeq_pair t2 fun g3 t3 sg3 => ?_)
    replace t3 : IsPair g3 TO u b := t3
    have k3 : ∀ c o, c ≠ TO → g2.get? c = some o → g3.get? c = some o := fun c o e => sg3.extBut _ _ e
    refine wpAny_bind (wpAny_letGo (wpAny_pure ?_))
    refine wpAny_bind (wpAny_bind (wpAny_onRaise ?_))
    show wpAny _ _ (Builtin.SmallTypes.nextOf (.ref i2) >>= _) _ _ _
    have c2 : B2 g3 := d2.keepB b2 (fun o q => k3 _ o D.TOi2.symm (k2 _ o D.i12.symm (k1 _ o D.i2z q))) (fun o q => k3 _ o D.l2TO (k2 _ o D.l2i1 (k1 _ o D.l2z q)))
    have z3 : IsZip g3 z TI TO .ellipsis := k3 _ _ D.TOz.symm (k2 _ _ D.i1z.symm zg1)
    cases ey : y with
    | none =>
      refine wpAny_bind (d2.stop (hh (.inr ey)) ey c2 fun g4 e xg4 he => ?_)
      obtain ⟨oe, hoe, hce⟩ := he
      have zg4 : IsZip g4 z TI TO .ellipsis := xg4 _ _ D.i2z.symm z3
      have hez : e ≠ z := fun q => by subst q; rw [zg4] at hoe; cases hoe; simp at hce
      exact wpAny_setField_rec zg4 (by simp) fun g5 _ sg5 => hE (.inr ey) g5 e (fun c o n1 n2 n3 n4 q => sg5.extBut _ _ n1 (xg4 _ _ n4 (k3 c o n2 (k2 c o n3 (k1 c o n1 q))))) ⟨oe, sg5.extBut _ _ hez hoe, hce⟩
    | some v =>
      refine wpAny_bind (d2.item ey c2 fun g4 e4 sg4 => wpAny_pure ?_)
      have k4 : ∀ c o, c ≠ i2 → g3.get? c = some o → g4.get? c = some o := fun c o e => sg4.extBut _ _ e
      have t4 : IsPair g4 TO u b := k4 _ _ D.TOi2 t3
      refine wpAny_bind (wpAny_seqItems t4 rfl ?_)
      refine wpAny_bind (wpAny_updateSeq_pair t4 fun g5 t5 sg5 => ?_)
      replace t5 : IsPair g5 TO u v := t5
      have k5 : ∀ c o, c ≠ TO → g4.get? c = some o → g5.get? c = some o := fun c o e => sg5.extBut _ _ e
      refine wpAny_bind (wpAny_letGo (wpAny_pure (wpAny_pure ?_)))
      refine wpAny_bind (wpAny_seqItems t5 rfl ?_)
      refine wpAny_bind (wpAny_newTuple ?_)
      have n5 : g5.objs.size = s.heap.objs.size := by rw [sg5.1, sg4.1, sg3.1, sg2.1, sg1.1]
      have z5 : IsZip g5 z TI TO .ellipsis := k5 _ _ D.TOz.symm (k4 _ _ D.i2z.symm z3)
      have f1 : C1 g5 := d1.keepC e2 fun o q => k5 _ o D.TOi1.symm (k4 _ o D.i12 (k3 _ o D.TOi1.symm q))
      have f2 : C2 g5 := d2.keepC e4 fun o q => k5 _ o D.TOi2.symm q
      have zlt : z < g5.objs.size := Heap.lt_size z5
      show wpAny _ _ (Builtin.SmallTypes.ownedTupleHandOut (.ref z) (.ref g5.objs.size) >>= _) _ _ _
      refine wpAny_bind ?_
      unfold Builtin.SmallTypes.ownedTupleHandOut
      have z6 : IsZip (g5.push { cls := .type "tuple", data := .seq #[u, v] }) z TI TO .ellipsis := Heap.get?_push_of_some _ z5
      refine wpAny_bind (wpAny_setField_rec z6 (by simp) fun g7 z7 sg7 => ?_)
      replace z7 : IsZip g7 z TI TO (rawInt g5.objs.size) := z7
      refine wpAny_setField_rec z7 (by simp) fun g8 z8 sg8 => ?_
      replace z8 : IsZip g8 z TI TO (rawInt g5.objs.size) := z8
      have k8 : ∀ c o, c ≠ z → g5.get? c = some o → g8.get? c = some o := fun c o n1 q => sg8.extBut _ _ n1 (sg7.extBut _ _ n1 (Heap.get?_push_of_some _ q))
      have p8 : IsPair g8 g5.objs.size u v := sg8.extBut _ _ (Nat.ne_of_gt zlt) (sg7.extBut _ _ (Nat.ne_of_gt zlt) (Heap.get?_push_size _ rfl))
      have n8 : g8.objs.size = g5.objs.size + 1 := by rw [sg8.1, sg7.1, Heap.size_push]
      rw [n5] at z8 p8 n8
      refine wpAny_pure ?_
      show Q (.done (.ret (.ref g5.objs.size))) _
      rw [n5]
      exact hq u v ex ey g8 z8 (k8 _ _ D.TOz t5) (d1.keepC f1 fun o => k8 _ o D.i1z) (d2.keepC f2 fun o => k8 _ o D.i2z) p8 n8 fun c o m1 m2 m3 m4 q => k8 c o m1 (k5 c o m2 (k4 c o m4 (k3 c o m2 (k2 c o m3 (k1 c o m1 q)))))
theorem next_zipG {Q : Option Value → Shared → Prop} (D : ZipApart z TI TO i1 i2 l1 l2) (d1 : Draw prog w i1 l1 B1 C1 x) (d2 : Draw prog w i2 l2 B2 C2 y) (hh : x = none ∨ y = none → A.handled = none)
    (hz : IsZip s.heap z TI TO .none) (hTI : IsPair s.heap TI (.ref i1) (.ref i2)) (hTO : IsPair s.heap TO a b) (b1 : B1 s.heap) (b2 : B2 s.heap)
    (hq : ∀ u v, x = some u → y = some v → ∀ h', IsZip h' z TI TO (rawInt s.heap.objs.size) → IsPair h' TO u v → C1 h' → C2 h' → IsPair h' s.heap.objs.size u v → h'.objs.size = s.heap.objs.size + 1 → Spares z TO i1 i2 s.heap h' →
      Q (some (.ref s.heap.objs.size)) { s with heap := h' })
    (hE : x = none ∨ y = none → ∀ h', Spares z TO i1 i2 s.heap h' → Q none { s with heap := h' }) : wpAny (model prog w) A (pyNext (.ref z)) Q E s := by
  have hT : s.TypeIs (.ref z) "zip" := ⟨_, hz, rfl⟩
  unfold pyNext
  refine wpAny_bind (wpAny_attempt (wpAny_callSpecial?_slot (name := Str.ofString "__next__") hT F.slot_zip_next
    (wpAny_call_entry F.slot_zip_next hT F.entry_zip_next (zip_begin D d1 d2 hh hz hTI hTO b1 b2 (fun u v eu ev h' q1 q2 q3 q4 q5 q6 q7 => ⟨_, rfl, wpAny_pure (hq u v eu ev h' q1 q2 q3 q4 q5 q6 q7)⟩) fun hn h' e hk he => ?_) (F.args_zip_next_1 _))))
  obtain ⟨o, ho, hc⟩ := he
  exact wpAny_bind (wpAny_isInstance (T := "StopIteration") (b := true) ⟨o, ho, hc⟩ isSubtype_stop (wpAny_pure (hE hn _ hk)))
end
/-- the tuple at a and the list at b as they stand at each turn, the items in new pairs -/
def ItzM (K : PySem.W.Frag) (a b : Addr) : It :=
  ⟨fun i H => ∃ (xs ys : List V) (x y : V), SqT K H a xs ∧ SqL K H b ys ∧ xs[i]? = some x ∧ ys[i]? = some y,
    fun i H v H' => ∃ T x y, v = .ref T ∧ H T = none ∧ H' = upd H T (.tup [x, y]) ∧ (∀ xs, SqT K H a xs → xs[i]? = some x) ∧ ∀ ys, SqL K H b ys → ys[i]? = some y,
    fun i H => ∃ xs ys : List V, SqT K H a xs ∧ SqL K H b ys ∧ (xs.length ≤ i ∨ ys.length ≤ i)⟩
theorem five {c z TI TO i1 i2 : Addr} (h : c ∈ [z, TI, TO, i1, i2]) : c = z ∨ c = TI ∨ c = TO ∨ c = i1 ∨ c = i2 := by simpa using h
theorem turn_zipM {P : Program} {w : World} {K : PySem.W.Frag} {elts : List Expr} {kk : Nat} {tpos : Pos} {a b z TI TO i1 i2 : Addr} (D : ZipApart z TI TO i1 i2 a b) :
    Turn P w K (.Tuple elts kk tpos) (ItzM K a b) [z, TI, TO, i1, i2] z (fun i h => IsZip h z TI TO .none ∧ IsPair h TI (.ref i1) (.ref i2) ∧ (∃ x y, IsPair h TO x y) ∧ h.IsTupleIter i1 a i ∧ h.IsListIter i2 b i) where
  mem := by simp
  obj := fun i h st c hc => by
    obtain ⟨hz, hTI, ⟨x, y, hTO⟩, ⟨o1, e1, _, d1⟩, ⟨o2, e2, _, d2⟩⟩ := st
    rcases five hc with rfl | rfl | rfl | rfl | rfl
    · exact ⟨_, hz, fun v q => nomatch q⟩
    · exact ⟨_, hTI, fun v q => nomatch q⟩
    · exact ⟨_, hTO, fun v q => nomatch q⟩
    · exact ⟨o1, e1, fun v q => by rw [d1] at q; cases q⟩
    · exact ⟨o2, e2, fun v q => by rw [d2] at q; cases q⟩
  keep := fun i h h' st k => by
    obtain ⟨hz, hTI, ⟨x, y, hTO⟩, h1, h2⟩ := st
    exact ⟨k z (by simp) _ hz, k TI (by simp) _ hTI, ⟨x, y, k TO (by simp) _ hTO⟩, h1.at fun o q => k i1 (by simp) o q, h2.at fun o q => k i2 (by simp) o q⟩
  item := by
    intro X hP hw hK hc i pins s σ H E I hf st hg
    subst hP hw hK
    obtain ⟨hz, hTI, ⟨x0, y0, hTO⟩, h1, h2⟩ := st
    obtain ⟨xs, ys, x, y, hqx, hqy, hx, hy⟩ := hg
    obtain ⟨its, rv, p, _⟩ := I.tuple hqx
    obtain ⟨its2, rv2, p2, _⟩ := I.list hqy
    obtain ⟨u, hu, ru⟩ := rv.get hx
    obtain ⟨u2, hu2, ru2⟩ := rv2.get hy
    have hzl : z < s.heap.objs.size := Heap.lt_size hz
    have e1 : its.toArray[i]? = some u := by simpa using hu
    have e2 : its2.toArray[i]? = some u2 := by simpa using hu2
    refine next_zipG D (draw_tup (k := i) (xs := its.toArray)) (draw_lst (k := i) (xs := its2.toArray)) (fun q => by rcases q with q | q <;> simp_all) hz hTI hTO ⟨h1, p⟩ ⟨h2, p2.isList⟩ (fun v1 v2 q1 q2 h' z' TO' h1' h2' hT hsz hk => ?_) (fun q => by rcases q with q | q <;> simp_all)
    cases e1.symm.trans q1
    cases e2.symm.trans q2
    refine ⟨_, rfl, wpAny_letOwnedTupleGo_zip (s := { s with heap := h' }) z' fun h'' z'' sb => ?_⟩
    have up : ∀ c o, c ≠ z → h'.get? c = some o → h''.get? c = some o := fun c o n q => (sb.2 c n).trans q
    have hT2 : h''.get? s.heap.objs.size = some { cls := .type "tuple", data := .seq #[u, u2] } := up _ _ (Nat.ne_of_gt hzl) hT
    have new : ObjOk X.prog X.w (upd H s.heap.objs.size (.tup [x, y])) h'' s.heap.objs.size (.tup [x, y]) :=
      ⟨by show 2 ≤ sizeLine; decide, [u, u2], .cons ru (.cons ru2 .nil), ⟨_, hT2, rfl, _, rfl⟩⟩
    have I1 : Inv X pins σ (upd H s.heap.objs.size (.tup [x, y])) { s with heap := h'' } :=
      I.turnedNew (t' := s.toks) (ch := [z, TI, TO, i1, i2]) (fun c o hb q => up c o (fun q' => hb (by simp [q'])) (hk c o (fun q' => hb (by simp [q'])) (fun q' => hb (by simp [q'])) (fun q' => hb (by simp [q'])) (fun q' => hb (by simp [q'])) q)) hf (Nat.le_refl _) new
    refine ⟨.ref s.heap.objs.size, _, I1, rfl, ⟨_, x, y, rfl, I.hok.fresh (Nat.le_refl _), rfl, fun l hl => by rw [I.tuple_inj hl hqx]; exact hx, fun l hl => by rw [I.list_inj hl hqy]; exact hy⟩, ⟨z'', ?_, ⟨u, u2, ?_⟩, ?_, ?_⟩, fun c hcm => ?_⟩
    · exact up _ _ D.TIz (hk _ _ D.TIz D.TITO D.TIi1 D.TIi2 hTI)
    · exact up _ _ D.TOz TO'
    · exact h1'.at fun o q => up _ o D.i1z q
    · exact h2'.at fun o q => up _ o D.i2z q
    · have hlt : c < s.heap.objs.size := by
        rcases five hcm with rfl | rfl | rfl | rfl | rfl
        · exact hzl
        · exact Heap.lt_size hTI
        · exact Heap.lt_size hTO
        · obtain ⟨_, e1, _⟩ := h1; exact Heap.lt_size e1
        · obtain ⟨_, e2, _⟩ := h2; exact Heap.lt_size e2
      rw [upd_ne (Nat.ne_of_lt hlt)]
      exact (hf c hcm).1
  done := by
    intro X hP hw hK hc i pins s σ H E I hf st hg
    subst hP hw hK
    obtain ⟨hz, hTI, ⟨x0, y0, hTO⟩, h1, h2⟩ := st
    obtain ⟨xs, ys, hqx, hqy, hend⟩ := hg
    obtain ⟨its, rv, p, _⟩ := I.tuple hqx
    obtain ⟨its2, rv2, p2, _⟩ := I.list hqy
    have l1 := rv.length
    have l2 := rv2.length
    have he : its.toArray[i]? = none ∨ its2.toArray[i]? = none := by
      rcases hend with q | q
      · exact .inl (by simp; omega)
      · exact .inr (by simp; omega)
    refine next_zipG D (draw_tup (k := i) (xs := its.toArray)) (draw_lst (k := i) (xs := its2.toArray)) (fun _ => I.ok.hd hc) hz hTI hTO ⟨h1, p⟩ ⟨h2, p2.isList⟩ (fun v1 v2 q1 q2 h' _ _ _ _ _ _ _ => ?_) fun _ h' hk => ⟨rfl, I.turnedL (t' := s.toks) (ch := [z, TI, TO, i1, i2]) (fun c o hb q =>
      hk c o (fun q' => hb (by simp [q'])) (fun q' => hb (by simp [q'])) (fun q' => hb (by simp [q'])) (fun q' => hb (by simp [q'])) q) hf⟩
    rcases he with q | q
    · rw [q] at q1; cases q1
    · rw [q] at q2; cases q2
  self := fun A i s Q E st h => wpAny_pyIter_zip st.1 h
section
variable {l1 l2 : Addr} {xs ys : Array Value} {h : Heap}
abbrev mz1 (h : Heap) (l1 : Addr) : Heap := h.push { cls := .type "tuple_iterator", data := .fields #[.ref l1, .int 0 0] }
abbrev mz2 (h : Heap) (l1 l2 : Addr) : Heap := (mz1 h l1).push { cls := .type "list_iterator", data := .fields #[.ref l2, .int 0 0] }
abbrev mz3 (h : Heap) (l1 l2 : Addr) : Heap := (mz2 h l1 l2).push { cls := .type "tuple", data := .seq #[.ref h.objs.size, .ref (mz1 h l1).objs.size] }
abbrev mz4 (h : Heap) (l1 l2 : Addr) : Heap := (mz3 h l1 l2).push { cls := .type "tuple", data := .seq #[.none, .none] }
abbrev mz5 (h : Heap) (l1 l2 : Addr) : Heap := (mz4 h l1 l2).push { cls := .type "zip", data := .fields #[.none, .bool false, .bool false, .ref (mz2 h l1 l2).objs.size, .ref (mz3 h l1 l2).objs.size] }
theorem meets_zipM (l1 l2 : Addr) (xs ys : Array Value) :
    Meets (Builtin.«zip.__new__» ⟨[.type "zip", .ref l1, .ref l2], []⟩) (fun _ R s => s.heap.IsTuple l1 xs ∧ s.heap.IsList l2 ys ∧
      R (.ok (.ret (.ref (mz4 s.heap l1 l2).objs.size))) { s with heap := mz5 s.heap l1 l2 }) :=
  .of_wp fun prog w A R s h => by
    obtain ⟨hp, g, d, tk, os⟩ := s; obtain ⟨hl1, hl2, h⟩ := h
    have hsub := sub_zip
    have hL1 : Heap.IsTuple (Shared.heap ⟨hp, g, d, tk, os⟩) l1 xs := hl1
    have hL2 : Heap.IsList (Shared.heap ⟨hp.push { cls := .type "tuple_iterator", data := .fields #[.ref l1, .int 0 0] }, g, d, tk, os⟩) l2 ys := Heap.IsList.push hl2 _
    wp_walk using wpAny_pyIter_tuple hL1, wpAny_pyIter_list hL2
    exact ⟨_, rfl, h⟩
theorem call_zipM {prog : Program} {w : World} {A : Around} {E : Value → Shared → Prop} {s : Shared} {Q : Value → Shared → Prop} (hl1 : s.heap.IsTuple l1 xs) (hl2 : s.heap.IsList l2 ys)
    (hq : ∀ h', IsZip h' (s.heap.objs.size + 4) (s.heap.objs.size + 2) (s.heap.objs.size + 3) .none → IsPair h' (s.heap.objs.size + 2) (.ref s.heap.objs.size) (.ref (s.heap.objs.size + 1)) →
      IsPair h' (s.heap.objs.size + 3) .none .none → h'.IsTupleIter s.heap.objs.size l1 0 → h'.IsListIter (s.heap.objs.size + 1) l2 0 →
      (∀ c o, s.heap.get? c = some o → h'.get? c = some o) → Q (.ref (s.heap.objs.size + 4)) { s with heap := h' }) :
    wpAny (model prog w) A (call (.type "zip") [.ref l1, .ref l2]) Q E s := by
  refine callType_new F.called_zip (by decide) (F.typeCall_zip_2 _ _) (F.newCall_zip_2 _ _) (fun obj => F.args_object_init_3 obj _ _) F.entry_zip_new (meets_zipM l1 l2 xs ys) ⟨hl1, hl2, ?_⟩
  have n1 : (mz1 s.heap l1).objs.size = s.heap.objs.size + 1 := Heap.size_push ..
  have n2 : (mz2 s.heap l1 l2).objs.size = s.heap.objs.size + 2 := by rw [Heap.size_push, n1]
  have n3 : (mz3 s.heap l1 l2).objs.size = s.heap.objs.size + 3 := by rw [Heap.size_push, n2]
  have n4 : (mz4 s.heap l1 l2).objs.size = s.heap.objs.size + 4 := by rw [Heap.size_push, n3]
  have up : ∀ {g : Heap} {c : Addr} {o o' : Obj}, g.get? c = some o → (g.push o').get? c = some o := fun q => Heap.get?_push_of_some _ q
  have q5 : (mz5 s.heap l1 l2).get? (mz4 s.heap l1 l2).objs.size = some _ := Heap.get?_push_size _ rfl
  have q4 : (mz5 s.heap l1 l2).get? (mz3 s.heap l1 l2).objs.size = some _ := up (Heap.get?_push_size _ rfl)
  have q3 : (mz5 s.heap l1 l2).get? (mz2 s.heap l1 l2).objs.size = some _ := up (up (Heap.get?_push_size _ rfl))
  have q2 : (mz5 s.heap l1 l2).get? (mz1 s.heap l1).objs.size = some _ := up (up (up (Heap.get?_push_size _ rfl)))
  have q1 : (mz5 s.heap l1 l2).get? s.heap.objs.size = some _ := up (up (up (up (Heap.get?_push_size _ rfl))))
  show _ ∧ _
  rw [n2, n3, n4] at q5
  rw [n1, n2] at q3
  rw [n3] at q4
  rw [n1] at q2
  rw [n4]
  exact ⟨⟨_, q5, rfl⟩, hq _ q5 q3 q4 ⟨_, q1, rfl, rfl⟩ ⟨_, q2, rfl, rfl⟩ fun c o q => up (up (up (up (up q))))⟩
end
theorem walk_zipM {K : PySem.W.Frag} {a b : Addr} {xs ys : List V} {n : Nat} (hn : n = min xs.length ys.length) : Walk (ItzM K a b) n (fun H => SqT K H a xs ∧ SqL K H b ys) (YPair (fun i => xs[i]?) (fun i => ys[i]?)) := by
  subst hn
  refine ⟨fun i _ hi q => ?_, fun _ q => ⟨xs, ys, q.1, q.2, by omega⟩, fun i H v H' _ q y => ?_⟩
  · have h1 : i < xs.length := by omega
    have h2 : i < ys.length := by omega
    exact ⟨xs, ys, xs[i], ys[i], q.1, q.2, by simp [h1], by simp [h2]⟩
  · obtain ⟨T, x, z, h1, h2, h3, h4, h5⟩ := y
    exact ⟨T, x, z, h1, h2, h3, h4 xs q.1, h5 ys q.2⟩
end Fs

set_option Elab.async false
set_option linter.all false
set_option maxRecDepth 100000
set_option maxHeartbeats 4000000
namespace Fs
open PySem PySem.Spec PyProof.Rows L2
open PySem.Sem (wp)
/-- the list at a and the tuple at b as they stand at each turn, the items in new pairs -/
def ItzN (K : PySem.W.Frag) (a b : Addr) : It :=
  ⟨fun i H => ∃ (xs ys : List V) (x y : V), SqL K H a xs ∧ SqT K H b ys ∧ xs[i]? = some x ∧ ys[i]? = some y,
    fun i H v H' => ∃ T x y, v = .ref T ∧ H T = none ∧ H' = upd H T (.tup [x, y]) ∧ (∀ xs, SqL K H a xs → xs[i]? = some x) ∧ ∀ ys, SqT K H b ys → ys[i]? = some y,
    fun i H => ∃ xs ys : List V, SqL K H a xs ∧ SqT K H b ys ∧ (xs.length ≤ i ∨ ys.length ≤ i)⟩
theorem turn_zipN {P : Program} {w : World} {K : PySem.W.Frag} {elts : List Expr} {kk : Nat} {tpos : Pos} {a b z TI TO i1 i2 : Addr} (D : ZipApart z TI TO i1 i2 a b) :
    Turn P w K (.Tuple elts kk tpos) (ItzN K a b) [z, TI, TO, i1, i2] z (fun i h => IsZip h z TI TO .none ∧ IsPair h TI (.ref i1) (.ref i2) ∧ (∃ x y, IsPair h TO x y) ∧ h.IsListIter i1 a i ∧ h.IsTupleIter i2 b i) where
  mem := by simp
  obj := fun i h st c hc => by
    obtain ⟨hz, hTI, ⟨x, y, hTO⟩, ⟨o1, e1, _, d1⟩, ⟨o2, e2, _, d2⟩⟩ := st
    rcases five hc with rfl | rfl | rfl | rfl | rfl
    · exact ⟨_, hz, fun v q => nomatch q⟩
    · exact ⟨_, hTI, fun v q => nomatch q⟩
    · exact ⟨_, hTO, fun v q => nomatch q⟩
    · exact ⟨o1, e1, fun v q => by rw [d1] at q; cases q⟩
    · exact ⟨o2, e2, fun v q => by rw [d2] at q; cases q⟩
  keep := fun i h h' st k => by
    obtain ⟨hz, hTI, ⟨x, y, hTO⟩, h1, h2⟩ := st
    exact ⟨k z (by simp) _ hz, k TI (by simp) _ hTI, ⟨x, y, k TO (by simp) _ hTO⟩, h1.at fun o q => k i1 (by simp) o q, h2.at fun o q => k i2 (by simp) o q⟩
  item := by
    intro X hP hw hK hc i pins s σ H E I hf st hg
    subst hP hw hK
    obtain ⟨hz, hTI, ⟨x0, y0, hTO⟩, h1, h2⟩ := st
    obtain ⟨xs, ys, x, y, hqx, hqy, hx, hy⟩ := hg
    obtain ⟨its, rv, p, _⟩ := I.list hqx
    obtain ⟨its2, rv2, p2, _⟩ := I.tuple hqy
    obtain ⟨u, hu, ru⟩ := rv.get hx
    obtain ⟨u2, hu2, ru2⟩ := rv2.get hy
    have hzl : z < s.heap.objs.size := Heap.lt_size hz
    have e1 : its.toArray[i]? = some u := by simpa using hu
    have e2 : its2.toArray[i]? = some u2 := by simpa using hu2
    refine next_zipG D (draw_lst (k := i) (xs := its.toArray)) (draw_tup (k := i) (xs := its2.toArray)) (fun q => by rcases q with q | q <;> simp_all) hz hTI hTO ⟨h1, p.isList⟩ ⟨h2, p2⟩ (fun v1 v2 q1 q2 h' z' TO' h1' h2' hT hsz hk => ?_) (fun q => by rcases q with q | q <;> simp_all)
    cases e1.symm.trans q1
    cases e2.symm.trans q2
    refine ⟨_, rfl, wpAny_letOwnedTupleGo_zip (s := { s with heap := h' }) z' fun h'' z'' sb => ?_⟩
    have up : ∀ c o, c ≠ z → h'.get? c = some o → h''.get? c = some o := fun c o n q => (sb.2 c n).trans q
    have hT2 : h''.get? s.heap.objs.size = some { cls := .type "tuple", data := .seq #[u, u2] } := up _ _ (Nat.ne_of_gt hzl) hT
    have new : ObjOk X.prog X.w (upd H s.heap.objs.size (.tup [x, y])) h'' s.heap.objs.size (.tup [x, y]) :=
      ⟨by show 2 ≤ sizeLine; decide, [u, u2], .cons ru (.cons ru2 .nil), ⟨_, hT2, rfl, _, rfl⟩⟩
    have I1 : Inv X pins σ (upd H s.heap.objs.size (.tup [x, y])) { s with heap := h'' } :=
      I.turnedNew (t' := s.toks) (ch := [z, TI, TO, i1, i2]) (fun c o hb q => up c o (fun q' => hb (by simp [q'])) (hk c o (fun q' => hb (by simp [q'])) (fun q' => hb (by simp [q'])) (fun q' => hb (by simp [q'])) (fun q' => hb (by simp [q'])) q)) hf (Nat.le_refl _) new
    refine ⟨.ref s.heap.objs.size, _, I1, rfl, ⟨_, x, y, rfl, I.hok.fresh (Nat.le_refl _), rfl, fun l hl => by rw [I.list_inj hl hqx]; exact hx, fun l hl => by rw [I.tuple_inj hl hqy]; exact hy⟩, ⟨z'', ?_, ⟨u, u2, ?_⟩, ?_, ?_⟩, fun c hcm => ?_⟩
    · exact up _ _ D.TIz (hk _ _ D.TIz D.TITO D.TIi1 D.TIi2 hTI)
    · exact up _ _ D.TOz TO'
    · exact h1'.at fun o q => up _ o D.i1z q
    · exact h2'.at fun o q => up _ o D.i2z q
    · have hlt : c < s.heap.objs.size := by
        rcases five hcm with rfl | rfl | rfl | rfl | rfl
        · exact hzl
        · exact Heap.lt_size hTI
        · exact Heap.lt_size hTO
        · obtain ⟨_, e1, _⟩ := h1; exact Heap.lt_size e1
        · obtain ⟨_, e2, _⟩ := h2; exact Heap.lt_size e2
      rw [upd_ne (Nat.ne_of_lt hlt)]
      exact (hf c hcm).1
  done := by
    intro X hP hw hK hc i pins s σ H E I hf st hg
    subst hP hw hK
    obtain ⟨hz, hTI, ⟨x0, y0, hTO⟩, h1, h2⟩ := st
    obtain ⟨xs, ys, hqx, hqy, hend⟩ := hg
    obtain ⟨its, rv, p, _⟩ := I.list hqx
    obtain ⟨its2, rv2, p2, _⟩ := I.tuple hqy
    have l1 := rv.length
    have l2 := rv2.length
    have he : its.toArray[i]? = none ∨ its2.toArray[i]? = none := by
      rcases hend with q | q
      · exact .inl (by simp; omega)
      · exact .inr (by simp; omega)
    refine next_zipG D (draw_lst (k := i) (xs := its.toArray)) (draw_tup (k := i) (xs := its2.toArray)) (fun _ => I.ok.hd hc) hz hTI hTO ⟨h1, p.isList⟩ ⟨h2, p2⟩ (fun v1 v2 q1 q2 h' _ _ _ _ _ _ _ => ?_) fun _ h' hk => ⟨rfl, I.turnedL (t' := s.toks) (ch := [z, TI, TO, i1, i2]) (fun c o hb q =>
      hk c o (fun q' => hb (by simp [q'])) (fun q' => hb (by simp [q'])) (fun q' => hb (by simp [q'])) (fun q' => hb (by simp [q'])) q) hf⟩
    rcases he with q | q
    · rw [q] at q1; cases q1
    · rw [q] at q2; cases q2
  self := fun A i s Q E st h => wpAny_pyIter_zip st.1 h
section
variable {l1 l2 : Addr} {xs ys : Array Value} {h : Heap}
abbrev nz1 (h : Heap) (l1 : Addr) : Heap := h.push { cls := .type "list_iterator", data := .fields #[.ref l1, .int 0 0] }
abbrev nz2 (h : Heap) (l1 l2 : Addr) : Heap := (nz1 h l1).push { cls := .type "tuple_iterator", data := .fields #[.ref l2, .int 0 0] }
abbrev nz3 (h : Heap) (l1 l2 : Addr) : Heap := (nz2 h l1 l2).push { cls := .type "tuple", data := .seq #[.ref h.objs.size, .ref (nz1 h l1).objs.size] }
abbrev nz4 (h : Heap) (l1 l2 : Addr) : Heap := (nz3 h l1 l2).push { cls := .type "tuple", data := .seq #[.none, .none] }
abbrev nz5 (h : Heap) (l1 l2 : Addr) : Heap := (nz4 h l1 l2).push { cls := .type "zip", data := .fields #[.none, .bool false, .bool false, .ref (nz2 h l1 l2).objs.size, .ref (nz3 h l1 l2).objs.size] }
theorem meets_zipN (l1 l2 : Addr) (xs ys : Array Value) :
    Meets (Builtin.«zip.__new__» ⟨[.type "zip", .ref l1, .ref l2], []⟩) (fun _ R s => s.heap.IsList l1 xs ∧ s.heap.IsTuple l2 ys ∧
      R (.ok (.ret (.ref (nz4 s.heap l1 l2).objs.size))) { s with heap := nz5 s.heap l1 l2 }) :=
  .of_wp fun prog w A R s h => by
    obtain ⟨hp, g, d, tk, os⟩ := s; obtain ⟨hl1, hl2, h⟩ := h
    have hsub := sub_zip
    have hL1 : Heap.IsList (Shared.heap ⟨hp, g, d, tk, os⟩) l1 xs := hl1
    have hL2 : Heap.IsTuple (Shared.heap ⟨hp.push { cls := .type "list_iterator", data := .fields #[.ref l1, .int 0 0] }, g, d, tk, os⟩) l2 ys := hl2.elim fun o ho => ⟨o, Heap.get?_push_of_some _ ho.1, ho.2⟩
    wp_walk using wpAny_pyIter_list hL1, wpAny_pyIter_tuple hL2
    exact ⟨_, rfl, h⟩
theorem call_zipN {prog : Program} {w : World} {A : Around} {E : Value → Shared → Prop} {s : Shared} {Q : Value → Shared → Prop} (hl1 : s.heap.IsList l1 xs) (hl2 : s.heap.IsTuple l2 ys)
    (hq : ∀ h', IsZip h' (s.heap.objs.size + 4) (s.heap.objs.size + 2) (s.heap.objs.size + 3) .none → IsPair h' (s.heap.objs.size + 2) (.ref s.heap.objs.size) (.ref (s.heap.objs.size + 1)) →
      IsPair h' (s.heap.objs.size + 3) .none .none → h'.IsListIter s.heap.objs.size l1 0 → h'.IsTupleIter (s.heap.objs.size + 1) l2 0 →
      (∀ c o, s.heap.get? c = some o → h'.get? c = some o) → Q (.ref (s.heap.objs.size + 4)) { s with heap := h' }) :
    wpAny (model prog w) A (call (.type "zip") [.ref l1, .ref l2]) Q E s := by
  refine callType_new F.called_zip (by decide) (F.typeCall_zip_2 _ _) (F.newCall_zip_2 _ _) (fun obj => F.args_object_init_3 obj _ _) F.entry_zip_new (meets_zipN l1 l2 xs ys) ⟨hl1, hl2, ?_⟩
  have n1 : (nz1 s.heap l1).objs.size = s.heap.objs.size + 1 := Heap.size_push ..
  have n2 : (nz2 s.heap l1 l2).objs.size = s.heap.objs.size + 2 := by rw [Heap.size_push, n1]
  have n3 : (nz3 s.heap l1 l2).objs.size = s.heap.objs.size + 3 := by rw [Heap.size_push, n2]
  have n4 : (nz4 s.heap l1 l2).objs.size = s.heap.objs.size + 4 := by rw [Heap.size_push, n3]
  have up : ∀ {g : Heap} {c : Addr} {o o' : Obj}, g.get? c = some o → (g.push o').get? c = some o := fun q => Heap.get?_push_of_some _ q
  have q5 : (nz5 s.heap l1 l2).get? (nz4 s.heap l1 l2).objs.size = some _ := Heap.get?_push_size _ rfl
  have q4 : (nz5 s.heap l1 l2).get? (nz3 s.heap l1 l2).objs.size = some _ := up (Heap.get?_push_size _ rfl)
  have q3 : (nz5 s.heap l1 l2).get? (nz2 s.heap l1 l2).objs.size = some _ := up (up (Heap.get?_push_size _ rfl))
  have q2 : (nz5 s.heap l1 l2).get? (nz1 s.heap l1).objs.size = some _ := up (up (up (Heap.get?_push_size _ rfl)))
  have q1 : (nz5 s.heap l1 l2).get? s.heap.objs.size = some _ := up (up (up (up (Heap.get?_push_size _ rfl))))
  show _ ∧ _
  rw [n2, n3, n4] at q5
  rw [n1, n2] at q3
  rw [n3] at q4
  rw [n1] at q2
  rw [n4]
  exact ⟨⟨_, q5, rfl⟩, hq _ q5 q3 q4 ⟨_, q1, rfl, rfl⟩ ⟨_, q2, rfl, rfl⟩ fun c o q => up (up (up (up (up q))))⟩
end
/-- zip of two lists, of two tuples, of a tuple and a list, of a list and a tuple -/
def iZip4 (K : PySem.W.Frag) (ta : TA) : TI := fun σ H R => ta σ H fun vs H1 => ∃ a b xs ys, vs = [.ref a, .ref b] ∧
  ((SqL K H1 a xs ∧ SqL K H1 b ys ∧ R (Itz K a b) H1) ∨ (SqT K H1 a xs ∧ SqT K H1 b ys ∧ R (RZ.ItzT K a b) H1) ∨ (SqT K H1 a xs ∧ SqL K H1 b ys ∧ R (ItzM K a b) H1) ∨ (SqL K H1 a xs ∧ SqT K H1 b ys ∧ R (ItzN K a b) H1))
theorem pi_zip4 {X : Cx} {e e2 : Expr} {ta : TA} {p pos tpos : Pos} {elts : List Expr} {kk : Nat} (hg : Gl X "zip") (hm : X.mg "zip" = none) (ha : L2.PA X [e, e2] ta)
    (hs : starEach [e, e2] X.env = (false, eval e X.env) :: starEach [e2] X.env := by rfl) (hpl : (backTo pos (starEach [e2] X.env)).any (·.1) = false := by rfl) :
    PI X (.Tuple elts kk tpos) (.Call (.Name "zip" p) [e, e2] [] pos) (iZip4 X.K ta) := by
  refine ⟨fun pins s σ H R I h => ?_⟩
  refine Call_ (ld_blt I hg hm PyProof.Rows.boot_zip (PyProof.Rows.callWith_type1 (thn (ha.run pos pins s σ H _ I h) fun us s1 ⟨vs, H1, I1, r1, q1⟩ => ?_) hs hpl))
  obtain ⟨a, b, xs, ys, ex, q1⟩ := q1
  subst ex
  cases r1 with
  | cons r rr =>
    cases rr with
    | cons r' rr =>
      cases rr
      cases r
      cases r'
      have fresh5 : ∀ c, c ∈ [s1.heap.objs.size + 4, s1.heap.objs.size + 2, s1.heap.objs.size + 3, s1.heap.objs.size, s1.heap.objs.size + 1] → FpOk X pins H1 c := fun c hcm => by
        have hle : s1.heap.objs.size ≤ c := by
          rcases five hcm with rfl | rfl | rfl | rfl | rfl
          · exact Nat.le_add_right _ _
          · exact Nat.le_add_right _ _
          · exact Nat.le_add_right _ _
          · exact Nat.le_refl _
          · exact Nat.le_add_right _ _
        exact I1.fpOk hle (I1.hok.fresh hle)
      rcases q1 with ⟨hqx, hqy, q⟩ | ⟨hqx, hqy, q⟩ | ⟨hqx, hqy, q⟩ | ⟨hqx, hqy, q⟩
      · obtain ⟨its, rv, p1, _⟩ := I1.list hqx
        obtain ⟨its2, rv2, p2, _⟩ := I1.list hqy
        refine call_zip_2 p1.isList p2.isList fun h' hz hTI hTO h1 h2 hsz hk => wpAny_pyIter_zip hz ?_
        exact ⟨_, _, _, _, H1, rfl, I1.kept (t' := s1.toks) hk, turn_zip (PySem.W.ktu_apart s1.heap.objs.size a b p1.lt p2.lt), ⟨hz, hTI, ⟨_, _, hTO⟩, h1, h2⟩, fresh5, q⟩
      · obtain ⟨its, rv, p1, _⟩ := I1.tuple hqx
        obtain ⟨its2, rv2, p2, _⟩ := I1.tuple hqy
        obtain ⟨o1, ho1, _⟩ := id p1
        obtain ⟨o2, ho2, _⟩ := id p2
        refine RZ.call_zipT (show s1.heap.IsTuple a its.toArray from p1) (show s1.heap.IsTuple b its2.toArray from p2) fun h' hz hTI hTO h1 h2 hsz hk => wpAny_pyIter_zip hz ?_
        exact ⟨_, _, _, _, H1, rfl, I1.kept (t' := s1.toks) hk, RZ.turn_zipT (PySem.W.ktu_apart s1.heap.objs.size a b (Heap.lt_size ho1) (Heap.lt_size ho2)), ⟨hz, hTI, ⟨_, _, hTO⟩, h1, h2⟩, fresh5, q⟩
      · obtain ⟨its, rv, p1, _⟩ := I1.tuple hqx
        obtain ⟨its2, rv2, p2, _⟩ := I1.list hqy
        obtain ⟨o1, ho1, _⟩ := id p1
        refine call_zipM (show s1.heap.IsTuple a its.toArray from p1) p2.isList fun h' hz hTI hTO h1 h2 hk => wpAny_pyIter_zip hz ?_
        exact ⟨_, _, _, _, H1, rfl, I1.kept (t' := s1.toks) hk, turn_zipM (PySem.W.ktu_apart s1.heap.objs.size a b (Heap.lt_size ho1) p2.lt), ⟨hz, hTI, ⟨_, _, hTO⟩, h1, h2⟩, fresh5, q⟩
      · obtain ⟨its, rv, p1, _⟩ := I1.list hqx
        obtain ⟨its2, rv2, p2, _⟩ := I1.tuple hqy
        obtain ⟨o2, ho2, _⟩ := id p2
        refine call_zipN p1.isList (show s1.heap.IsTuple b its2.toArray from p2) fun h' hz hTI hTO h1 h2 hk => wpAny_pyIter_zip hz ?_
        exact ⟨_, _, _, _, H1, rfl, I1.kept (t' := s1.toks) hk, turn_zipN (PySem.W.ktu_apart s1.heap.objs.size a b p1.lt (Heap.lt_size ho2)), ⟨hz, hTI, ⟨_, _, hTO⟩, h1, h2⟩, fresh5, q⟩
theorem walk_zipN {K : PySem.W.Frag} {a b : Addr} {xs ys : List V} {n : Nat} (hn : n = min xs.length ys.length) : Walk (ItzN K a b) n (fun H => SqL K H a xs ∧ SqT K H b ys) (YPair (fun i => xs[i]?) (fun i => ys[i]?)) := by
  subst hn
  refine ⟨fun i _ hi q => ?_, fun _ q => ⟨xs, ys, q.1, q.2, by omega⟩, fun i H v H' _ q y => ?_⟩
  · have h1 : i < xs.length := by omega
    have h2 : i < ys.length := by omega
    exact ⟨xs, ys, xs[i], ys[i], q.1, q.2, by simp [h1], by simp [h2]⟩
  · obtain ⟨T, x, z, h1, h2, h3, h4, h5⟩ := y
    exact ⟨T, x, z, h1, h2, h3, h4 xs q.1, h5 ys q.2⟩
end Fs

set_option Elab.async false
set_option linter.all false
set_option maxRecDepth 100000
set_option maxHeartbeats 4000000
namespace Fs
open PySem L2

/-- an item: a value, or a new pair that is taken apart at once -/
def ResI (b : Bool) (pa : PA) (G H : Hp) (v : V) (d : D) (H1 : Hp) : Prop := Res pa G H v d false H1 ∨ (b = true ∧ Sub H H1 ∧ ∃ a xs ds, v = .ref a ∧ d = .tuple ds ∧ H1 a = some (.tup xs) ∧ Rps pa G xs ds)
/-- the iterator gives these items -/
def SrOk (b : Bool) (pa : PA) (G H1 : Hp) (items : List D) (J : It) : Prop := ∃ (Gd : Hp → Prop) (Y : Nat → Hp → V → Hp → Prop), Walk J items.length Gd Y ∧
  (∀ H', (∀ a o, H1 a = some o → ¬ pen1 pa a → H' a = some o) → Gd H') ∧ ∀ i H v H', i < items.length → Gd H → Y i H v H' → ∃ d, items[i]? = some d ∧ ResI b pa G H v d H'
/-- .. also while the body works, where the value is kept -/
def SrF (b : Bool) (pa : PA) (G : Hp) (items : List D) (J : It) : Prop := ∃ (Gd : Hp → Prop) (Y : Nat → Hp → V → Hp → Prop), Walk J items.length Gd Y ∧
  (∀ H', Sub G H' → Gd H') ∧ ∀ i H v H', i < items.length → Gd H → Y i H v H' → ∃ d, items[i]? = some d ∧ ResI b pa G H v d H'
def SrB (b : Bool) (pa : PA) (G H1 : Hp) (items : List D) (J : It) (v : V) (d : D) : Prop := SrOk b pa G H1 items J ∧ ∀ G2, Sub G G2 → Rp pa G2 v d → SrF b pa G2 items J
def tSr (src : Sr) : TI := fun σ H R => ∃ pa H0 G0 G s items t s1, Sim pa H0 G0 G σ H s ∧ evalSr src s = some ((items, t), s1) ∧
  ∀ J H1 G1 v d, Sim pa H0 G0 G1 σ H1 s1 → Ext pa G G1 H H1 σ s s1 → RT pa H0 G1 σ H1 s1 v d t → NewT H v t → SrB src.pairs pa G1 H1 items J v d → R J H1
def tTs : IEs → TT
  | .nil => tYes
  | .cons e _ => tQ fun s => boolD (evalE e s)

section
variable {pa : PA} {H0 G0 G G1 G2 H H1 H2 : Hp} {σ σ2 : L2.St} {s s1 s2 : S} {v : V} {d : D} {t : Tg} {pr : Bool}
theorem Res.mono {fr : Bool} (k : Sub G G2) (h : Res pa G H v d fr H1) : Res pa G2 H v d fr H1 := by
  obtain ⟨u, r⟩ := h
  refine ⟨u, ?_⟩
  rcases r with ⟨q, r | ⟨a, xs, ds, e1, e2, e3, e4, r⟩⟩ | ⟨q, ⟨a, xs, ds, e1, e2, e3, e4, r⟩ | ⟨a, as, es, e1, e2, e3, e4, e5, e6, r⟩⟩
  · exact .inl ⟨q, .inl (r.mono k)⟩
  · exact .inl ⟨q, .inr ⟨a, xs, ds, e1, e2, e3, e4, r.mono k⟩⟩
  · exact .inr ⟨q, .inl ⟨a, xs, ds, e1, e2, e3, e4, r.mono k⟩⟩
  · exact .inr ⟨q, .inr ⟨a, as, es, e1, e2, e3, e4, e5, e6, r.mono k⟩⟩
theorem ResI.mono (k : Sub G G2) (h : ResI pr pa G H v d H1) : ResI pr pa G2 H v d H1 := by
  rcases h with h | ⟨q, u, a, xs, ds, e1, e2, e3, r⟩
  · exact .inl (h.mono k)
  · exact .inr ⟨q, u, a, xs, ds, e1, e2, e3, r.mono k⟩
theorem ResI.old (r : Rp pa G v d) : ResI pr pa G H v d H := .inl (.old r)
theorem ResI.pair {a : Addr} {xs : List V} {ds : List D} (n : H a = none) (r : Rps pa G xs ds) : ResI true pa G H (.ref a) (.tuple ds) (upd H a (.tup xs)) := .inr ⟨rfl, .upd n, a, xs, ds, rfl, rfl, upd_same, r⟩
theorem SrOk.mono {items : List D} {J : It} (k : Sub G G2) (h : SrOk pr pa G H1 items J) : SrOk pr pa G2 H1 items J := by
  obtain ⟨Gd, Y, w, g, y⟩ := h
  refine ⟨Gd, Y, w, g, fun i H v H' hi hg hy => ?_⟩
  obtain ⟨d, e, r⟩ := y i H v H' hi hg hy
  exact ⟨d, e, r.mono k⟩
theorem SrF.mono {items : List D} {J : It} (k : Sub G G2) (h : SrF pr pa G items J) : SrF pr pa G2 items J := by
  obtain ⟨Gd, Y, w, g, y⟩ := h
  refine ⟨Gd, Y, w, fun H' z => g H' (k.trans z), fun i H v H' hi hg hy => ?_⟩
  obtain ⟨d, e, r⟩ := y i H v H' hi hg hy
  exact ⟨d, e, r.mono k⟩
/-- where all stands in G, it stands for good -/
theorem SrF.of {items : List D} {J : It} {Gd : Hp → Prop} {Y : Nat → Hp → V → Hp → Prop} (w : Walk J items.length Gd Y) (g : ∀ H', Sub G H' → Gd H') (y : ∀ i H v H', i < items.length → Gd H → Y i H v H' → ∃ d, items[i]? = some d ∧ ResI pr pa G H v d H') : SrF pr pa G items J := ⟨Gd, Y, w, g, y⟩
theorem Rps.at {xs : List V} {ds : List D} (r : Rps pa G xs ds) {i : Nat} {x : V} (h : xs[i]? = some x) : ∃ d, ds[i]? = some d ∧ Rp pa G x d := r.getV h
theorem sr_list (K : PySem.W.Frag) {a : Addr} {xs : List V} {ds : List D} (h : H1 a = some (.lst xs)) (n : ¬ pen1 pa a) (r : Rps pa G xs ds) : SrOk pr pa G H1 ds (Itl K a) := by
  refine ⟨fun H => SqL K H a xs, YAt xs, (by rw [← r.len]; exact walk_list), fun H' k => .of (k a _ h n), fun i H v H' _ _ y => ?_⟩
  obtain ⟨rfl, hv⟩ := y
  obtain ⟨d, e, q⟩ := r.getV hv
  exact ⟨d, e, .old q⟩
theorem sr_tup (K : PySem.W.Frag) {a : Addr} {xs : List V} {ds : List D} (h : TupAt H1 a xs) (n : ¬ pen1 pa a) (r : Rps pa G xs ds) : SrOk pr pa G H1 ds (Itt K a) := by
  refine ⟨fun H => SqT K H a xs, YAt xs, (by rw [← r.len]; exact walk_tup), fun H' k => (h.at1 fun o e => k a o e n).sq, fun i H v H' _ _ y => ?_⟩
  obtain ⟨rfl, hv⟩ := y
  obtain ⟨d, e, q⟩ := r.getV hv
  exact ⟨d, e, .old q⟩
theorem en_at {ds : List D} {i : Nat} {d : D} (h : ds[i]? = some d) : (ds.zipIdx.map fun p => PyData.tuple [.int (p.2 : Nat), p.1])[i]? = some (PyData.tuple [.int (i : Nat), d]) := by
  rw [List.getElem?_map, List.getElem?_zipIdx, h]; simp
theorem sr_en (K : PySem.W.Frag) {a : Addr} {xs : List V} {ds : List D} (h : H1 a = some (.lst xs)) (n : ¬ pen1 pa a) (r : Rps pa G xs ds) : SrOk true pa G H1 (ds.zipIdx.map fun p => PyData.tuple [.int (p.2 : Nat), p.1]) (Ite K a) := by
  refine ⟨fun H => SqL K H a xs, YPair (fun i => some (.int (i : Nat))) (fun i => xs[i]?), (by rw [List.length_map, List.length_zipIdx, ← r.len]; exact walk_enum), fun H' k => .of (k a _ h n), fun i H v H' _ _ y => ?_⟩
  obtain ⟨T, x, z, rfl, hT, rfl, e1, hv⟩ := y
  cases e1
  obtain ⟨d, e, q⟩ := r.getV hv
  exact ⟨_, en_at e, .pair hT (.cons (.int _) (.cons q .nil))⟩
theorem sr_enT (K : PySem.W.Frag) {a : Addr} {xs : List V} {ds : List D} (h : TupAt H1 a xs) (n : ¬ pen1 pa a) (r : Rps pa G xs ds) : SrOk true pa G H1 (ds.zipIdx.map fun p => PyData.tuple [.int (p.2 : Nat), p.1]) (ItE K a) := by
  refine ⟨fun H => SqT K H a xs, YPair (fun i => some (.int (i : Nat))) (fun i => xs[i]?), (by rw [List.length_map, List.length_zipIdx, ← r.len]; exact walk_enumT), fun H' k => (h.at1 fun o e => k a o e n).sq, fun i H v H' _ _ y => ?_⟩
  obtain ⟨T, x, z, rfl, hT, rfl, e1, hv⟩ := y
  cases e1
  obtain ⟨d, e, q⟩ := r.getV hv
  exact ⟨_, en_at e, .pair hT (.cons (.int _) (.cons q .nil))⟩
theorem zip_at {ds es : List D} {i : Nat} {d e : D} (h : ds[i]? = some d) (h2 : es[i]? = some e) : (List.zipWith (fun u v => PyData.tuple [u, v]) ds es)[i]? = some (PyData.tuple [d, e]) := by
  rw [List.getElem?_zipWith, h, h2]
theorem sr_zip (K : PySem.W.Frag) {a b : Addr} {xs ys : List V} {ds es : List D} (h : H1 a = some (.lst xs)) (n : ¬ pen1 pa a) (r : Rps pa G xs ds) (h2 : H1 b = some (.lst ys)) (n2 : ¬ pen1 pa b) (r2 : Rps pa G ys es) :
    SrOk true pa G H1 (List.zipWith (fun u v => PyData.tuple [u, v]) ds es) (Itz K a b) := by
  refine ⟨fun H => SqL K H a xs ∧ SqL K H b ys, YPair (fun i => xs[i]?) (fun i => ys[i]?), (by rw [List.length_zipWith, ← r.len, ← r2.len]; exact walk_zip rfl), fun H' k => ⟨.of (k a _ h n), .of (k b _ h2 n2)⟩, fun i H v H' _ _ y => ?_⟩
  obtain ⟨T, x, z, rfl, hT, rfl, hx, hz⟩ := y
  obtain ⟨d, e, q⟩ := r.getV hx
  obtain ⟨d2, e2, q2⟩ := r2.getV hz
  exact ⟨_, zip_at e e2, .pair hT (.cons q (.cons q2 .nil))⟩
theorem sr_zipT (K : PySem.W.Frag) {a b : Addr} {xs ys : List V} {ds es : List D} (h : TupAt H1 a xs) (n : ¬ pen1 pa a) (r : Rps pa G xs ds) (h2 : TupAt H1 b ys) (n2 : ¬ pen1 pa b) (r2 : Rps pa G ys es) :
    SrOk true pa G H1 (List.zipWith (fun u v => PyData.tuple [u, v]) ds es) (RZ.ItzT K a b) := by
  refine ⟨fun H => SqT K H a xs ∧ SqT K H b ys, YPair (fun i => xs[i]?) (fun i => ys[i]?), (by rw [List.length_zipWith, ← r.len, ← r2.len]; exact walk_zipT rfl), fun H' k => ⟨(h.at1 fun o e => k a o e n).sq, (h2.at1 fun o e => k b o e n2).sq⟩, fun i H v H' _ _ y => ?_⟩
  obtain ⟨T, x, z, rfl, hT, rfl, hx, hz⟩ := y
  obtain ⟨d, e, q⟩ := r.getV hx
  obtain ⟨d2, e2, q2⟩ := r2.getV hz
  exact ⟨_, zip_at e e2, .pair hT (.cons q (.cons q2 .nil))⟩
theorem sr_zipM (K : PySem.W.Frag) {a b : Addr} {xs ys : List V} {ds es : List D} (h : TupAt H1 a xs) (n : ¬ pen1 pa a) (r : Rps pa G xs ds) (h2 : H1 b = some (.lst ys)) (n2 : ¬ pen1 pa b) (r2 : Rps pa G ys es) :
    SrOk true pa G H1 (List.zipWith (fun u v => PyData.tuple [u, v]) ds es) (ItzM K a b) := by
  refine ⟨fun H => SqT K H a xs ∧ SqL K H b ys, YPair (fun i => xs[i]?) (fun i => ys[i]?), (by rw [List.length_zipWith, ← r.len, ← r2.len]; exact walk_zipM rfl), fun H' k => ⟨(h.at1 fun o e => k a o e n).sq, SqL.of (k b _ h2 n2)⟩, fun i H v H' _ _ y => ?_⟩
  obtain ⟨T, x, z, rfl, hT, rfl, hx, hz⟩ := y
  obtain ⟨d, e, q⟩ := r.getV hx
  obtain ⟨d2, e2, q2⟩ := r2.getV hz
  exact ⟨_, zip_at e e2, .pair hT (.cons q (.cons q2 .nil))⟩
theorem sr_zipN (K : PySem.W.Frag) {a b : Addr} {xs ys : List V} {ds es : List D} (h : H1 a = some (.lst xs)) (n : ¬ pen1 pa a) (r : Rps pa G xs ds) (h2 : TupAt H1 b ys) (n2 : ¬ pen1 pa b) (r2 : Rps pa G ys es) :
    SrOk true pa G H1 (List.zipWith (fun u v => PyData.tuple [u, v]) ds es) (ItzN K a b) := by
  refine ⟨fun H => SqL K H a xs ∧ SqT K H b ys, YPair (fun i => xs[i]?) (fun i => ys[i]?), (by rw [List.length_zipWith, ← r.len, ← r2.len]; exact walk_zipN rfl), fun H' k => ⟨SqL.of (k a _ h n), (h2.at1 fun o e => k b o e n2).sq⟩, fun i H v H' _ _ y => ?_⟩
  obtain ⟨T, x, z, rfl, hT, rfl, hx, hz⟩ := y
  obtain ⟨d, e, q⟩ := r.getV hx
  obtain ⟨d2, e2, q2⟩ := r2.getV hz
  exact ⟨_, zip_at e e2, .pair hT (.cons q (.cons q2 .nil))⟩
theorem sr_rng {lo : Int} {n : Nat} : SrOk pr pa G H1 ((List.range n).map fun i => .int (lo + (i : Nat))) (Itr lo n) := by
  refine ⟨fun _ => True, YFn fun i => .int (lo + i), (by rw [List.length_map, List.length_range]; exact walk_range), fun _ _ => trivial, fun i H v H' hi _ y => ?_⟩
  obtain ⟨rfl, rfl⟩ := y
  rw [List.length_map, List.length_range] at hi
  exact ⟨.int (lo + (i : Nat)), by rw [List.getElem?_map, List.getElem?_range hi]; rfl, .old (.int _)⟩
theorem sr_rngC {lo c : Int} {n : Nat} : SrOk pr pa G H1 ((List.range n).map fun i => .int (lo + (i : Nat) * c)) (Itc lo c n) := by
  refine ⟨fun _ => True, YFn fun i => .int (lo + (i : Nat) * c), (by rw [List.length_map, List.length_range]; exact walk_rangeC), fun _ _ => trivial, fun i H v H' hi _ y => ?_⟩
  obtain ⟨rfl, rfl⟩ := y
  rw [List.length_map, List.length_range] at hi
  exact ⟨.int (lo + (i : Nat) * c), by rw [List.getElem?_map, List.getElem?_range hi]; rfl, .old (.int _)⟩
theorem fsr_rngC {lo c : Int} {n : Nat} : SrF pr pa G ((List.range n).map fun i => .int (lo + (i : Nat) * c)) (Itc lo c n) := by
  refine ⟨fun _ => True, YFn fun i => .int (lo + (i : Nat) * c), (by rw [List.length_map, List.length_range]; exact walk_rangeC), fun _ _ => trivial, fun i H v H' hi _ y => ?_⟩
  obtain ⟨rfl, rfl⟩ := y
  rw [List.length_map, List.length_range] at hi
  exact ⟨.int (lo + (i : Nat) * c), by rw [List.getElem?_map, List.getElem?_range hi]; rfl, .old (.int _)⟩
theorem fsr_list (K : PySem.W.Frag) {a : Addr} {xs : List V} {ds : List D} (h : G a = some (.lst xs)) (r : Rps pa G xs ds) : SrF pr pa G ds (Itl K a) := by
  refine ⟨fun H => SqL K H a xs, YAt xs, (by rw [← r.len]; exact walk_list), fun H' k => .of (k a _ h), fun i H v H' _ _ y => ?_⟩
  obtain ⟨rfl, hv⟩ := y
  obtain ⟨d, e, q⟩ := r.getV hv
  exact ⟨d, e, .old q⟩
theorem fsr_tup (K : PySem.W.Frag) {a : Addr} {xs : List V} {ds : List D} (h : TupAt G a xs) (r : Rps pa G xs ds) : SrF pr pa G ds (Itt K a) := by
  refine ⟨fun H => SqT K H a xs, YAt xs, (by rw [← r.len]; exact walk_tup), fun H' k => (h.at1 fun o e => k a o e).sq, fun i H v H' _ _ y => ?_⟩
  obtain ⟨rfl, hv⟩ := y
  obtain ⟨d, e, q⟩ := r.getV hv
  exact ⟨d, e, .old q⟩
theorem fsr_en (K : PySem.W.Frag) {a : Addr} {xs : List V} {ds : List D} (h : G a = some (.lst xs)) (r : Rps pa G xs ds) : SrF true pa G (ds.zipIdx.map fun p => PyData.tuple [.int (p.2 : Nat), p.1]) (Ite K a) := by
  refine ⟨fun H => SqL K H a xs, YPair (fun i => some (.int (i : Nat))) (fun i => xs[i]?), (by rw [List.length_map, List.length_zipIdx, ← r.len]; exact walk_enum), fun H' k => .of (k a _ h), fun i H v H' _ _ y => ?_⟩
  obtain ⟨T, x, z, rfl, hT, rfl, e1, hv⟩ := y
  cases e1
  obtain ⟨d, e, q⟩ := r.getV hv
  exact ⟨_, en_at e, .pair hT (.cons (.int _) (.cons q .nil))⟩
theorem fsr_enT (K : PySem.W.Frag) {a : Addr} {xs : List V} {ds : List D} (h : TupAt G a xs) (r : Rps pa G xs ds) : SrF true pa G (ds.zipIdx.map fun p => PyData.tuple [.int (p.2 : Nat), p.1]) (ItE K a) := by
  refine ⟨fun H => SqT K H a xs, YPair (fun i => some (.int (i : Nat))) (fun i => xs[i]?), (by rw [List.length_map, List.length_zipIdx, ← r.len]; exact walk_enumT), fun H' k => (h.at1 fun o e => k a o e).sq, fun i H v H' _ _ y => ?_⟩
  obtain ⟨T, x, z, rfl, hT, rfl, e1, hv⟩ := y
  cases e1
  obtain ⟨d, e, q⟩ := r.getV hv
  exact ⟨_, en_at e, .pair hT (.cons (.int _) (.cons q .nil))⟩
theorem fsr_zip (K : PySem.W.Frag) {a b : Addr} {xs ys : List V} {ds es : List D} (h : G a = some (.lst xs)) (r : Rps pa G xs ds) (h2 : G b = some (.lst ys)) (r2 : Rps pa G ys es) :
    SrF true pa G (List.zipWith (fun u v => PyData.tuple [u, v]) ds es) (Itz K a b) := by
  refine ⟨fun H => SqL K H a xs ∧ SqL K H b ys, YPair (fun i => xs[i]?) (fun i => ys[i]?), (by rw [List.length_zipWith, ← r.len, ← r2.len]; exact walk_zip rfl), fun H' k => ⟨.of (k a _ h), .of (k b _ h2)⟩, fun i H v H' _ _ y => ?_⟩
  obtain ⟨T, x, z, rfl, hT, rfl, hx, hz⟩ := y
  obtain ⟨d, e, q⟩ := r.getV hx
  obtain ⟨d2, e2, q2⟩ := r2.getV hz
  exact ⟨_, zip_at e e2, .pair hT (.cons q (.cons q2 .nil))⟩
theorem fsr_zipT (K : PySem.W.Frag) {a b : Addr} {xs ys : List V} {ds es : List D} (h : TupAt G a xs) (r : Rps pa G xs ds) (h2 : TupAt G b ys) (r2 : Rps pa G ys es) :
    SrF true pa G (List.zipWith (fun u v => PyData.tuple [u, v]) ds es) (RZ.ItzT K a b) := by
  refine ⟨fun H => SqT K H a xs ∧ SqT K H b ys, YPair (fun i => xs[i]?) (fun i => ys[i]?), (by rw [List.length_zipWith, ← r.len, ← r2.len]; exact walk_zipT rfl), fun H' k => ⟨(h.at1 fun o e => k a o e).sq, (h2.at1 fun o e => k b o e).sq⟩, fun i H v H' _ _ y => ?_⟩
  obtain ⟨T, x, z, rfl, hT, rfl, hx, hz⟩ := y
  obtain ⟨d, e, q⟩ := r.getV hx
  obtain ⟨d2, e2, q2⟩ := r2.getV hz
  exact ⟨_, zip_at e e2, .pair hT (.cons q (.cons q2 .nil))⟩
theorem fsr_zipM (K : PySem.W.Frag) {a b : Addr} {xs ys : List V} {ds es : List D} (h : TupAt G a xs) (r : Rps pa G xs ds) (h2 : G b = some (.lst ys)) (r2 : Rps pa G ys es) :
    SrF true pa G (List.zipWith (fun u v => PyData.tuple [u, v]) ds es) (ItzM K a b) := by
  refine ⟨fun H => SqT K H a xs ∧ SqL K H b ys, YPair (fun i => xs[i]?) (fun i => ys[i]?), (by rw [List.length_zipWith, ← r.len, ← r2.len]; exact walk_zipM rfl), fun H' k => ⟨(h.at1 fun o e => k a o e).sq, SqL.of (k b _ h2)⟩, fun i H v H' _ _ y => ?_⟩
  obtain ⟨T, x, z, rfl, hT, rfl, hx, hz⟩ := y
  obtain ⟨d, e, q⟩ := r.getV hx
  obtain ⟨d2, e2, q2⟩ := r2.getV hz
  exact ⟨_, zip_at e e2, .pair hT (.cons q (.cons q2 .nil))⟩
theorem fsr_zipN (K : PySem.W.Frag) {a b : Addr} {xs ys : List V} {ds es : List D} (h : G a = some (.lst xs)) (r : Rps pa G xs ds) (h2 : TupAt G b ys) (r2 : Rps pa G ys es) :
    SrF true pa G (List.zipWith (fun u v => PyData.tuple [u, v]) ds es) (ItzN K a b) := by
  refine ⟨fun H => SqL K H a xs ∧ SqT K H b ys, YPair (fun i => xs[i]?) (fun i => ys[i]?), (by rw [List.length_zipWith, ← r.len, ← r2.len]; exact walk_zipN rfl), fun H' k => ⟨SqL.of (k a _ h), (h2.at1 fun o e => k b o e).sq⟩, fun i H v H' _ _ y => ?_⟩
  obtain ⟨T, x, z, rfl, hT, rfl, hx, hz⟩ := y
  obtain ⟨d, e, q⟩ := r.getV hx
  obtain ⟨d2, e2, q2⟩ := r2.getV hz
  exact ⟨_, zip_at e e2, .pair hT (.cons q (.cons q2 .nil))⟩
theorem fsr_rng {lo : Int} {n : Nat} : SrF pr pa G ((List.range n).map fun i => .int (lo + (i : Nat))) (Itr lo n) := by
  refine ⟨fun _ => True, YFn fun i => .int (lo + i), (by rw [List.length_map, List.length_range]; exact walk_range), fun _ _ => trivial, fun i H v H' hi _ y => ?_⟩
  obtain ⟨rfl, rfl⟩ := y
  rw [List.length_map, List.length_range] at hi
  exact ⟨.int (lo + (i : Nat)), by rw [List.getElem?_map, List.getElem?_range hi]; rfl, .old (.int _)⟩
/-- a list, a tuple is not the pen -/
theorem RT.npen (S1 : Sim pa H0 G0 G σ H s) (r : RT pa H0 G σ H s v d t) {a : Addr} (e : v = .ref a) {ds : List D} (hd : d = .list ds ∨ d = .tuple ds) : ¬ pen1 pa a := by
  subst e
  have fz : Rp pa G (.ref a) d → ¬ pen1 pa a := fun r n => by
    have g := S1.pen.free n
    rcases hd with rfl | rfl
    · cases r with | lst h _ => rw [g] at h; cases h
    · cases r with | tup h _ => exact h.there g
  cases t with
  | fz => exact fz r
  | fresh =>
    obtain ⟨b, xs, es, e1, _, _, _, _, _, n, _⟩ := r
    cases e1; exact n
  | slot i =>
    obtain ⟨f, h1, h2⟩ := r
    cases f with
    | true =>
      obtain ⟨b, _, _, e1, _, _, _, _, _, n⟩ := S1.ow i d h1
      rw [h2] at e1; cases e1; exact n
    | false =>
      obtain ⟨w, h3, r⟩ := S1.fz i d h1
      rw [h2] at h3; cases h3
      exact fz r

theorem Ext.grow (k : Sub H H1) : Ext pa G G H H1 σ s s := ⟨fun a o h _ => k a o h, .refl, fun _ _ h => .inl h, rfl, fun _ h => h, fun _ _ f h => ⟨f, h, fun z => z⟩⟩
/-- an item is bound -/
theorem item_ok (K : PySem.W.Frag) {tg : Tr} (hb : pr = true → tg.isT = true) (S0 : Sim pa H0 G0 G σ H s) (r : ResI pr pa G H v d H1) (e : s.bindT tg d = some s1) {Q : L2.St → Hp → Prop}
    (k : ∀ Gb σ2, Ext pa G Gb H H1 σ s s → Sim pa H0 G0 Gb σ2 H1 s1 → σ2.length = σ.length → (∀ j, j ∉ tg.slots → σ2[j]? = σ[j]? ∧ s1.sl[j]? = s.sl[j]?) → (∀ j, j ∈ tg.slots → ∀ d, s1.sl[j]? ≠ some (some (d, true))) → s1.sl.length = s.sl.length → Q σ2 H1) : tTr K tg v σ H1 Q := by
  rcases r with r | ⟨yes, u, a, xs, ds, rfl, rfl, ha, rs⟩
  · obtain ⟨Gb, Sb, Eb, Rb, _⟩ := S0.res r
    exact bind_ok K Sb (show Rp pa Gb v d from Rb) e fun σ2 S2 l2 out inn ln => k Gb σ2 Eb S2 l2 out inn ln
  · cases tg with
    | v i => cases hb yes
    | t is =>
      simp only [S.bindT] at e
      split at e
      · rename_i hi
        cases e
        exact ⟨a, xs, rfl, .of ha, by rw [rs.len, hi.1], bind_names is (S0.grow u) hi.1 hi.2 rs fun σ2 S2 l2 out inn ln => k G σ2 (Ext.grow u) S2 l2 out inn ln⟩
      · cases e
    | n i is =>
      simp only [S.bindT] at e
      obtain ⟨⟨d1, ds2⟩, ep, e⟩ := Option.bind_eq_some_iff.mp e
      split at e
      · rename_i hi
        cases e
        obtain ⟨hi, hl, hb⟩ := hi
        have ez := pairT_some ep
        injection ez with ez
        subst ez
        cases rs with
        | cons r1 rs =>
          cases rs with
          | cons r2 rs =>
            cases rs
            exact ⟨a, _, rfl, .of ha, rfl, bind_two (S0.grow u) hi hl hb r1 r2 fun σ2 S2 l2 out inn ln => k G σ2 (Ext.grow u) S2 l2 out inn ln⟩
      · cases e
theorem Ext.updNew (E : Ext pa G G1 H H1 σ s s1) {a : Addr} {o : HO} (h : H a = none) : Ext pa G G1 H (upd H1 a o) σ s s1 :=
  ⟨fun b u e n => by rw [upd_ne (ne_of_none e h)]; exact E.hk b u e n, E.gk, E.gn, E.ln, E.sn, E.sl⟩
theorem Ext.off (E : Ext pa G G1 H H1 σ s s1) {a : Addr} {o : HO} (g : G a = none) (h : H a = some o) (n : ¬ OwnAt σ s a) : G1 a = none := by
  cases z : G1 a with
  | none => rfl
  | some u =>
    rcases E.gn a u z with q | q | q
    · rw [g] at q; cases q
    · rw [h] at q; cases q
    · exact (n q).elim
theorem own_wipe {vs : List Nat} {a : Addr} (h : OwnAt (L2.wipe σ vs) (s.wipe vs) a) : OwnAt σ s a := by
  obtain ⟨j, d, e1, e2⟩ := h
  have m : j ∉ vs := fun m => wipe_mem m e1
  rw [wipe_not m] at e1
  rw [wipeV_not m] at e2
  exact ⟨j, d, e1, e2⟩
theorem tTs_of {ifs : IEs} {b : Bool} {Q : Bool → Hp → Prop} (S0 : Sim pa H0 G0 G σ H s) (e : evalAll ifs s = some (b, s1)) (k : ∀ H1 G1, Sim pa H0 G0 G1 σ H1 s1 → Ext pa G G1 H H1 σ s s1 → Q b H1) : tTs ifs σ H Q := by
  cases ifs with
  | nil =>
    rw [evalAll] at e; cases e
    exact k H G S0 .refl
  | cons e1 es =>
    rw [evalAll] at e
    exact tQ_of S0 e k
end

theorem lc_ok (K : PySem.W.Frag) (elt : IE) (tg : Tr) (src : Sr) (ifs : IEs) (hb : src.pairs = true → tg.isT = true) {σ : L2.St} {H : Hp} {Q : VK} (h : tI (.lc elt tg src ifs) σ H Q) :
    tLc (tSr src) (tTr K tg) (tTs ifs) (tI elt) tg.slots σ H Q := by
  obtain ⟨pa, H0, G0, G, s, d, t, s2, S0, e, k⟩ := h
  rw [evalE] at e
  obtain ⟨⟨⟨items, t0⟩, s1⟩, es, e⟩ := obind e
  obtain ⟨⟨ds, s3⟩, el, e⟩ := obind e
  cases e
  unfold lcRun at el
  split at el
  case isFalse => cases el
  rename_i cond
  obtain ⟨un, lenb⟩ := cond
  obtain ⟨⟨ds', sE⟩, eg, e⟩ := obind el
  cases e
  refine ⟨pa, H0, G0, G, s, items, t0, s1, S0, es, fun J H1 G1 v d S1 E1 R1 N1 ok D hD => ?_⟩
  obtain ⟨Gd, Y, w, hg, hy⟩ := ok.1
  obtain ⟨n1, n2, n3, n4⟩ := S1.none0 hD
  refine lc_it w (fun i H' => ∃ G' acc done rest s', Sim pa H0 G0 G' (L2.wipe σ tg.slots) H' s' ∧ Ext pa G1 G' H1 H' (L2.wipe σ tg.slots) (s1.wipe tg.slots) s' ∧ H' D = some (.lst acc) ∧ Rps pa G' acc done ∧ G' D = none ∧
    lcGo (evalAll ifs) (evalE elt) tg (items.drop i) s' = some (rest, sE) ∧ done ++ rest = ds ∧ done.length ≤ i ∧ ∀ j, j ∈ tg.slots → ∀ p, s'.sl[j]? ≠ some (some p)) ?_ ?_ ?_ ?_
  · refine ⟨G1, [], [], ds, s1.wipe tg.slots, (S1.wipe _).write (fun f z => by rw [hD] at z; cases z) n2 n1 n3 (fun z => n4 (own_wipe z)), Ext.grow (.upd hD), upd_same, .nil, n2, eg, rfl, Nat.le_refl _, fun j hj p => wipe_mem hj⟩
  · rintro i H' _ ⟨G', acc, done, rest, s', S', E', _⟩
    exact hg H' E'.hk
  · rintro i x H' H'' hi ⟨G', acc, done, rest, s', S', E', hacc, ra, gD, ego, hds, hl, hin⟩ y
    have noOwn : ¬ OwnAt (L2.wipe σ tg.slots) s' D := fun z => n4 (own_wipe (E'.own z))
    obtain ⟨d, hd, res⟩ := hy i H' x H'' hi (hg H' E'.hk) y
    have edrop : items.drop i = d :: items.drop (i + 1) := by
      obtain ⟨hlt, e⟩ := List.getElem?_eq_some_iff.mp hd
      rw [List.drop_eq_getElem_cons hlt, e]
    rw [edrop, lcGo] at ego
    obtain ⟨sb, eb, ego⟩ := obind ego
    obtain ⟨⟨b, sc⟩, ec, ego⟩ := obind ego
    dsimp only at ego
    refine item_ok K hb S' (res.mono E'.gk) eb fun Gb σ2 Eb S2 l2 out inn ln => ?_
    have hw : L2.wipe σ2 tg.slots = L2.wipe σ tg.slots := wipeV_eq (by rw [l2, L2.wipe_length]) fun j hj => (out j hj).1.trans (wipeV_not hj)
    refine ⟨hw, tTs_of S2 ec fun H3 Gc Sc Ec => ?_⟩
    cases b with
    | false =>
      rw [if_neg (by decide)] at ego ⊢
      have Sw := Sc.wipe tg.slots
      rw [hw] at Sw
      have Es := Ec.scope ln (fun j hj => ⟨(out j hj).2, (out j hj).1⟩) inn hin
      have Et := Eb.trans Sw Es
      refine ⟨Gc, acc, done, rest, sc.wipe tg.slots, Sw, E'.trans Sw Et, Et.hk D _ hacc n3, ra.mono Et.gk, Et.off gD hacc noOwn, ego, hds, by omega, fun j hj p => wipe_mem hj⟩
    | true =>
      rw [if_pos rfl] at ego ⊢
      obtain ⟨⟨⟨d2, t2⟩, sd⟩, ed, ego⟩ := obind ego
      obtain ⟨⟨ds2, s4⟩, e4, ego⟩ := obind ego
      cases ego
      refine tV_of Sc ed fun y2 H4 Gd2 Sd Ed Rd Nd => ?_
      obtain ⟨Gk, Sk, Ek, _, _, rp⟩ := Rd.keep Sd Ed Nd
      have Sw := Sk.wipe tg.slots
      rw [hw] at Sw
      have Es := (Ec.trans Sk Ek).scope ln (fun j hj => ⟨(out j hj).2, (out j hj).1⟩) inn hin
      have Et := Eb.trans Sw Es
      have hacc4 := Et.hk D _ hacc n3
      have noOwn4 : ¬ OwnAt (L2.wipe σ tg.slots) ((sd.keep t2).wipe tg.slots) D := fun z => noOwn (Et.own z)
      have gD4 := Et.off gD hacc noOwn
      refine ⟨acc, hacc4, by rw [ra.len]; omega, Gk, acc ++ [y2], done ++ [d2], ds2, (sd.keep t2).wipe tg.slots, Sw.write (fun f z => by rw [hacc4] at z; cases z) gD4 n1 n3 noOwn4, (E'.trans Sw Et).updNew hD, upd_same, (ra.mono Et.gk).app (.cons rp .nil), gD4, e4, by rw [List.append_assoc]; exact hds, by rw [List.length_append]; simp; omega, fun j hj p => wipe_mem hj⟩
  · rintro H' ⟨G', acc, done, rest, s', S', E', hacc, ra, gD, ego, hds, hl, hin⟩
    rw [List.drop_length, lcGo] at ego
    cases ego
    rw [List.append_nil] at hds
    subst hds
    obtain ⟨Sr, Er⟩ := S1.restore un E' S'
    exact k (.ref D) H' G' Sr (E1.trans Sr Er) ⟨D, acc, done, rfl, rfl, hacc, ra, gD, n1, n3, fun z => n4 (Er.own z)⟩ fun _ a e => by
      cases e
      exact E1.back hD S1
end Fs

set_option Elab.async false
set_option linter.all false
set_option maxRecDepth 100000
set_option maxHeartbeats 4000000
namespace Fs
open PySem L2

def isn : D → Bool
  | .none => true
  | _ => false
theorem isnon {pa : PA} {G H : Hp} {v : V} {d : D} (r : RpT pa G H v d) : decide (v = .non) = isn d := by
  cases d with
  | none => rw [r.non]; rfl
  | bool b => rw [r.bl]; rfl
  | int b => rw [r.int]; rfl
  | str b => rw [r.str]; rfl
  | list b => obtain ⟨a, xs, rfl, _⟩ := r.lst; rfl
  | tuple b => obtain ⟨a, xs, rfl, _⟩ := r.tup; rfl
  | dict b => obtain ⟨a, rfl⟩ := r.dicR; rfl
theorem never {X : Cx} {e : Expr} {t : TE} (h : ∀ σ H Q, ¬ t σ H Q) : PE X e t := ⟨fun _ _ _ _ _ _ q => (h _ _ _ q).elim⟩
theorem neverV {X : Cx} {e : Expr} {f : Ev} (h : ∀ s, f s = none) : PE X e (tV f) := never fun σ H Q q => by
  obtain ⟨_, _, _, _, s, _, _, _, _, e, _⟩ := q
  rw [h s] at e; cases e
theorem neverW {X : Cx} {e : Expr} {f : S → Option (Bool × S)} (h : ∀ s, f s = none) : PW X e (tQ f) := ⟨fun _ _ _ σ H Q _ q => by
  obtain ⟨_, _, _, _, s, _, _, _, e, _⟩ := q
  rw [h s] at e; cases e⟩
theorem boolD_some {x : Option ((D × Tg) × S)} {b : Bool} {s : S} (h : boolD x = some (b, s)) : ∃ t, x = some ((.bool b, t), s) := by
  unfold boolD at h
  obtain ⟨⟨⟨d, t⟩, s2⟩, e1, e2⟩ := Option.bind_eq_some_iff.mp h
  dsimp only at e2
  split at e2
  · cases e2; exact ⟨t, e1⟩
  · cases e2
theorem optI_inv {o : Option D} {i : Option Int} (h : optI o = some i) : o = i.map .int := by
  unfold optI at h
  split at h
  · cases h; rfl
  · cases h; rfl
  · cases h
theorem own_snd (N : List Str) (is : List Nat) : (ownOf N is).map (·.2) = is := by
  unfold ownOf
  rw [List.map_map]
  exact List.map_id is

section
variable {pa : PA} {H0 G0 G G1 G2 H H1 H2 : Hp} {σ : L2.St} {s s1 s2 : S} {d d1 d2 : D} {t t1 t2 : Tg}
theorem nofz {v : V} : NewT H v .fz := fun z => by cases z
end

theorem pt_ifE {X : Cx} {c a b : Expr} {pos : Pos} {tc ta tb : TT} (hc : PT X c tc) (ha : PT X a ta) (hb : PT X b tb) :
    PT X (.IfExp c a b pos) (fun σ H Q => tc σ H fun k H1 => if k = true then ta σ H1 Q else tb σ H1 Q) := by
  refine ⟨fun pins s σ H Q I h => ?_⟩
  refine PyProof.Rows.isTrue_IfExp (thn (hc.run pins s σ H _ I h) fun d s1 ⟨H1, I1, q1⟩ => ?_)
  cases d with
  | true => exact ha.run pins s1 σ H1 Q I1 q1
  | false => exact hb.run pins s1 σ H1 Q I1 q1

section
variable {X : Cx} {N : List Str} {sc : Scope} {k : Nat}
theorem Sd.cmpLike {e : IE} {E : Em} {t : TE} (pe : PE X (emE N e E).1 t) (pt : PT X (emE N e E).1 (tB t)) (key : ∀ σ H Q, tI e σ H Q → t σ H Q) : Sd X N k e E :=
  ⟨imp pe key, PT.imp pt fun σ H Q q => key _ _ _ (tQ_tB q)⟩
theorem Cd.blk (C : Cd X N sc k) (sp : Scope) (s : Shared) (H : Hp) (A : Addr) (cl : List (Str × Addr)) (fp : List Addr) : Cd (X.blk s H sp (compEnvC sp cl A X.env) fp) N (relS sp sc) k :=
  ⟨C.hN, C.nd, by show relS sp X.env.scope = _; rw [C.hs], C.calm, C.room, C.gd, C.bl⟩

theorem key_call {x : Str} {F : Fn} {es : IEs} {σ : L2.St} {H : Hp} {Q : VK} (h : tI (.call x F es) σ H Q) : tAs es σ H fun vs H1 => spF F es.len vs H1 Q := by
  obtain ⟨pa, H0, G0, G, s, d, t, s2, S0, e, kk⟩ := h
  rw [evalE] at e
  obtain ⟨⟨xs, s1⟩, e1, e⟩ := obind e
  obtain ⟨⟨⟨d', fr⟩, pn⟩, e2, e⟩ := obind e
  dsimp only at e e2
  refine ⟨pa, H0, G0, G, s, xs, s1, S0, e1, fun vs H1 G1 S1 E1 Rs => ?_⟩
  obtain ⟨G', S', E', k', rps⟩ := Rs.keep S1 E1
  have pn' : PenAt pa G' H1 s1.pn := by have := S'.pen; rw [keeps_pn] at this; exact this
  refine ⟨pa, G', xs.map (·.1), s1.pn, d', fr, pn, by rw [List.length_map]; exact ev_len es e1, S'.sub, pn', rps, e2, fun v H2 G2 kept g1 g2 nw hp res => ?_⟩
  by_cases z : scal d' = true
  · rw [if_pos z] at e
    cases e
    have fr0 : fr = false := by
      cases fr with
      | false => rfl
      | true =>
        rw [if_pos rfl] at res
        obtain ⟨_, _, _, _, rfl, _⟩ := res
        cases z
    subst fr0
    rw [if_neg (by decide)] at res
    obtain ⟨S2, E2⟩ := S1.call kept .refl (Sub.keptPen S1 kept) (fun _ _ h => .inl h) (hp.back S1.pen (k'.trans g1))
    exact kk v H2 G1 S2 (E1.trans S2 E2) (Rp.scal_mono z res) nofz
  · rw [if_neg z] at e
    cases e
    obtain ⟨S2, E2⟩ := S'.call kept g1 g2 nw hp
    refine kk v H2 G2 S2 (E'.trans S2 E2) ?_ ?_
    · cases fr with
      | false => rw [if_neg (by decide)] at res; exact res
      | true =>
        rw [if_pos rfl] at res
        obtain ⟨a, ys, es', rfl, rfl, ha, ha2, r, g⟩ := res
        obtain ⟨n1, n2, n3, n4⟩ := S'.none0 ha
        exact ⟨a, ys, es', rfl, rfl, ha2, r, g, n1, n3, n4⟩
    · cases fr with
      | false => exact nofz
      | true =>
        rw [if_pos rfl] at res
        obtain ⟨a, ys, es', rfl, rfl, ha, ha2, r, g⟩ := res
        intro _ b e
        cases e
        exact E1.back ha S1
theorem one_items {x y : D} {p : Option Pn} {r : D × Option Pn} (h : oneF x y p = some r) : ∃ ys, y = .list ys ∨ y = .tuple ys := by
  unfold oneF at h
  split at h
  · obtain ⟨ys, h1, _⟩ := Option.bind_eq_some_iff.mp h
    unfold itemsD at h1
    split at h1
    · exact ⟨_, .inl rfl⟩
    · exact ⟨_, .inr rfl⟩
    · cases h1
  · cases h
theorem RT.npen0 {pa : PA} {H0 G0 G H : Hp} {σ : L2.St} {s : S} {v : V} {d : D} {t : Tg} (S1 : Sim pa H0 G0 G σ H s) (r : RT pa H0 G σ H s v d t) {a : Addr} (e : v = .ref a) (hd : ∃ ds, d = .list ds ∨ d = .tuple ds) : ¬ pen1 pa a := by
  obtain ⟨ds, hd⟩ := hd
  exact RT.npen S1 r e hd
theorem key_one {x : Str} {a b : IE} {σ : L2.St} {H : Hp} {Q : VK} (h : tI (.one x a b) σ H Q) : tI a σ H fun v H1 => tI b σ H1 fun w H2 => spOne [v, w] H2 Q := by
  obtain ⟨pa, H0, G0, G, s, d, t, s3, S0, e, kk⟩ := h
  rw [evalE] at e
  obtain ⟨⟨⟨d1, t1⟩, s1⟩, e1, e⟩ := obind e
  obtain ⟨⟨⟨d2, t2⟩, s2⟩, e2, e⟩ := obind e
  obtain ⟨⟨d3, pn⟩, e3, e⟩ := obind e
  cases e
  refine two S0 e1 e2 fun v w H2 G2 S2 E2 R1 N1 R2 N2 => ⟨pa, G2, v, w, d1, d2, s2.pn, _, pn, rfl, S2.sub, S2.pen, R1.top S2, R2.top S2, fun b eb => RT.npen0 S2 R2 eb (one_items e3), e3, fun u H3 kept hp r => ?_⟩
  obtain ⟨S3, E3⟩ := S2.call kept .refl (Sub.keptPen S2 kept) (fun _ _ h => .inl h) hp
  exact kk u H3 G2 S3 (E2.trans S3 E3) r nofz
theorem key_blt {f : Bf} {es : IEs} {σ : L2.St} {H : Hp} {Q : VK} (h : tI (.blt f es) σ H Q) : tAs es σ H fun vs H1 => rBlt f vs H1 Q := by
  obtain ⟨pa, H0, G0, G, s, d, t, s2, S0, e, kk⟩ := h
  rw [evalE] at e
  obtain ⟨⟨xs, s1⟩, e1, e⟩ := obind e
  obtain ⟨⟨d', fr⟩, e2, e⟩ := obind e
  cases e
  exact ⟨pa, H0, G0, G, s, xs, _, S0, e1, fun vs H1 G1 S1 E1 Rs => ⟨pa, G1, xs.map (·.1), _, fr, S1.sub, Rs.tops S1, e2, fin S1 E1 kk⟩⟩
/-- the single argument of a call -/
theorem as_one {a : IE} {σ : L2.St} {H : Hp} {R : List V → Hp → Prop} (h : tAs (.cons a .nil) σ H R) : tI a σ H fun v H1 => R [v] H1 := by
  obtain ⟨pa, H0, G0, G, s, xs, s1, S0, e, kk⟩ := h
  rw [evalEs] at e
  obtain ⟨⟨x, s2⟩, e1, e⟩ := obind e
  obtain ⟨⟨xs', s3⟩, e2, e⟩ := obind e
  rw [evalEs] at e2
  cases e2
  cases e
  exact tV_of S0 e1 fun v H1 G1 S1 E1 R1 N1 => kk [v] H1 G1 S1 E1 ⟨R1, N1, fun _ p hp => by simp at hp, trivial⟩
theorem key_and {e : IE} {es : IEs} (hn : es ≠ .nil) {σ : L2.St} {H : Hp} {Q : VK} (h : tV (evalAnd (.cons e es)) σ H Q) : tAndV (tI e) (tV (evalAnd es)) σ H Q := by
  obtain ⟨pa, H0, G0, G, s, d, t, s2, S0, ev, kk⟩ := h
  rw [evalAnd] at ev
  obtain ⟨⟨b, s1⟩, e1, ev⟩ := obind ev
  obtain ⟨t1, e1⟩ := boolD_some e1
  dsimp only at ev
  refine tV_of S0 e1 fun v H1 G1 S1 E1 R1 N1 => ⟨b, (R1.top S1).bl, ?_⟩
  cases es with
  | nil => exact absurd rfl hn
  | cons e2 es2 =>
    dsimp only at ev
    cases b with
    | true =>
      rw [if_pos rfl] at ev ⊢
      exact tV_of S1 ev fun w H2 G2 S2 E2 R2 N2 => kk w H2 G2 S2 (E1.trans S2 E2) R2 fun z a e => E1.back (N2 z a e) S1
    | false =>
      rw [if_neg (by decide)] at ev ⊢
      cases ev
      exact kk (.bl false) H1 G1 S1 E1 (.bl false) nofz
theorem tupR_some {r : Option ((D × Tg) × S)} {xs : List D} {s1 : S} (h : tupR r = some (xs, s1)) : r = some ((.tuple xs, .fz), s1) := by
  unfold tupR at h
  split at h
  · cases h; rfl
  · cases h
theorem key_or {K : PySem.W.Frag} {e : IE} {es : IEs} (hn : es ≠ .nil) {σ : L2.St} {H : Hp} {Q : VK} (h : tV (evalOr (.cons e es)) σ H Q) : tOrT K (tI e) (tV (evalOr es)) σ H Q := by
  obtain ⟨pa, H0, G0, G, s, d, t, s2, S0, ev, kk⟩ := h
  rw [evalOr] at ev
  cases hz : tupR (evalE e s) with
  | none =>
    rw [hz] at ev
    dsimp only at ev
    obtain ⟨⟨b, s1⟩, e1, ev⟩ := obind ev
    obtain ⟨t1, e1⟩ := boolD_some e1
    dsimp only at ev
    refine tV_of S0 e1 fun v H1 G1 S1 E1 R1 N1 => ?_
    rw [(R1.top S1).bl]
    refine ⟨b, rfl, ?_⟩
    cases es with
    | nil => exact absurd rfl hn
    | cons e2 es2 =>
      dsimp only at ev
      cases b with
      | false =>
        rw [if_neg (by decide)] at ev ⊢
        exact tV_of S1 ev fun w H2 G2 S2 E2 R2 N2 => kk w H2 G2 S2 (E1.trans S2 E2) R2 fun z a e => E1.back (N2 z a e) S1
      | true =>
        rw [if_pos rfl] at ev ⊢
        cases ev
        exact kk (.bl true) H1 G1 S1 E1 (.bl true) nofz
  | some q =>
    obtain ⟨xs, s1⟩ := q
    have e1 := tupR_some hz
    rw [hz] at ev
    cases es with
    | nil => exact absurd rfl hn
    | cons e2 es2 =>
      dsimp only at ev
      refine tV_of S0 e1 fun v H1 G1 S1 E1 R1 N1 => ?_
      obtain ⟨a, ys, rfl, ha, ra⟩ := (R1.top S1).tup
      refine ⟨!ys.isEmpty, .inr (.inl ⟨ys, (ha.up S1.sub).sq, rfl⟩), ?_⟩
      have hl : ys.isEmpty = xs.isEmpty := by
        have := ra.len
        cases xs <;> cases ys <;> first | rfl | (simp at this)
      rw [hl]
      cases hx : xs.isEmpty with
      | true =>
        rw [hx, if_pos rfl] at ev
        rw [if_neg (by decide)]
        unfold tupV at ev
        obtain ⟨q, eq, ev⟩ := Option.map_eq_some_iff.mp ev
        have e2 := tupR_some (xs := q.1) (s1 := q.2) eq
        cases ev
        exact tV_of S1 e2 fun w H2 G2 S2 E2 R2 N2 => kk w H2 G2 S2 (E1.trans S2 E2) R2 fun z a e => E1.back (N2 z a e) S1
      | false =>
        rw [hx, if_neg (by decide)] at ev
        rw [if_pos (show (!false) = true from rfl)]
        cases ev
        exact kk _ H1 G1 S1 E1 R1 N1
theorem key_andQ {e : IE} {es : IEs} (hn : es ≠ .nil) {σ : L2.St} {H : Hp} {Q : Bool → Hp → Prop} (h : tQ (fun s => boolD (evalAnd (.cons e es) s)) σ H Q) : tAnd (tQ fun s => boolD (evalE e s)) (tQ fun s => boolD (evalAnd es s)) σ H Q := by
  obtain ⟨pa, H0, G0, G, s, b2, s2, S0, ev, kk⟩ := h
  obtain ⟨t2, ev⟩ := boolD_some ev
  rw [evalAnd] at ev
  obtain ⟨⟨b, s1⟩, e1, ev⟩ := obind ev
  dsimp only at ev
  refine tQ_of S0 e1 fun H1 G1 S1 E1 => ?_
  cases es with
  | nil => exact absurd rfl hn
  | cons e2 es2 =>
    dsimp only at ev
    cases b with
    | true =>
      rw [if_pos rfl] at ev ⊢
      exact tQ_of S1 (by rw [ev]; rfl) fun H2 G2 S2 E2 => kk H2 G2 S2 (E1.trans S2 E2)
    | false =>
      rw [if_neg (by decide)] at ev ⊢
      cases ev
      exact kk H1 G1 S1 E1
theorem key_orQ {e : IE} {es : IEs} (hn : es ≠ .nil) {σ : L2.St} {H : Hp} {Q : Bool → Hp → Prop} (h : tQ (fun s => boolD (evalOr (.cons e es) s)) σ H Q) : tOr (tQ fun s => boolD (evalE e s)) (tQ fun s => boolD (evalOr es s)) σ H Q := by
  obtain ⟨pa, H0, G0, G, s, b2, s2, S0, ev, kk⟩ := h
  obtain ⟨t2, ev⟩ := boolD_some ev
  rw [evalOr] at ev
  cases hz : tupR (evalE e s) with
  | some q =>
    rw [hz] at ev
    cases es with
    | nil => exact absurd rfl hn
    | cons e2 es2 =>
      dsimp only at ev
      split at ev
      · unfold tupV at ev
        obtain ⟨q, eq, ev⟩ := Option.map_eq_some_iff.mp ev
        cases ev
      · cases ev
  | none =>
  rw [hz] at ev
  dsimp only at ev
  obtain ⟨⟨b, s1⟩, e1, ev⟩ := obind ev
  dsimp only at ev
  refine tQ_of S0 e1 fun H1 G1 S1 E1 => ?_
  cases es with
  | nil => exact absurd rfl hn
  | cons e2 es2 =>
    dsimp only at ev
    cases b with
    | false =>
      rw [if_neg (by decide)] at ev ⊢
      exact tQ_of S1 (by rw [ev]; rfl) fun H2 G2 S2 E2 => kk H2 G2 S2 (E1.trans S2 E2)
    | true =>
      rw [if_pos rfl] at ev ⊢
      cases ev
      exact kk H1 G1 S1 E1
theorem key_and1 {e : IE} {σ : L2.St} {H : Hp} {Q : VK} (h : tV (evalAnd (.cons e .nil)) σ H Q) : tI e σ H Q := by
  obtain ⟨pa, H0, G0, G, s, d, t, s2, S0, ev, kk⟩ := h
  rw [evalAnd] at ev
  obtain ⟨⟨b, s1⟩, e1, ev⟩ := obind ev
  obtain ⟨t1, e1⟩ := boolD_some e1
  cases ev
  exact tV_of S0 e1 fun v H1 G1 S1 E1 R1 N1 => kk v H1 G1 S1 E1 (by rw [(R1.top S1).bl]; exact .bl b) nofz
theorem key_or1 {e : IE} {σ : L2.St} {H : Hp} {Q : VK} (h : tV (evalOr (.cons e .nil)) σ H Q) : tI e σ H Q := by
  obtain ⟨pa, H0, G0, G, s, d, t, s2, S0, ev, kk⟩ := h
  rw [evalOr] at ev
  cases hz : tupR (evalE e s) with
  | some q =>
    obtain ⟨xs, s1⟩ := q
    have e1 := tupR_some hz
    rw [hz] at ev
    cases ev
    exact tV_of S0 e1 kk
  | none =>
  rw [hz] at ev
  dsimp only at ev
  obtain ⟨⟨b, s1⟩, e1, ev⟩ := obind ev
  obtain ⟨t1, e1⟩ := boolD_some e1
  cases ev
  exact tV_of S0 e1 fun v H1 G1 S1 E1 R1 N1 => kk v H1 G1 S1 E1 (by rw [(R1.top S1).bl]; exact .bl b) nofz
theorem key_and1Q {e : IE} {σ : L2.St} {H : Hp} {Q : Bool → Hp → Prop} (h : tQ (fun s => boolD (evalAnd (.cons e .nil) s)) σ H Q) : tQ (fun s => boolD (evalE e s)) σ H Q := by
  obtain ⟨pa, H0, G0, G, s, b2, s2, S0, ev, kk⟩ := h
  obtain ⟨t2, ev⟩ := boolD_some ev
  rw [evalAnd] at ev
  obtain ⟨⟨b, s1⟩, e1, ev⟩ := obind ev
  cases ev
  exact tQ_of S0 e1 kk
theorem key_or1Q {e : IE} {σ : L2.St} {H : Hp} {Q : Bool → Hp → Prop} (h : tQ (fun s => boolD (evalOr (.cons e .nil) s)) σ H Q) : tQ (fun s => boolD (evalE e s)) σ H Q := by
  obtain ⟨pa, H0, G0, G, s, b2, s2, S0, ev, kk⟩ := h
  obtain ⟨t2, ev⟩ := boolD_some ev
  rw [evalOr] at ev
  cases hz : tupR (evalE e s) with
  | some q => rw [hz] at ev; cases ev
  | none =>
  rw [hz] at ev
  dsimp only at ev
  obtain ⟨⟨b, s1⟩, e1, ev⟩ := obind ev
  cases ev
  exact tQ_of S0 e1 kk
end
end Fs

set_option Elab.async false
set_option linter.all false
set_option maxRecDepth 100000
set_option maxHeartbeats 4000000
namespace EnL
open PySem PySem.W PySem.Calls PyProof.Rows PyProof.V PySem.Spec

theorem no_len : typeLookup (.type "enumerate") "__len__" = pure none := am_miss_of_fast (by decide +kernel)
theorem no_hint : typeLookup (.type "enumerate") "__length_hint__" = pure none := am_miss_of_fast (by decide +kernel)
section
variable {prog : Program} {w : World} {A : Around} {E : Value → Shared → Prop} {s : Shared}
theorem hint {r : Addr} {Q : Bool → Shared → Prop} (hT : s.TypeIs (.ref r) "enumerate") (h : Q true s) : wpAny (model prog w) A (Builtin.List.listLengthHint (.ref r)) Q E s := by
  unfold Builtin.List.listLengthHint
  refine wpAny_bind (wpAny_specialOf hT no_len ?_)
  show wpAny _ _ (specialOf (.ref r) "__length_hint__" >>= _) Q E s
  refine wpAny_bind (wpAny_specialOf hT no_hint ?_)
  exact wpAny_pure h

theorem next_held {e it l T : Addr} {i : Nat} {items : Array Value} {x old : Value} {f : Bool} {oT : Obj} {Q : Value → Shared → Prop}
    (he : IsEnumHeld s.heap e it i old T f) (hT : s.heap.get? T = some oT) (hTe : T ≠ e) (hTi : T ≠ it) (hit : s.heap.IsTupleIter it l i) (hl : s.heap.IsTuple l items) (hx : items[i]? = some x) (hne : e ≠ it)
    (hQ : ∀ h', IsEnumHeld h' e it ((i : Int) + 1) old T true → h'.IsTupleIter it l (i + 1) →
      h'.get? s.heap.objs.size = some { cls := .type "tuple", data := .seq #[.int i s.toks, x] } → h'.objs.size = s.heap.objs.size + 1 →
      (∀ b o, b ≠ e → b ≠ it → s.heap.get? b = some o → h'.get? b = some o) → Q (.ref s.heap.objs.size) { s with heap := h', toks := s.toks + 1 }) :
    wpAny (model prog w) A (Builtin.«enumerate.__next__» ⟨[.ref e], []⟩) (fun fin s' => ∃ v, fin = .done (.ret v) ∧ Q v s') E s := by
  obtain ⟨hp, g, d, tk, os⟩ := s
  show wpAny _ _ (field (.ref e) 2 >>= _) _ _ _
  refine wpAny_bind (wpAny_field he rfl (x := .ref it) rfl ?_)
  refine wpAny_bind (wpAny_nextOf_tuple_item hit hl hx fun h₁ hit₁ hs₁ => ?_)
  replace hs₁ : Heap.SameBut it hp h₁ := hs₁
  have he₁ : IsEnumHeld h₁ e it i old T f := (hs₁.2 e hne).trans he
  show wpAny _ _ (field (.ref e) 3 >>= _) _ _ ⟨h₁, g, d, tk, os⟩
  refine wpAny_bind (wpAny_field he₁ rfl (x := rawInt i) rfl ?_)
  show wpAny _ _ (field (.ref e) 4 >>= _) _ _ ⟨h₁, g, d, tk, os⟩
  refine wpAny_bind (wpAny_field he₁ rfl (x := .none) rfl ?_)
  show wpAny _ _ (mkInt i >>= _) _ _ ⟨h₁, g, d, tk, os⟩
  refine wpAny_bind (wpAny_mkInt ?_)
  show wpAny _ _ (setField (.ref e) 3 (rawInt ((i : Int) + 1)) >>= _) _ _ ⟨h₁, g, d, tk + 1, os⟩
  refine wpAny_bind (wpAny_setField_rec he₁ (by simp) fun h₂ he₂ hs₂ => ?_)
  replace hs₂ : Heap.SameBut e h₁ h₂ := hs₂
  replace he₂ : IsEnumHeld h₂ e it ((i : Int) + 1) old T f := he₂
  show wpAny _ _ (setField (.ref e) 4 .none >>= _) _ _ ⟨h₂, g, d, tk + 1, os⟩
  refine wpAny_bind (wpAny_setField_rec he₂ (by simp) fun h₃ he₃ hs₃ => ?_)
  replace hs₃ : Heap.SameBut e h₂ h₃ := hs₃
  replace he₃ : IsEnumHeld h₃ e it ((i : Int) + 1) old T f := he₃
  show wpAny _ _ (newTuple [.int i tk, x] >>= _) _ _ ⟨h₃, g, d, tk + 1, os⟩
  refine wpAny_bind (wpAny_newTuple ?_)
  have he₄ : IsEnumHeld (h₃.push { cls := .type "tuple", data := .seq #[.int i tk, x] }) e it ((i : Int) + 1) old T f := Heap.get?_push_of_some _ he₃
  generalize hh₄ : h₃.push { cls := .type "tuple", data := .seq #[.int i tk, x] } = h₄ at he₄
  have hsz : h₃.objs.size = hp.objs.size := by rw [hs₃.1, hs₂.1, hs₁.1]
  have hel : e < hp.objs.size := Heap.lt_size he
  have ht₄ : h₄.get? hp.objs.size = some { cls := .type "tuple", data := .seq #[.int i tk, x] } := by rw [← hh₄, ← hsz]; exact Heap.get?_push_size _ rfl
  have hz₄ : h₄.objs.size = hp.objs.size + 1 := by rw [← hh₄, Heap.size_push, hsz]
  have hk₄ : ∀ b o, b ≠ e → b ≠ it → hp.get? b = some o → h₄.get? b = some o := fun b o hbe hbi hb => by
    rw [← hh₄]; exact Heap.get?_push_of_some _ (hs₃.extBut b o hbe (hs₂.extBut b o hbe (hs₁.extBut b o hbi hb)))
  have hit₄ : h₄.IsTupleIter it l (i + 1) := by
    rw [← hh₄]; obtain ⟨o, ho, r⟩ := (hit₁.extBut hs₂.extBut (Ne.symm hne)).extBut hs₃.extBut (Ne.symm hne); exact ⟨o, Heap.get?_push_of_some _ ho, r⟩
  show wpAny _ _ (Builtin.SmallTypes.ownedTupleIsFree (.ref e) >>= _) _ _ ⟨h₄, g, d, tk + 1, os⟩
  rw [hsz]
  clear hh₄ he₃ hs₃ he₂ hs₂ he₁ hs₁ hit₁ hsz h₃ h₂ h₁
  refine wpAny_bind (wpAny_tupleHeld_enum (s := ⟨h₄, g, d, tk + 1, os⟩) he₄ (hk₄ T oT hTe hTi hT) fun h₅ he₅ hs₅ => ?_)
  replace hs₅ : Heap.SameBut e h₄ h₅ := hs₅
  simp only [Bool.false_eq_true, if_false]
  refine wpAny_pure ⟨_, rfl, hQ h₅ he₅ (hit₄.extBut hs₅.extBut (Ne.symm hne)) (hs₅.extBut _ _ (Nat.ne_of_gt hel) ht₄) ?_ fun b o hbe hbi hb => hs₅.extBut b o hbe (hk₄ b o hbe hbi hb)⟩
  show h₅.objs.size = hp.objs.size + 1
  rw [hs₅.1, hz₄]
theorem py_next_held {e it l T : Addr} {i : Nat} {items : Array Value} {x old : Value} {f : Bool} {oT : Obj} {Q : Option Value → Shared → Prop}
    (he : IsEnumHeld s.heap e it i old T f) (hT : s.heap.get? T = some oT) (hTe : T ≠ e) (hTi : T ≠ it) (hit : s.heap.IsTupleIter it l i) (hl : s.heap.IsTuple l items) (hx : items[i]? = some x) (hne : e ≠ it)
    (hQ : ∀ h', IsEnumHeld h' e it ((i : Int) + 1) old T true → h'.IsTupleIter it l (i + 1) →
      h'.get? s.heap.objs.size = some { cls := .type "tuple", data := .seq #[.int i s.toks, x] } → h'.objs.size = s.heap.objs.size + 1 →
      (∀ b o, b ≠ e → b ≠ it → s.heap.get? b = some o → h'.get? b = some o) → Q (some (.ref s.heap.objs.size)) { s with heap := h', toks := s.toks + 1 }) :
    wpAny (model prog w) A (pyNext (.ref e)) Q E s := by
  have hTy : s.TypeIs (.ref e) "enumerate" := ⟨_, he, rfl⟩
  unfold pyNext
  exact wpAny_bind (wpAny_attempt (wpAny_callSpecial?_slot (name := Str.ofString "__next__") hTy F.slot_enumerate_next
    (wpAny_call_entry F.slot_enumerate_next hTy F.entry_enumerate_next
      (next_held he hT hTe hTi hit hl hx hne fun h' a1 a2 a3 a4 a5 => wpAny_pure (hQ h' a1 a2 a3 a4 a5)) (F.args_enumerate_next_1 _))))
theorem py_end_held {e it l T : Addr} {i : Nat} {items : Array Value} {old : Value} {f : Bool} {Q : Option Value → Shared → Prop} (hh : A.handled = none)
    (he : IsEnumHeld s.heap e it i old T f) (hit : s.heap.IsTupleIter it l i) (hl : s.heap.IsTuple l items) (hx : items[i]? = none)
    (hQ : ∀ h', Heap.ExtBut it s.heap h' → Q none { s with heap := h' }) : wpAny (model prog w) A (pyNext (.ref e)) Q E s := by
  have hTy : s.TypeIs (.ref e) "enumerate" := ⟨_, he, rfl⟩
  have hd1 : A.in1.handled = none := hh
  unfold pyNext
  refine wpAny_bind (wpAny_attempt (wpAny_callSpecial?_slot (name := Str.ofString "__next__") hTy F.slot_enumerate_next ?_))
  refine wpAny_call_entry F.slot_enumerate_next hTy F.entry_enumerate_next ?_ (F.args_enumerate_next_1 _)
  show wpAny _ _ (field (.ref e) 2 >>= _) _ _ _
  refine wpAny_bind (wpAny_field he rfl (x := .ref it) rfl ?_)
  refine wpAny_bind (wpAny_nextOf_tuple_end hd1 hit hl hx fun h' x he' hx' => ?_)
  obtain ⟨o, ho, hc⟩ := hx'
  exact wpAny_bind (wpAny_isInstance (T := "StopIteration") (b := true) ⟨o, ho, hc⟩ isSubtype_stop (wpAny_pure (hQ _ he')))

/-- the walk of the enumerate e (its iterator it over the tuple l) at i, beside the list S -/
def St (h : Heap) (e it l S : Addr) (i : Nat) (items : Array Value) : Prop :=
  h.IsTupleIter it l i ∧ h.IsTuple l items ∧ ((∃ old, IsEnum h e it ((i : Nat) : Int) old) ∨ ∃ old T f oT, IsEnumHeld h e it i old T f ∧ h.get? T = some oT ∧ T ≠ e ∧ T ≠ it ∧ T ≠ S)
theorem St.keep {h h' : Heap} {e it l S : Addr} {i : Nat} {items : Array Value} (x : St h e it l S i items) (k : ∀ b o, b ≠ S → h.get? b = some o → h'.get? b = some o) (n1 : e ≠ S) (n2 : it ≠ S) (n3 : l ≠ S) : St h' e it l S i items := by
  obtain ⟨a, b, c⟩ := x
  refine ⟨a.at fun o q => k it o n2 q, (let ⟨o, ho, r⟩ := b; ⟨o, k l o n3 ho, r⟩), ?_⟩
  rcases c with ⟨old, q⟩ | ⟨old, T, f, oT, q, hT, r1, r2, r3⟩
  · exact .inl ⟨old, k e _ n1 q⟩
  · exact .inr ⟨old, T, f, oT, k e _ n1 q, k T _ r3 hT, r1, r2, r3⟩
theorem nxt {e it l S : Addr} {i : Nat} {items : Array Value} {Q : Option Value → Shared → Prop} (st : St s.heap e it l S i items) (hS : S < s.heap.objs.size) (hd : A.in1.handled = none) (n1 : e ≠ it) (n2 : l ≠ e) (n3 : l ≠ it) (hi : i < items.size)
    (hQ : ∀ h' t tk, St h' e it l S (i + 1) items → h'.get? s.heap.objs.size = some { cls := .type "tuple", data := .seq #[.int i t, items[i]] } → h'.objs.size = s.heap.objs.size + 1 →
      (∀ b o, b ≠ e → b ≠ it → s.heap.get? b = some o → h'.get? b = some o) → Q (some (.ref s.heap.objs.size)) { s with heap := h', toks := tk }) :
    wpAny (model prog w) A (pyNext (.ref e)) Q E s := by
  obtain ⟨hit, hl, c⟩ := st
  have ex : items[i]? = some items[i] := Array.getElem?_eq_getElem hi
  have ec : ((i + 1 : Nat) : Int) = (i : Int) + 1 := by omega
  have lit : it < s.heap.objs.size := let ⟨_, x, _⟩ := hit; Heap.lt_size x
  rcases c with ⟨old, en⟩ | ⟨old, T, f, oT, en, hT, r1, r2, r3⟩
  · have dr := Draws.tuple (prog := prog) (w := w) hd it l n3 items
    refine wpAny_pyNext_enum_itemD dr en ⟨hit, hl⟩ hi n1 (by simp only [List.mem_cons, List.not_mem_nil, or_false, not_or]; exact ⟨n1, Ne.symm n2⟩) fun y h' tk hy ho st' hT hsz hk => ?_
    have ey : y = items[i] := by
      have e1 : items[i]? = some y := by simpa using hy
      rw [ex] at e1; exact (Option.some.inj e1).symm
    subst ey
    exact hQ h' tk (tk + 1) ⟨st'.1, st'.2, .inr ⟨_, _, false, _, (by rw [ec]; exact ho), hT, Nat.ne_of_gt (Heap.lt_size en), Nat.ne_of_gt lit, Nat.ne_of_gt hS⟩⟩ hT hsz hk
  · refine py_next_held en hT r1 r2 hit hl ex n1 fun h' ho hit' hT' hsz hk => ?_
    exact hQ h' s.toks (s.toks + 1) ⟨hit', (let ⟨o, z, r⟩ := hl; ⟨o, hk l o n2 n3 z, r⟩), .inr ⟨old, T, true, oT, (by rw [ec]; exact ho), hk _ _ r1 r2 hT, r1, r2, r3⟩⟩ hT' hsz hk
theorem fin {e it l S : Addr} {i : Nat} {items : Array Value} {Q : Option Value → Shared → Prop} (hh : A.handled = none) (st : St s.heap e it l S i items) (hi : items.size ≤ i)
    (hQ : ∀ h', Heap.ExtBut it s.heap h' → Q none { s with heap := h' }) : wpAny (model prog w) A (pyNext (.ref e)) Q E s := by
  obtain ⟨hit, hl, c⟩ := st
  have ex : items[i]? = none := Array.getElem?_eq_none hi
  rcases c with ⟨old, en⟩ | ⟨old, T, f, oT, en, hT, r1, r2, r3⟩
  · exact Fs.enum_tup_end hh en hit hl ex hQ
  · exact py_end_held hh en hit hl ex hQ
end

structure Made (items : Array Value) (lo : Addr) (h : Heap) (as : List Addr) : Prop where
  rise : as.Pairwise (· < ·)
  above : ∀ a ∈ as, lo < a
  pairs : ∀ (j : Nat) (a : Addr), as[j]? = some a → ∃ x t, items[j]? = some x ∧ h.get? a = some { cls := .type "tuple", data := .seq #[.int j t, x] }
theorem Made.there {items : Array Value} {lo : Addr} {h : Heap} {as : List Addr} (g : Made items lo h as) {a : Addr} (ha : a ∈ as) : a < h.objs.size := by
  obtain ⟨j, hj⟩ := List.mem_iff_getElem?.mp ha
  obtain ⟨_, _, _, e⟩ := g.pairs j a hj
  exact Heap.lt_size e
end EnL

set_option Elab.async false
set_option linter.all false
set_option maxRecDepth 100000
set_option maxHeartbeats 4000000
namespace EnL
open PySem PySem.W PySem.Calls PyProof.Rows PyProof.V PySem.Spec
section
variable {prog : Program} {w : World} {A : Around} {s : Shared} {R : Result → Shared → Prop} {items : Array Value} {e it l S : Addr}
theorem loop (hh : A.handled = none) (hSe : e < S) (hSi : it < S) (hSl : l < S) (n1 : e ≠ it) (n2 : l ≠ e) (n3 : l ≠ it) (hn : items.size ≤ sizeLine) (res : Value) {h₁ : Heap}
    (hR : ∀ h' tk acc c as, (∀ b o, b ≠ S → b ≠ e → b ≠ it → h₁.get? b = some o → h'.get? b = some o) → h'.get? S = some { cls := .type "list", dict := none, data := .seq acc c, slots := #[] } → as.length = items.size → Made items S h' as →
      acc.toList = as.map Value.ref → R (.ok (.ret res)) { s with heap := h', toks := tk }) :
    ∀ (k i : Nat) (h : Heap) (tk c : Nat) (acc : Array Value) (as : List Addr), items.size - i = k → i ≤ items.size → St h e it l S i items → (∀ b o, b ≠ S → b ≠ e → b ≠ it → h₁.get? b = some o → h.get? b = some o) →
      h.get? S = some { cls := .type "list", dict := none, data := .seq acc c, slots := #[] } → acc.toList = as.map Value.ref → as.length = i → Made items S h as →
      codeAny (model prog w) A (.builtin "list.extend.loop" ⟨[.ref S, .ref e, res], []⟩) R { s with heap := h, toks := tk } := by
  intro k
  induction k with
  | zero =>
    intro i h tk c acc as hk hi hst hkeep hS hacc hal hG
    refine codeAny_builtin PySem.F.entry_extend_loop ?_
    rw [Around.under_plainId PySem.F.plain_extend_loop _]
    show wpAny _ A.in1 (pyNext (.ref e) >>= _) _ _ _
    refine wpAny_bind (fin (s := { s with heap := h, toks := tk }) (A := A.in1) hh hst (by omega) fun h' he => ?_)
    refine wpAny_pure (hR h' tk acc c as (fun b o z1 z2 z3 q => he b o z3 (hkeep b o z1 z2 z3 q)) (he S _ (Nat.ne_of_gt hSi) hS) (by omega) ⟨hG.rise, hG.above, fun j a hj => ?_⟩ hacc)
    obtain ⟨x, t, e1, e3⟩ := hG.pairs j a hj
    exact ⟨x, t, e1, he a _ (Nat.ne_of_gt (Nat.lt_trans hSi (hG.above a (List.mem_of_getElem? hj)))) e3⟩
  | succ k ih =>
    intro i h tk c acc as hk hi hst hkeep hS hacc hal hG
    have hlt : i < items.size := by omega
    have hsz : acc.size = i := by rw [← Array.length_toList, hacc, List.length_map, hal]
    refine codeAny_builtin PySem.F.entry_extend_loop ?_
    rw [Around.under_plainId PySem.F.plain_extend_loop _]
    show wpAny _ A.in1 (pyNext (.ref e) >>= _) _ _ _
    refine wpAny_bind (nxt (s := { s with heap := h, toks := tk }) (S := S) hst (Heap.lt_size hS) hh n1 n2 n3 hlt fun h' t tk2 hst' ht hz hkp => ?_)
    dsimp only at ht hz hkp ⊢
    have hS' := hkp S _ (Nat.ne_of_gt hSe) (Nat.ne_of_gt hSi) hS
    have up : ∀ b o, b ≠ S → h'.get? b = some o → (h'.update S (Obj.mapSeq (·.push (Value.ref h.objs.size)))).get? b = some o := fun b o hb q => (Heap.get?_update_other _ _ (Ne.symm hb)).trans q
    have hSl2 : S < h.objs.size := Heap.lt_size hS
    show wpAny _ A.in1 (updateSeq S (·.push (Value.ref h.objs.size)) >>= _) _ _ _
    refine wpAny_bind ?_
    refine wpAny_updateSeq hS' rfl (wpAny_pure ⟨plainId_quiet PySem.F.plain_extend_loop _, ih (i + 1) _ tk2 _ (acc.push (Value.ref h.objs.size)) (as ++ [h.objs.size]) (by omega) hlt (hst'.keep up (Nat.ne_of_lt hSe) (Nat.ne_of_lt hSi) (Nat.ne_of_lt hSl))
      (fun b o z1 z2 z3 q => up b o z1 (hkp b o z2 z3 (hkeep b o z1 z2 z3 q))) (Heap.get?_update_self _ hS' rfl) (by rw [Array.toList_push, hacc, List.map_append]; rfl) (by rw [List.length_append, hal]; rfl) ⟨?_, ?_, ?_⟩⟩) (by rw [hsz]; omega) (by show (acc.push (Value.ref h.objs.size)).size ≤ sizeLine + 1; rw [Array.size_push, hsz]; omega)
    · refine List.pairwise_append.mpr ⟨hG.rise, List.pairwise_singleton _ _, fun a ha b hb => ?_⟩
      rw [List.mem_singleton.mp hb]
      exact hG.there ha
    · intro a ha
      rcases List.mem_append.mp ha with ha | ha
      · exact hG.above a ha
      · rw [List.mem_singleton.mp ha]; exact hSl2
    · intro j b hj
      rcases Nat.lt_trichotomy j as.length with z | z | z
      · rw [List.getElem?_append_left z] at hj
        obtain ⟨x, t', e1, e3⟩ := hG.pairs j b hj
        have hb := hG.above b (List.mem_of_getElem? hj)
        exact ⟨x, t', e1, up b _ (Nat.ne_of_gt hb) (hkp b _ (Nat.ne_of_gt (Nat.lt_trans hSe hb)) (Nat.ne_of_gt (Nat.lt_trans hSi hb)) e3)⟩
      · subst z
        have hb : h.objs.size = b := by simpa using hj
        subst hb
        exact ⟨items[as.length]'(by rw [hal]; exact hlt), t, Array.getElem?_eq_getElem _, up _ _ (Nat.ne_of_gt hSl2) (by subst hal; exact ht)⟩
      · have hnone : (as ++ [h.objs.size])[j]? = none := List.getElem?_eq_none (by rw [List.length_append, List.length_singleton]; omega)
        rw [hnone] at hj; cases hj
theorem ext (hh : A.handled = none) {old : Value} (en : IsEnum s.heap e it 0 old) (hit : s.heap.IsTupleIter it l 0) (hl : s.heap.IsTuple l items) (n1 : e ≠ it) (n2 : l ≠ e) (n3 : l ≠ it) (hSe : e < S) (hSi : it < S) (hSl : l < S) (res : Value) (c₀ : Nat)
    (hS : s.heap.get? S = some { cls := .type "list", data := .seq #[] c₀ }) (hn : items.size ≤ sizeLine)
    (hR : ∀ h' tk acc c as, (∀ b o, b ≠ S → b ≠ e → b ≠ it → s.heap.get? b = some o → h'.get? b = some o) → h'.get? S = some { cls := .type "list", dict := none, data := .seq acc c, slots := #[] } → as.length = items.size → Made items S h' as →
      acc.toList = as.map Value.ref → R (.ok (.ret res)) { s with heap := h', toks := tk }) :
    wpAny (model prog w) A.in1 (Builtin.List.listExtendWith (.ref S) (.ref e) res)
      (fun fin s' => match fin with | .done f => R (.ok f) s' | .again c' => c'.quiet = true ∧ codeAny (model prog w) A c' R s') (fun e s' => R (.error e) s') s := by
  have st0 : St s.heap e it l S 0 items := ⟨hit, hl, .inl ⟨old, en⟩⟩
  have key : ∀ (h : Heap) (c₁ tk : Nat), (∀ b o, b ≠ S → s.heap.get? b = some o → h.get? b = some o) →
      h.get? S = some { cls := .type "list", data := .seq #[] c₁ } → codeAny (model prog w) A (.builtin "list.extend.loop" ⟨[.ref S, .ref e, res], []⟩) R { s with heap := h, toks := tk } := by
    intro h c₁ tk hk hS₁
    exact loop (h₁ := s.heap) hh hSe hSi hSl n1 n2 n3 hn res hR items.size 0 h tk c₁ #[] [] (Nat.sub_zero _) (Nat.zero_le _) (st0.keep hk (Nat.ne_of_lt hSe) (Nat.ne_of_lt hSi) (Nat.ne_of_lt hSl)) (fun b o z1 _ _ q => hk b o z1 q) hS₁ rfl rfl
      ⟨List.Pairwise.nil, (fun _ ha => nomatch ha), (fun j a hj => by simp at hj)⟩
  have hT : s.TypeIs (.ref e) "enumerate" := ⟨_, en, rfl⟩
  unfold Builtin.List.listExtendWith
  refine wpAny_bind (wpAny_typeOf (T := "enumerate") hT ?_)
  have z1 : Builtin.List.listSameRef (.ref S) (.ref e) = false := by simp [Builtin.List.listSameRef, Nat.ne_of_gt hSe]
  have z2 : (Value.type "enumerate" == Value.type "list") = false := by decide
  have z3 : (Value.type "enumerate" == Value.type "tuple") = false := by decide
  simp only [z1, z2, z3, Bool.or_false, Bool.false_eq_true, if_false]
  refine wpAny_bind (wpAny_pyIter_enum en ?_)
  refine wpAny_bind (wpAny_holding (hint hT ?_))
  refine wpAny_ite_split (fun _ => ?_) (fun _ => wpAny_pure ⟨plainId_quiet PySem.F.plain_extend_loop _, key _ c₀ _ (fun b o _ q => q) hS⟩)
  refine wpAny_bind (wpAny_rule ?_)
  refine wpAny_bind ?_
  show wpAny _ _ (updateSeq S (·.push .none) >>= fun _ => updateSeq S (·.pop)) _ _ _
  refine wpAny_bind (wpAny_updateSeq hS rfl ?_)
  have hS₂ := Heap.get?_update_self (Obj.mapSeq (·.push Value.none)) hS rfl
  refine wpAny_updateSeq (hz := by seq_fits) hS₂ rfl ?_
  have hS₃ := Heap.get?_update_self (Obj.mapSeq (·.pop)) hS₂ rfl
  refine wpAny_pure ⟨plainId_quiet PySem.F.plain_extend_loop _, key _ _ _ (fun b o hb q => ?_) hS₃⟩
  exact (Heap.get?_update_other _ _ (Ne.symm hb)).trans ((Heap.get?_update_other _ _ (Ne.symm hb)).trans q)
theorem init (hh : A.handled = none) {old : Value} (en : IsEnum s.heap e it 0 old) (hit : s.heap.IsTupleIter it l 0) (hl : s.heap.IsTuple l items) (n1 : e ≠ it) (n2 : l ≠ e) (n3 : l ≠ it) (hSe : e < S) (hSi : it < S) (hSl : l < S)
    (hS : s.heap.get? S = some { cls := .type "list", data := .seq #[] }) (hn : items.size ≤ sizeLine)
    (hR : ∀ h' tk acc c as, (∀ b o, b ≠ S → b ≠ e → b ≠ it → s.heap.get? b = some o → h'.get? b = some o) → h'.get? S = some { cls := .type "list", dict := none, data := .seq acc c, slots := #[] } → as.length = items.size → Made items S h' as →
      acc.toList = as.map Value.ref → R (.ok (.ret .none)) { s with heap := h', toks := tk }) :
    wpAny (model prog w) A.in1 (Builtin.«list.__init__» ⟨[.ref S, .ref e], []⟩)
      (fun fin s' => match fin with | .done f => R (.ok f) s' | .again c' => c'.quiet = true ∧ codeAny (model prog w) A c' R s') (fun e s' => R (.error e) s') s := by
  show wpAny _ _ (do let old ← Builtin.List.listItems (.ref S); Builtin.List.listUpdate (.ref S) (fun _ => #[]); letGo old.toList.reverse; Builtin.List.listExtendWith (.ref S) (.ref e) .none) _ _ s
  refine wpAny_bind ?_
  unfold Builtin.List.listItems
  refine wpAny_bind (wpAny_seqItems hS rfl (wpAny_pure ?_))
  show wpAny _ _ (updateSeq S (fun _ => #[]) >>= fun _ => letGo (#[] : Array Value).toList.reverse >>= fun _ => Builtin.List.listExtendWith (.ref S) (.ref e) .none) _ _ s
  refine wpAny_bind (wpAny_updateSeq hS rfl ?_)
  have hS₂ := Heap.get?_update_self (Obj.mapSeq (fun _ => (#[] : Array Value))) hS rfl
  have oth : ∀ b o, b ≠ S → s.heap.get? b = some o → (s.heap.update S (Obj.mapSeq (fun _ => (#[] : Array Value)))).get? b = some o :=
    fun b o hb q => (Heap.get?_update_other _ _ (Ne.symm hb)).trans q
  refine wpAny_bind (wpAny_letGo ?_)
  refine ext hh (oth e _ (Nat.ne_of_lt hSe) en) (hit.at fun o q => oth it o (Nat.ne_of_lt hSi) q) (let ⟨o, z, r⟩ := hl; ⟨o, oth l o (Nat.ne_of_lt hSl) z, r⟩) n1 n2 n3 hSe hSi hSl .none _ hS₂ hn fun h' tk acc c as hk hS' hal hG hacc => ?_
  exact hR h' tk acc c as (fun b o z1 z2 z3 q => hk b o z1 z2 z3 (oth b o z1 q)) hS' hal hG hacc
theorem callL {E : Value → Shared → Prop} {Q : Value → Shared → Prop} (hh : A.handled = none) {old : Value} (en : IsEnum s.heap e it 0 old) (hit : s.heap.IsTupleIter it l 0) (hl : s.heap.IsTuple l items) (n1 : e ≠ it) (n2 : l ≠ e) (n3 : l ≠ it) (hn : items.size ≤ sizeLine)
    (hQ : ∀ h' tk acc c as, (∀ b o, b ≠ e → b ≠ it → s.heap.get? b = some o → h'.get? b = some o) → h'.get? s.heap.objs.size = some { cls := .type "list", dict := none, data := .seq acc c, slots := #[] } → as.length = items.size → Made items s.heap.objs.size h' as →
      acc.toList = as.map Value.ref → Q (.ref s.heap.objs.size) { s with heap := h', toks := tk }) :
    wpAny (model prog w) A (call (.type "list") [.ref e]) Q E s := by
  have le : e < s.heap.objs.size := Heap.lt_size en
  have li : it < s.heap.objs.size := let ⟨_, x, _⟩ := hit; Heap.lt_size x
  have ll : l < s.heap.objs.size := let ⟨_, x, _⟩ := hl; Heap.lt_size x
  refine callType_codes (Q₁ := fun obj s₁ => obj = .ref s.heap.objs.size ∧ s₁ = { s with heap := s.heap.push { cls := .type "list", data := .seq #[] } }) PySem.F.called_list (PySem.F.typeCall_list_1 _) PySem.F.entry_list_init
    (code_list_new _ ⟨rfl, rfl⟩) fun obj s₁ h₁ => ?_
  obtain ⟨rfl, rfl⟩ := h₁
  have hS : (s.heap.push { cls := .type "list", data := .seq #[] }).get? s.heap.objs.size = some { cls := .type "list", data := .seq #[] } := Heap.get?_push_size _ rfl
  have up : ∀ b o, s.heap.get? b = some o → (s.heap.push { cls := .type "list", data := .seq #[] }).get? b = some o := fun b o q => Heap.get?_push_of_some _ q
  refine ⟨⟨_, hS, rfl⟩, PySem.F.args_list_init_2 _ _, init (A := A.in1) hh (up _ _ en) (hit.at fun o q => up _ o q) (let ⟨o, z, r⟩ := hl; ⟨o, up l o z, r⟩) n1 n2 n3 le li ll hS hn fun h' tk acc c as hk hS' hal hG hacc => ?_⟩
  exact ⟨rfl, hQ h' tk acc c as (fun b o z2 z3 q => hk b o (Nat.ne_of_lt (Heap.lt_size q)) z2 z3 (up b o q)) hS' hal hG hacc⟩
end
end EnL

set_option Elab.async false
set_option linter.all false
set_option maxRecDepth 100000
set_option maxHeartbeats 4000000
namespace Fs
open PySem PySem.Spec PyProof.Rows L2

/-- new pairs at as: (j, the j-th of xs) -/
structure NewPs (H1 H2 : Hp) (p : Addr) (as : List Addr) (xs : List V) : Prop where
  nd : as.Nodup
  np : p ∉ as
  len : as.length = xs.length
  hp : H1 p = none
  sub : Sub H1 H2
  lst : H2 p = some (.lst (as.map V.ref))
  at_ : ∀ (j : Nat) (b : Addr), as[j]? = some b → H1 b = none ∧ ∃ x, xs[j]? = some x ∧ TupAt H2 b [.int (j : Nat), x]
def tLenm (K : PySem.W.Frag) (t : TE) : TE := fun σ H Q => t σ H fun v H1 => ∃ a xs, v = .ref a ∧ SqT K H1 a xs ∧ ∀ p as H2, NewPs H1 H2 p as xs → Q (.ref p) H2

theorem takeFs {X : Cx} {pins : List (Addr × Obj)} {σ : L2.St} {H0 : Hp} {s : Shared} {h' : Heap} {tk : Nat} (I0 : Inv X pins σ H0 s) : ∀ (L : List (Addr × List V)) (H1 : Hp), Inv X pins σ H1 { s with heap := h', toks := tk } → (L.map (·.1)).Nodup →
    (∀ q ∈ L, s.heap.objs.size ≤ q.1 ∧ H1 q.1 = none ∧ ∃ o : Obj, o.dict = none ∧ ∀ H2, ObjOk X.prog X.w H2 h' q.1 (.frz o (.tup q.2))) →
    ∃ H2, Inv X pins σ H2 { s with heap := h', toks := tk } ∧ Sub H1 H2 ∧ (∀ q ∈ L, TupAt H2 q.1 q.2) ∧ ∀ b, b ∉ L.map (·.1) → H2 b = H1 b
  | [], H1, I1, _, _ => ⟨H1, I1, .refl, fun _ h => (nomatch h), fun _ _ => rfl⟩
  | q :: L, H1, I1, hn, h => by
    obtain ⟨hb, hnone, o, ho, ok⟩ := h q (List.mem_cons_self ..)
    have I2 : Inv X pins σ (upd H1 q.1 (.frz o (.tup q.2))) { s with heap := h', toks := tk } := I1.take (h' := h') (t' := tk) (fun b ob _ e => e) (I0.fpOk hb hnone) (ok _)
    rw [List.map_cons, List.nodup_cons] at hn
    obtain ⟨H2, I3, g, tt, ot⟩ := takeFs I0 L (upd H1 q.1 (.frz o (.tup q.2))) I2 hn.2 fun c hc => by
      obtain ⟨c1, c2, c3⟩ := h c (List.mem_cons_of_mem _ hc)
      exact ⟨c1, by rw [upd_ne (fun z => hn.1 (by rw [← z]; exact List.mem_map_of_mem hc))]; exact c2, c3⟩
    refine ⟨H2, I3, (Sub.upd hnone).trans g, fun c hc => ?_, fun b hb2 => ?_⟩
    · rcases List.mem_cons.mp hc with rfl | hc
      · exact ⟨o, g _ _ upd_same, ho⟩
      · exact tt c hc
    · rw [List.map_cons, List.mem_cons, not_or] at hb2
      rw [ot b hb2.2, upd_ne hb2.1]

theorem zip_fst : ∀ {α β : Type} (as : List α) (bs : List β), as.length = bs.length → (as.zip bs).map (·.1) = as
  | _, _, [], _, _ => rfl
  | _, _, a :: as, [], h => by simp at h
  | _, _, a :: as, b :: bs, h => by
    rw [List.zip_cons_cons, List.map_cons, zip_fst as bs (by simpa using h)]
section
variable {X : Cx}
theorem pe_lenm {e : Expr} {te : TE} {p p2 q pos : Pos} (calm : X.calm = true) (hg : Gl X "list") (hm : X.mg "list" = none) (hg2 : Gl X "enumerate") (hm2 : X.mg "enumerate" = none) (he : PE X e te)
    (hs : starEach [e] X.env = (false, eval e X.env) :: starEach [] X.env) : PE X (.Call (.Name "list" p) [.Call (.Name "enumerate" p2) [e] [] q] [] pos) (tLenm X.K te) := by
  refine ⟨fun ps0 s σ H Q I h => ?_⟩
  refine Call_ (ld_blt I hg hm boot_list (PyProof.Rows.callWith_type1 (Calls.spliced_cons ?_) (by rfl) (by rfl)))
  refine Call_ (ld_blt I hg2 hm2 boot_enumerate (PyProof.Rows.callWith_type1 (thn ((pa_cons he pa_nil hs).run q ps0 s σ H (fun vs H1 => match vs with
    | [v] => ∃ a xs, v = .ref a ∧ SqT X.K H1 a xs ∧ ∀ p as H2, NewPs H1 H2 p as xs → Q (.ref p) H2
    | _ => False) I h) fun us s1 ⟨vs, H1, I1, r1, q1⟩ => ?_) hs rfl))
  obtain ⟨v, rfl, a, xs, rfl, hT, q1⟩ : ∃ v, vs = [v] ∧ ∃ a xs, v = .ref a ∧ SqT X.K H1 a xs ∧ ∀ p as H2, NewPs H1 H2 p as xs → Q (.ref p) H2 := by
    match vs, q1 with
    | [v], z => exact ⟨v, rfl, z⟩
    | [], z => exact z.elim
    | _ :: _ :: _, z => exact z.elim
  obtain rfl : us = [.ref a] := r1.ref1
  obtain ⟨its, rv, p', hz⟩ := I1.tuple hT
  have la : a < s1.heap.objs.size := by obtain ⟨o, z, _⟩ := id p'; exact Heap.lt_size z
  have isT : s1.heap.IsTuple a its.toArray := p'
  have lx := rv.length
  refine call_enum_tup isT fun h1 en hit hk1 => ?_
  have I2 : Inv X ps0 σ H1 { s1 with heap := h1 } := I1.kept (t' := s1.toks) hk1
  have z1 : s1.heap.objs.size + 1 < h1.objs.size := Heap.lt_size en
  refine Calls.spliced_nil ?_
  refine EnL.callL (s := { s1 with heap := h1 }) (I.ok.hd calm) en hit (let ⟨o, z, r⟩ := isT; ⟨o, hk1 a o z, r⟩) (Nat.succ_ne_self _) (Nat.ne_of_lt (Nat.lt_succ_of_lt la)) (Nat.ne_of_lt la) (by rw [List.size_toArray, ← lx]; exact hz) fun h2 tk acc c as hk hS hal hG hacc => ?_
  have fresh2 : ∀ b, b ∈ [s1.heap.objs.size + 1, s1.heap.objs.size] → FpOk X ps0 H1 b := fun b hb => by
    have le : s1.heap.objs.size ≤ b := by
      rcases (show b = s1.heap.objs.size + 1 ∨ b = s1.heap.objs.size by simpa using hb) with z | z <;> omega
    exact I1.fpOk le (I1.hok.fresh le)
  have I3 : Inv X ps0 σ H1 { s1 with heap := h2, toks := tk } := L2.Inv.turnedL (s := { s1 with heap := h1 }) (h' := h2) (t' := tk) I2 (ch := [s1.heap.objs.size + 1, s1.heap.objs.size]) (fun b o hb e => hk b o (fun z => hb (by simp [z])) (fun z => hb (by simp [z])) e) fresh2
  have fr : ∀ b, s1.heap.objs.size ≤ b → H1 b = none := fun b hb => I1.hok.fresh hb
  have I4 : Inv X ps0 σ (upd H1 h1.objs.size (.lst (as.map V.ref))) { s1 with heap := h2, toks := tk } := by
    refine I3.take (h' := h2) (t' := tk) (fun b ob _ e => e) (I1.fpOk (by omega) (fr _ (by omega))) ⟨?_, acc.toList, c, ?_, ?_⟩
    · rw [List.length_map, hal, List.size_toArray, ← lx]; exact hz
    · rw [hacc]; exact vals_refs as
    · rw [Array.toArray_toList]; exact hS
  have nd : as.Nodup := List.Pairwise.imp (fun h => Nat.ne_of_lt h) hG.rise
  have lal : as.length = xs.length := by rw [hal, List.size_toArray, lx]
  have zl : as.length = (xs.zipIdx.map fun q => [V.int (q.2 : Nat), q.1]).length := by simp [lal]
  have np : h1.objs.size ∉ as := fun hm => Nat.lt_irrefl _ (hG.above _ hm)
  obtain ⟨H2, I5, sb, tt, ot⟩ := takeFs I1 (as.zip (xs.zipIdx.map fun q => [V.int (q.2 : Nat), q.1])) (upd H1 h1.objs.size (.lst (as.map V.ref))) I4 (by rw [zip_fst _ _ zl]; exact nd) fun c hc => by
    obtain ⟨j, hj⟩ := List.mem_iff_getElem?.mp hc
    rw [List.getElem?_zip_eq_some] at hj
    obtain ⟨j1, j2⟩ := hj
    obtain ⟨x, t, e1, e2⟩ := hG.pairs j c.1 j1
    rw [List.getElem?_map, List.getElem?_zipIdx] at j2
    obtain ⟨y, ey, rxy⟩ : ∃ y, xs[j]? = some y ∧ c.2 = [V.int (j : Nat), y] := by
      cases hx : xs[j]? with
      | none => rw [hx] at j2; cases j2
      | some y => rw [hx] at j2; exact ⟨y, rfl, by simpa using j2.symm⟩
    obtain ⟨u, hu, ru⟩ := rv.get ey
    have eu : x = u := by
      rw [List.getElem?_toArray] at e1
      rw [hu] at e1; exact (Option.some.inj e1).symm
    subst eu
    have above : h1.objs.size < c.1 := hG.above c.1 (List.mem_of_getElem? j1)
    refine ⟨by omega, ?_, _, rfl, fun H2 => ⟨e2, by rw [rxy]; show 2 ≤ sizeLine; decide, [.int j t, x], by rw [rxy]; exact .cons ⟨_, rfl⟩ (.cons ru .nil), ⟨_, e2, rfl, _, rfl⟩⟩⟩
    rw [upd_ne (Nat.ne_of_gt above)]
    exact fr _ (by omega)
  refine ⟨.ref h1.objs.size, H2, I5, rfl, q1 _ as H2 ⟨nd, np, lal, fr _ (by omega), (Sub.upd (fr _ (by omega))).trans sb, sb _ _ upd_same, fun j b hj => ?_⟩⟩
  have above : h1.objs.size < b := hG.above b (List.mem_of_getElem? hj)
  have hj2 : j < xs.length := by rw [← lal]; exact (List.getElem?_eq_some_iff.mp hj).1
  refine ⟨fr _ (by omega), xs[j], List.getElem?_eq_getElem hj2, ?_⟩
  refine tt (b, [V.int (j : Nat), xs[j]]) (List.mem_of_getElem? (i := j) ?_)
  rw [List.getElem?_zip_eq_some]
  exact ⟨hj, by rw [List.getElem?_map, List.getElem?_zipIdx, List.getElem?_eq_getElem hj2]; simp⟩
end
end Fs

set_option Elab.async false
set_option linter.all false
set_option maxRecDepth 100000
set_option maxHeartbeats 4000000
namespace Fs
open PySem L2
section
variable {σ : L2.St} {H : Hp} {Q : VK}
theorem key_bin {op : Operator} {a b : IE} (h : tI (.bin op a b) σ H Q) : tOp (rD2 op) (tI a) (tI b) σ H Q := by
  obtain ⟨pa, H0, G0, G, s, d, t, s3, S0, e, kk⟩ := h
  rw [evalE] at e
  obtain ⟨⟨⟨d1, t1⟩, s1⟩, e1, e⟩ := obind e
  obtain ⟨⟨⟨d2, t2⟩, s2⟩, e2, e⟩ := obind e
  obtain ⟨⟨d3, fr⟩, e3, e⟩ := obind e
  cases e
  exact two S0 e1 e2 fun v w H2 G2 S2 E2 R1 N1 R2 N2 => ⟨pa, G2, d1, d2, _, fr, S2.sub, R1.top S2, R2.top S2, e3, fin S2 E2 kk⟩
theorem key_cmp {op : CmpOp} {a b : IE} (h : tI (.cmp op a b) σ H Q) : tOp (rC2 op) (tI a) (tI b) σ H Q := by
  obtain ⟨pa, H0, G0, G, s, d, t, s3, S0, e, kk⟩ := h
  rw [evalE] at e
  obtain ⟨⟨⟨d1, t1⟩, s1⟩, e1, e⟩ := obind e
  obtain ⟨⟨⟨d2, t2⟩, s2⟩, e2, e⟩ := obind e
  obtain ⟨c, e3, e⟩ := obind e
  cases e
  exact two S0 e1 e2 fun v w H2 G2 S2 E2 R1 N1 R2 N2 => ⟨pa, G2, d1, d2, c, S2.sub, R1.top S2, R2.top S2, e3, kk _ H2 G2 S2 E2 (.bl c) nofz⟩
theorem key_cmp2 {o p : CmpOp} {a b c : IE} (h : tI (.cmp2 o p a b c) σ H Q) : tChain (rC2 o) (rC2 p) (tI a) (tI b) (tI c) σ H Q := by
  obtain ⟨pa, H0, G0, G, s, d, t, s3, S0, e, kk⟩ := h
  rw [evalE] at e
  obtain ⟨⟨⟨d1, t1⟩, s1⟩, e1, e⟩ := obind e
  obtain ⟨⟨⟨d2, t2⟩, s2⟩, e2, e⟩ := obind e
  obtain ⟨b1, e3, e⟩ := obind e
  refine two S0 e1 e2 fun v w H2 G2 S2 E2 R1 N1 R2 N2 => ⟨pa, G2, d1, d2, b1, S2.sub, R1.top S2, R2.top S2, e3, b1, rfl, ?_⟩
  cases b1 with
  | true =>
    rw [if_pos rfl] at e ⊢
    obtain ⟨⟨⟨d3, t3⟩, s4⟩, e4, e⟩ := obind e
    obtain ⟨m, e5, e⟩ := obind e
    cases e
    exact tV_of S2 e4 fun z H3 G3 S3 E3 R3 N3 => ⟨pa, G3, d2, d3, m, S3.sub, (R2.ext S3 E3).top S3, R3.top S3, e5, kk _ H3 G3 S3 (E2.trans S3 E3) (.bl m) nofz⟩
  | false =>
    rw [if_neg (by decide)] at e ⊢
    cases e
    exact kk _ H2 G2 S2 E2 (.bl false) nofz
theorem key_isN {a : IE} (h : tI (.isN a) σ H Q) : tIsN (tI a) σ H Q := by
  obtain ⟨pa, H0, G0, G, s, d, t, s3, S0, e, kk⟩ := h
  rw [evalE] at e
  obtain ⟨⟨⟨d1, t1⟩, s1⟩, e1, e⟩ := obind e
  cases e
  refine tV_of S0 e1 fun v H1 G1 S1 E1 R1 N1 => ?_
  rw [isnon (R1.top S1)]
  cases d1 <;> exact kk _ H1 G1 S1 E1 (.bl _) nofz
theorem key_notN {a : IE} (h : tI (.notN a) σ H Q) : tNotN (tI a) σ H Q := by
  obtain ⟨pa, H0, G0, G, s, d, t, s3, S0, e, kk⟩ := h
  rw [evalE] at e
  obtain ⟨⟨⟨d1, t1⟩, s1⟩, e1, e⟩ := obind e
  cases e
  refine tV_of S0 e1 fun v H1 G1 S1 E1 R1 N1 => ?_
  rw [isnon (R1.top S1)]
  cases d1 <;> exact kk _ H1 G1 S1 E1 (.bl _) nofz
theorem key_neg {a : IE} (h : tI (.neg a) σ H Q) : tUn (rU fun i => .int (-i)) (tI a) σ H Q := by
  obtain ⟨pa, H0, G0, G, s, d, t, s3, S0, e, kk⟩ := h
  rw [evalE] at e
  obtain ⟨⟨⟨d1, t1⟩, s1⟩, e1, e⟩ := obind e
  dsimp only at e
  split at e
  · cases e
    exact tV_of S0 e1 fun v H1 G1 S1 E1 R1 N1 => ⟨_, (R1.top S1).int, kk _ H1 G1 S1 E1 (.int _) nofz⟩
  · cases e
theorem key_not {a : IE} (h : tI (.not a) σ H Q) : tNotV (tI a) σ H Q := by
  obtain ⟨pa, H0, G0, G, s, d, t, s3, S0, e, kk⟩ := h
  rw [evalE] at e
  obtain ⟨⟨b, s1⟩, e1, e⟩ := obind e
  obtain ⟨t1, e1⟩ := boolD_some e1
  cases e
  exact tV_of S0 e1 fun v H1 G1 S1 E1 R1 N1 => ⟨b, (R1.top S1).bl, kk _ H1 G1 S1 E1 (.bl _) nofz⟩
theorem key_notQ {a : IE} {Q : Bool → Hp → Prop} (h : tQ (fun s => boolD (evalE (.not a) s)) σ H Q) : tNot (tQ fun s => boolD (evalE a s)) σ H Q := by
  obtain ⟨pa, H0, G0, G, s, c, s3, S0, e, kk⟩ := h
  obtain ⟨t, e⟩ := boolD_some e
  rw [evalE] at e
  obtain ⟨⟨b, s1⟩, e1, e⟩ := obind e
  cases e
  exact tQ_of S0 e1 kk
theorem key_ite {c a b : IE} (h : tI (.ite c a b) σ H Q) : tIf (tQ fun s => boolD (evalE c s)) (tI a) (tI b) σ H Q := by
  obtain ⟨pa, H0, G0, G, s, d, t, s3, S0, e, kk⟩ := h
  rw [evalE] at e
  obtain ⟨⟨k, s1⟩, e1, e⟩ := obind e
  dsimp only at e
  refine tQ_of S0 e1 fun H1 G1 S1 E1 => ?_
  cases k with
  | true =>
    rw [if_pos rfl] at e ⊢
    exact tV_of S1 e fun w H2 G2 S2 E2 R2 N2 => kk w H2 G2 S2 (E1.trans S2 E2) R2 fun z a e => E1.back (N2 z a e) S1
  | false =>
    rw [if_neg (by decide)] at e ⊢
    exact tV_of S1 e fun w H2 G2 S2 E2 R2 N2 => kk w H2 G2 S2 (E1.trans S2 E2) R2 fun z a e => E1.back (N2 z a e) S1
theorem key_iteQ {c a b : IE} {Q : Bool → Hp → Prop} (h : tQ (fun s => boolD (evalE (.ite c a b) s)) σ H Q) :
    (tQ fun s => boolD (evalE c s)) σ H fun k H1 => if k = true then (tQ fun s => boolD (evalE a s)) σ H1 Q else (tQ fun s => boolD (evalE b s)) σ H1 Q := by
  obtain ⟨pa, H0, G0, G, s, c, s3, S0, e, kk⟩ := h
  obtain ⟨t, e⟩ := boolD_some e
  rw [evalE] at e
  obtain ⟨⟨k, s1⟩, e1, e⟩ := obind e
  dsimp only at e
  refine tQ_of S0 e1 fun H1 G1 S1 E1 => ?_
  cases k with
  | true =>
    rw [if_pos rfl] at e ⊢
    exact tQ_of S1 (by rw [e]; rfl) fun H2 G2 S2 E2 => kk H2 G2 S2 (E1.trans S2 E2)
  | false =>
    rw [if_neg (by decide)] at e ⊢
    exact tQ_of S1 (by rw [e]; rfl) fun H2 G2 S2 E2 => kk H2 G2 S2 (E1.trans S2 E2)
theorem line1k {n : Nat} (h : n ≤ 1000) : n ≤ sizeLine := Nat.le_trans h (by decide)
theorem key_tup {es : IEs} (hl : es.len ≤ 1000) (h : tI (.tup es) σ H Q) : tTupF (tAs es) σ H Q := by
  obtain ⟨pa, H0, G0, G, s, d, t, s3, S0, e, kk⟩ := h
  rw [evalE] at e
  obtain ⟨⟨xs, s1⟩, e1, e⟩ := obind e
  cases e
  refine ⟨pa, H0, G0, G, s, xs, s1, S0, e1, fun vs H1 G1 S1 E1 Rs => ⟨by rw [Rs.len, ev_len es e1]; exact line1k hl, ?_⟩⟩
  obtain ⟨G', S', E', _, rps⟩ := Rs.keep S1 E1
  exact Res.tup (fun v H2 r => fin (fr := false) S' E' kk v H2 r) rps
theorem key_lst {es : IEs} (hl : es.len ≤ 1000) (h : tI (.lst es) σ H Q) : tLst (tAs es) σ H Q := by
  obtain ⟨pa, H0, G0, G, s, d, t, s3, S0, e, kk⟩ := h
  rw [evalE] at e
  obtain ⟨⟨xs, s1⟩, e1, e⟩ := obind e
  cases e
  refine ⟨pa, H0, G0, G, s, xs, s1, S0, e1, fun vs H1 G1 S1 E1 Rs => ⟨by rw [Rs.len, ev_len es e1]; exact line1k hl, fun p hp => ?_⟩⟩
  obtain ⟨G', S', E', _, rps⟩ := Rs.keep S1 E1
  exact fin (fr := true) S' E' kk _ _ (.lst hp rps)
theorem key_ix {a b : IE} (h : tI (.ix a b) σ H Q) : tOp rIxD (tI a) (tI b) σ H Q := by
  obtain ⟨pa, H0, G0, G, s, d, t, s3, S0, e, kk⟩ := h
  rw [evalE] at e
  obtain ⟨⟨⟨d1, t1⟩, s1⟩, e1, e⟩ := obind e
  obtain ⟨⟨⟨d2, t2⟩, s2⟩, e2, e⟩ := obind e
  obtain ⟨d3, e3, e⟩ := obind e
  cases e
  exact two S0 e1 e2 fun v w H2 G2 S2 E2 R1 N1 R2 N2 => ⟨pa, G2, d1, d2, _, S2.sub, R1.top S2, R2.top S2, e3, fun u r => kk u H2 G2 S2 E2 r nofz⟩
theorem key_sl {a : IE} {lo hi : IO} (h : tI (.sl a lo hi) σ H Q) : tSl rSlD (tI a) (tOo lo) (tOo hi) σ H Q := by
  obtain ⟨pa, H0, G0, G, s, d, t, s4, S0, e, kk⟩ := h
  rw [evalE] at e
  obtain ⟨⟨⟨d1, t1⟩, s1⟩, e1, e⟩ := obind e
  obtain ⟨⟨l, s2⟩, e2, e⟩ := obind e
  obtain ⟨⟨u, s3⟩, e3, e⟩ := obind e
  obtain ⟨⟨d2, fr⟩, e4, e⟩ := obind e
  cases e
  obtain ⟨l', h1, h2⟩ := Option.bind_eq_some_iff.mp (show ((optI l).bind fun l => _) = some (_, fr) from e4)
  obtain ⟨u', h3, h4⟩ := Option.bind_eq_some_iff.mp h2
  refine tV_of S0 e1 fun v H1 G1 S1 E1 R1 N1 => ⟨pa, H0, G0, G1, s1, l, s2, S1, e2, l', h1, fun H2 G2 S2 E2 => ⟨pa, H0, G0, G2, s2, u, _, S2, e3, u', h3, fun H3 G3 S3 E3 => ?_⟩⟩
  have E13 := E2.trans S3 E3
  refine ⟨pa, G3, d1, _, fr, S3.sub, (R1.ext S3 E13).top S3, ?_, fin S3 (E1.trans S3 E13) kk⟩
  rw [← optI_inv h1, ← optI_inv h3]
  exact e4
theorem key_isi {a : IE} {t : Ty5} (h : tI (.isi a t) σ H Q) : tI a σ H fun v H1 => rIs5 t [v, .ty t.ty] H1 Q := by
  obtain ⟨pa, H0, G0, G, s, d, t0, s3, S0, e, kk⟩ := h
  rw [evalE] at e
  obtain ⟨⟨⟨d1, t1⟩, s1⟩, e1, e⟩ := obind e
  obtain ⟨b, e2, e⟩ := obind e
  cases e
  exact tV_of S0 e1 fun v H1 G1 S1 E1 R1 N1 => ⟨pa, G1, v, d1, b, rfl, S1.sub, R1.top S1, e2, kk _ H1 G1 S1 E1 (.bl b) nofz⟩
/-- isinstance(x, C), x tracked -/
def rIsT (K : PySem.W.Frag) : List V → Hp → VK → Prop := fun xs H Q => ∃ (a D : Addr) (c : V) (cv : Value) (b : Bool), xs = [.ref a, c] ∧ ExIn H a D ∧ L2.ExcC K D ∧ (∀ u, RelV c u → u = cv) ∧ PySem.W.kitOne K (.ref D) cv = some b ∧ Q (.bl b) H
theorem call_isT {X : Cx} : CallR X (.builtin "isinstance") (rIsT X.K) := by
  intro ps0 s σ H xs us Q I r h
  obtain ⟨a, D, c, cv, b, rfl, ha, C, hcv, e, q⟩ := h
  match us, r with
  | [u1, u2], .cons r1 (.cons r2 .nil) =>
    cases r1
    cases hcv _ r2
    exact PySem.W.kia_one (kitx_excD C) I.kIn (ha.inst I.hok) e (fun z => nomatch z) fun tk => ⟨.bl b, H, I.kept (t' := tk) fun _ _ z => z, rfl, q⟩
theorem isXD_some {adr : Str → Nat} {names : List Str} {sub : Str → Bool} {d : D} {b : Bool} (h : isXD adr names sub d = some b) : ∃ c, (d = excD adr c ∨ ∃ f e, d = excK adr c f e) ∧ c ∈ names ∧ b = sub c := by
  unfold isXD at h
  split at h
  · split at h
    · rename_i hz
      cases h
      exact ⟨_, .inl (by rw [hz.2]; rfl), hz.1, rfl⟩
    · cases h
  · split at h
    · rename_i hz
      cases h
      exact ⟨_, .inr ⟨_, _, by rw [hz.2]; rfl⟩, hz.1, rfl⟩
    · cases h
  · cases h
theorem key_isX {K : PySem.W.Frag} {x : Str} {adr : Str → Nat} {names : List Str} {sub : Str → Bool} {a : IE} {c : V} {cv : Value} (hcv : ∀ u, RelV c u → u = cv) (hk : ∀ n, n ∈ names → L2.ExcC K (adr n) ∧ PySem.W.kitOne K (.ref (adr n)) cv = some (sub n))
    (h : tI (.isX x adr names sub a) σ H Q) : tI a σ H fun v H1 => rIsT K [v, c] H1 Q := by
  obtain ⟨pa, H0, G0, G, s, d, t0, s3, S0, e, kk⟩ := h
  rw [evalE] at e
  obtain ⟨⟨⟨d1, t1⟩, s1⟩, e1, e⟩ := obind e
  obtain ⟨b, e2, e⟩ := obind e
  cases e
  refine tV_of S0 e1 fun v H1 G1 S1 E1 R1 N1 => ?_
  obtain ⟨n, ed, hn, rfl⟩ := isXD_some e2
  have fin : ∀ p, v = .ref p → ExIn H1 p (adr n) → rIsT K [v, c] H1 Q := fun p ev hp => by
    subst ev
    exact ⟨p, _, c, cv, _, rfl, hp, (hk n hn).1, hcv, (hk n hn).2, kk _ H1 G1 S1 E1 (.bl _) nofz⟩
  have ed : d1 = excD adr n ∨ ∃ f e, d1 = excK adr n f e := ed
  rcases ed with rfl | ⟨f, e, rfl⟩
  · obtain ⟨p, D, rfl, hC, hp⟩ := RpT.exc (R1.top S1)
    obtain rfl : D = adr n := (Int.ofNat.inj hC).symm
    exact fin p rfl (.inl (hp.up S1.sub))
  · obtain ⟨p, D, dx, w, rfl, hC, hp, hx, _⟩ := RpT.exa (R1.top S1)
    obtain rfl : D = adr n := (Int.ofNat.inj hC).symm
    exact fin p rfl (.inr ⟨dx, f, w, hp.up S1.sub, hx.up S1.sub⟩)
theorem key_cons {e : IE} {es : IEs} {R : List V → Hp → Prop} (h : tAs (.cons e es) σ H R) : tCons (tI e) (tAs es) σ H R := by
  obtain ⟨pa, H0, G0, G, s, xs, s3, S0, ev, kk⟩ := h
  rw [evalEs] at ev
  obtain ⟨⟨⟨d, t⟩, s1⟩, e1, ev⟩ := obind ev
  obtain ⟨⟨ys, s2⟩, e2, ev⟩ := obind ev
  cases ev
  refine tV_of S0 e1 fun v H1 G1 S1 E1 R1 N1 => ⟨pa, H0, G0, G1, s1, ys, _, S1, e2, fun vs H2 G2 S2 E2 Rs => ?_⟩
  refine kk (v :: vs) H2 G2 S2 (E1.trans S2 E2) ⟨R1.ext S2 E2, N1, fun z p hp zp ep => ?_, Rs.weak fun a z => E1.back z S1⟩
  dsimp only at z
  subst z
  obtain ⟨a, xs, ds, rfl, _, ha, _⟩ := R1
  have := (Rs.new p hp).1 zp a ep
  rw [ha] at this; cases this
theorem tV.mono {f : Ev} {Q' : VK} (h : tV f σ H Q) (k : ∀ v H1, Q v H1 → Q' v H1) : tV f σ H Q' := by
  obtain ⟨pa, H0, G0, G, s, d, t, s1, S0, e, kk⟩ := h
  exact ⟨pa, H0, G0, G, s, d, t, s1, S0, e, fun v H1 G1 S1 E1 R1 N1 => k v H1 (kk v H1 G1 S1 E1 R1 N1)⟩
theorem key_sset {a : IE} (K : PySem.W.Frag) (h : tI (.blt .sset (.cons a .nil)) σ H Q) : rSortSet K (tI a) σ H Q := by
  refine (as_one (key_blt h)).mono fun v H1 q => ?_
  obtain ⟨pa, G, ds, d, fr, gh, rs, e, k⟩ := q
  change bB_sset _ = _ at e
  unfold bB_sset at e
  split at e
  all_goals try (first | (cases e; done) | (rename_i z _; cases z; done) | (rename_i z; cases z; done))
  all_goals
    obtain ⟨ns, eb, e⟩ := Option.bind_eq_some_iff.mp e
    split at e
  · rename_i hz
    cases e
    obtain ⟨v', ev, rv⟩ := rs.one
    cases ev
    obtain ⟨b, xs, rfl, hb, ra⟩ := rv.lst
    rw [ra.ints eb] at hb
    exact ⟨b, ns, rfl, .inl (.of hb), hz, fun p hp => k _ _ (.lst hp (Rps.ofInts _))⟩
  · cases e
  · rename_i hz
    cases e
    obtain ⟨v', ev, rv⟩ := rs.one
    cases ev
    obtain ⟨b, xs, rfl, hb, ra⟩ := rv.tup
    rw [ra.ints eb] at hb
    exact ⟨b, ns, rfl, .inr (hb.up gh).sq, hz, fun p hp => k _ _ (.lst hp (Rps.ofInts _))⟩
  · cases e
theorem key_up {a : IE} (h : tI (.blt .up (.cons a .nil)) σ H Q) : tM0 (fun x xs H Q => ∃ a, x = .str a ∧ xs = [] ∧ a.length ≤ 5592405 ∧ Q (.str (PySem.Txt.upper a)) H) (tI a) σ H Q := by
  refine (as_one (key_blt h)).mono fun v H1 q => ?_
  obtain ⟨pa, G, ds, d, fr, gh, rs, e, k⟩ := q
  change bB_up _ = _ at e
  unfold bB_up at e
  split at e
  all_goals try (first | (cases e; done) | (rename_i z _; cases z; done) | (rename_i z; cases z; done))
  split at e
  · rename_i hz
    cases e
    obtain ⟨v', ev, rv⟩ := rs.one
    cases ev
    obtain rfl := RpT.str rv
    exact ⟨⟨_, rfl⟩, _, rfl, rfl, by omega, k _ _ (.old (.str _))⟩
  · cases e
theorem key_slen {a : IE} (K : PySem.W.Frag) (h : tI (.blt .slen (.cons a .nil)) σ H Q) : rLenSet K (tI a) σ H Q := by
  refine (as_one (key_blt h)).mono fun v H1 q => ?_
  obtain ⟨pa, G, ds, d, fr, gh, rs, e, k⟩ := q
  change bB_slen _ = _ at e
  unfold bB_slen at e
  split at e
  all_goals try (first | (cases e; done) | (rename_i z _; cases z; done) | (rename_i z; cases z; done))
  all_goals
    obtain ⟨ns, eb, e⟩ := Option.bind_eq_some_iff.mp e
    split at e
  · rename_i hz
    cases e
    obtain ⟨v', ev, rv⟩ := rs.one
    cases ev
    obtain ⟨b, xs, rfl, hb, ra⟩ := rv.lst
    rw [ra.ints eb] at hb
    exact ⟨b, ns, rfl, .inl (.of hb), hz, k _ _ (.old (.int _))⟩
  · cases e
  · rename_i hz
    cases e
    obtain ⟨v', ev, rv⟩ := rs.one
    cases ev
    obtain ⟨b, xs, rfl, hb, ra⟩ := rv.tup
    rw [ra.ints eb] at hb
    exact ⟨b, ns, rfl, .inr (hb.up gh).sq, hz, k _ _ (.old (.int _))⟩
  · cases e
theorem key_lrange {a : IE} (h : tI (.blt .lrange (.cons a .nil)) σ H Q) : tLstRg (tRg1 (tI a)) σ H Q := by
  refine (as_one (key_blt h)).mono fun v H1 q => ?_
  obtain ⟨pa, G, ds, d, fr, gh, rs, e, k⟩ := q
  change bB_lrange _ = _ at e
  unfold bB_lrange at e
  split at e
  all_goals try (first | (cases e; done) | (rename_i z _; cases z; done) | (rename_i z; cases z; done))
  rotate_left
  · obtain ⟨_, _, z, _⟩ := rs.two
    cases z
  rename_i n
  split at e
  · rename_i hz
    cases e
    obtain ⟨v', ev, rv⟩ := rs.one
    cases ev
    refine ⟨n, rv.int, .of_le (by omega) hz.2 (by omega) hz.1, fun p hp => ?_⟩
    have e : ∀ n : Int, rgV 0 n = ((List.range n.toNat).map fun i => ((i : Nat) : Int)).map V.int := fun n => by
      unfold rgV
      rw [List.map_map]
      simp [Function.comp_def]
    rw [e]
    refine k _ _ (.lst hp ?_)
    have := Rps.ofInts (pa := pa) (G := G) ((List.range n.toNat).map fun i => ((i : Nat) : Int))
    rw [List.map_map (f := fun i : Nat => (i : Int)) (g := PyData.int)] at this
    exact this
  · cases e

theorem news_of {pa : PA} {G H1 H2 : Hp} : ∀ {as : List Addr} {xs : List V} {ds : List D} {k : Nat}, as.length = xs.length → (∀ (j : Nat) (b : Addr), as[j]? = some b → H1 b = none ∧ ∃ x, xs[j]? = some x ∧ TupAt H2 b [.int ((k + j : Nat) : Int), x]) → Rps pa G xs ds →
    News pa G H1 H2 as ((ds.zipIdx k).map fun p => PyData.tuple [.int (p.2 : Nat), p.1])
  | [], [], [], _, _, _, _ => .nil
  | [], [], _ :: _, _, _, _, r => nomatch r
  | [], _ :: _, _, _, h, _, _ => by simp at h
  | _ :: _, [], _, _, h, _, _ => by simp at h
  | _ :: _, _ :: _, [], _, _, _, r => nomatch r
  | a :: as, v :: vs, d :: ds, k, h, f, r => by
    obtain ⟨n, x, ex, tt⟩ := f 0 a rfl
    cases ex
    cases r with
    | cons r t =>
      rw [List.zipIdx_cons, List.map_cons]
      refine .cons n tt (.cons (.int _) (.cons r .nil)) (news_of (k := k + 1) (by simpa using h) (fun j b e => ?_) t)
      obtain ⟨n2, y, ey, t2⟩ := f (j + 1) b (by simpa using e)
      exact ⟨n2, y, by simpa using ey, by rw [show k + 1 + j = k + (j + 1) by omega]; exact t2⟩
theorem key_lenm {K : PySem.W.Frag} {a : IE} (h : tI (.blt .lenm (.cons a .nil)) σ H Q) : tLenm K (tI a) σ H Q := by
  refine (as_one (key_blt h)).mono fun v H1 q => ?_
  obtain ⟨pa, G, ds, d, fr, gh, rs, e, k⟩ := q
  change bB_lenm _ = _ at e
  unfold bB_lenm at e
  split at e
  all_goals try (first | (cases e; done) | (rename_i z _; cases z; done) | (rename_i z; cases z; done))
  cases e
  obtain ⟨v', ev, rv⟩ := rs.one
  cases ev
  obtain ⟨b, xs, rfl, hb, ra⟩ := rv.tup
  exact ⟨b, xs, rfl, (hb.up gh).sq, fun p as H2 np => k _ _ ⟨np.sub, .inr ⟨rfl, .inr ⟨p, as, _, rfl, rfl, np.hp, np.lst, np.nd, np.np, news_of np.len (fun j c e => by rw [Nat.zero_add]; exact np.at_ j c e) ra⟩⟩⟩⟩
theorem key_lrange2 {a b : IE} (h : tI (.blt .lrange (.cons a (.cons b .nil))) σ H Q) : tLstRg (tRg2 (tI a) (tI b)) σ H Q := by
  obtain ⟨pa, H0, G0, G, s, d, t, s3, S0, e, kk⟩ := h
  rw [evalE] at e
  obtain ⟨⟨xs, s2⟩, e1, e⟩ := obind e
  obtain ⟨⟨d', fr⟩, e4, e⟩ := obind e
  cases e
  rw [evalEs] at e1
  obtain ⟨⟨⟨d1, t1⟩, s1⟩, e0, e1⟩ := obind e1
  obtain ⟨⟨ys, s4⟩, e2, e1⟩ := obind e1
  cases e1
  rw [evalEs] at e2
  obtain ⟨⟨⟨d2, t2⟩, s5⟩, e3, e2⟩ := obind e2
  obtain ⟨⟨zs, s6⟩, e5, e2⟩ := obind e2
  rw [evalEs] at e5
  cases e5
  cases e2
  change bB_lrange [d1, d2] = _ at e4
  unfold bB_lrange at e4
  split at e4
  all_goals try (first | (cases e4; done) | (rename_i z _; cases z; done) | (rename_i z; cases z; done))
  rename_i m n z
  cases z
  split at e4
  · rename_i hz
    cases e4
    refine tV_of S0 e0 fun v H1 G1 S1 E1 R1 N1 => tV_of S1 e3 fun w H2 G2 S2 E2 R2 N2 => ?_
    refine ⟨m, n, (R1.top S1).int, (R2.top S2).int, .of_le (by omega) hz.2.2.2 hz.2.1 (by omega), fun q hq => ?_⟩
    refine fin (fr := true) S2 (E1.trans S2 E2) kk _ _ (.lst hq ?_)
    have := Rps.ofInts (pa := pa) (G := G2) ((List.range (n - m).toNat).map fun i => (m + ((i : Nat) : Int)))
    rw [List.map_map, List.map_map] at this
    exact this
  · cases e4
theorem key_trange {a : IE} (h : tI (.blt .trange (.cons a .nil)) σ H Q) : tTupRgF (tRg1 (tI a)) σ H Q := by
  refine (as_one (key_blt h)).mono fun v H1 q => ?_
  obtain ⟨pa, G, ds, d, fr, gh, rs, e, k⟩ := q
  change bB_trange _ = _ at e
  unfold bB_trange at e
  split at e
  all_goals try (first | (cases e; done) | (rename_i z _; cases z; done) | (rename_i z; cases z; done))
  rename_i n
  split at e
  · rename_i hz
    cases e
    obtain ⟨v', ev, rv⟩ := rs.one
    cases ev
    refine ⟨n, rv.int, .of_le (by omega) hz.2 (by omega) hz.1, ?_⟩
    have e : ∀ n : Int, rgV 0 n = ((List.range n.toNat).map fun i => ((i : Nat) : Int)).map V.int := fun n => by
      unfold rgV
      rw [List.map_map]
      simp [Function.comp_def]
    rw [e]
    refine Res.tup k ?_
    have := Rps.ofInts (pa := pa) (G := G) ((List.range n.toNat).map fun i => ((i : Nat) : Int))
    rw [List.map_map (f := fun i : Nat => (i : Int)) (g := PyData.int)] at this
    exact this
  · cases e

theorem isPen_at {s : S} {i : Nat} (h : isPen (rd s i) = true) : s.sl[i]? = some (some (.dict [], false)) := by
  unfold isPen at h
  split at h
  · rename_i e
    unfold rd at e
    obtain ⟨o, h1, h2⟩ := Option.bind_eq_some_iff.mp e
    have h2 : o = some (.dict [], false) := h2
    rw [h1, h2]
  · cases h
theorem pen_val {pa : PA} {H0 G0 G : Hp} {s : S} (S0 : Sim pa H0 G0 G σ H s) {i : Nat} {q : Pn} (h : isPen (rd s i) = true) (hp : s.pn = some q) :
    ∃ a c T, pa = some (a, c, T) ∧ σ[i]? = some (some (.ref a)) ∧ H a = some (.lst [.ref c, .int q.a, .int q.r]) ∧ G c = some (.lst (q.cells.map V.int)) ∧ G a = none ∧ c ≠ a := by
  obtain ⟨v, e1, r⟩ := S0.fz i _ (isPen_at h)
  cases r with
  | pen hpa =>
    rename_i a c T
    have p := S0.pen
    subst hpa
    rw [hp] at p
    exact ⟨a, c, T, rfl, e1, p.2.1, p.2.2.1, p.2.2.2.1, p.1⟩
theorem at_nat {α : Type} {xs : List α} {j : Nat} {v : α} (h : xs[j]? = some v) : L2.atI xs ((j : Nat) : Int) = some v := L2.atI_nat h
theorem key_pix {i j : Nat} (K : PySem.W.Frag) (h : tI (.pix i j) σ H Q) : tOp (rIxL K) (tVar i) (tC (.int (j : Nat))) σ H Q := by
  obtain ⟨pa, H0, G0, G, s, d, t, s1, S0, e, kk⟩ := h
  rw [evalE] at e
  split at e
  case isFalse => cases e
  rename_i hi
  obtain ⟨d', e1, e2⟩ := Option.map_eq_some_iff.mp e
  cases e2
  obtain ⟨q, hq, e9⟩ := Option.bind_eq_some_iff.mp e1
  clear e1 e
  obtain ⟨a, c, _, hpa, hσ, ha, hc, _⟩ := pen_val S0 hi hq
  refine ⟨_, hσ, ?_⟩
  show ∃ p xs n v, V.ref a = V.ref p ∧ V.int ((j : Nat) : Int) = V.int n ∧ SqL K H p xs ∧ L2.atI xs n = some v ∧ Q v H
  refine ⟨a, [.ref c, .int q.a, .int q.r], ((j : Nat) : Int), ?_⟩
  unfold pixD at e9
  split at e9
  · rename_i hj
    subst hj
    cases e9
    exact ⟨.ref c, rfl, rfl, .of ha, at_nat rfl, kk _ H G S0 .refl (.lst hc (Rps.ofInts _)) nofz⟩
  · split at e9
    · rename_i hj
      subst hj
      cases e9
      exact ⟨.int q.a, rfl, rfl, .of ha, at_nat rfl, kk _ H G S0 .refl (.int _) nofz⟩
    · split at e9
      · rename_i hj
        subst hj
        cases e9
        exact ⟨.int q.r, rfl, rfl, .of ha, at_nat rfl, kk _ H G S0 .refl (.int _) nofz⟩
      · cases e9

theorem PI.or {X : Cx} {tg it : Expr} {a b : TI} (h1 : PI X tg it a) (h2 : PI X tg it b) : PI X tg it (fun σ H R => a σ H R ∨ b σ H R) :=
  ⟨fun pins s σ H R I h => h.elim (h1.run pins s σ H R I) (h2.run pins s σ H R I)⟩
theorem PI.imp {X : Cx} {tg it : Expr} {a b : TI} (h : PI X tg it a) (k : ∀ σ H R, b σ H R → a σ H R) : PI X tg it b := ⟨fun pins s σ H R I q => h.run pins s σ H R I (k σ H R q)⟩
variable {R : It → Hp → Prop}
theorem key_seq (K : PySem.W.Frag) {e : IE} (h : tSr (.seq e) σ H R) : iList K (tI e) σ H R ∨ iTup K (tI e) σ H R := by
  obtain ⟨pa, H0, G0, G, s, items, t, s1, S0, ev, kk⟩ := h
  rw [evalSr] at ev
  obtain ⟨⟨⟨d, t1⟩, s2⟩, e1, ev⟩ := obind ev
  obtain ⟨xs, e2, ev⟩ := obind ev
  cases ev
  cases d with
  | list ds =>
    cases e2
    refine .inl (tV_of S0 e1 fun v H1 G1 S1 E1 R1 N1 => ?_)
    obtain ⟨a, xs, ea, ha, ra⟩ := (R1.top S1).lst
    exact ⟨a, ea, ⟨xs, .of ha⟩, kk _ H1 G1 v _ S1 E1 R1 N1 ⟨sr_list K ha (R1.npen S1 ea (.inl rfl)) ra, fun G2 _ rp => by subst ea; cases rp with | lst h r => exact fsr_list K h r⟩⟩
  | tuple ds =>
    cases e2
    refine .inr (tV_of S0 e1 fun v H1 G1 S1 E1 R1 N1 => ?_)
    obtain ⟨a, xs, ea, ha, ra⟩ := (R1.top S1).tup
    exact ⟨a, ea, ⟨xs, (ha.up S1.sub).sq⟩, kk _ H1 G1 v _ S1 E1 R1 N1 ⟨sr_tup K (ha.up S1.sub) (R1.npen S1 ea (.inr rfl)) ra, fun G2 _ rp => by subst ea; cases rp with | tup h r => exact fsr_tup K h r⟩⟩
  | _ => cases e2
theorem key_enum (K : PySem.W.Frag) {e : IE} (h : tSr (.enum e) σ H R) : iEnA K (tCons (tI e) tNil) σ H R := by
  obtain ⟨pa, H0, G0, G, s, items, t, s1, S0, ev, kk⟩ := h
  rw [evalSr] at ev
  obtain ⟨⟨⟨d, t1⟩, s2⟩, e1, ev⟩ := obind ev
  obtain ⟨xs, e2, ev⟩ := obind ev
  cases ev
  cases d with
  | list ds =>
    cases e2
    refine tV_of S0 e1 fun v H1 G1 S1 E1 R1 N1 => ?_
    obtain ⟨a, xs, ea, ha, ra⟩ := (R1.top S1).lst
    exact ⟨a, xs, by rw [ea], .inl ⟨.of ha, kk _ H1 G1 v _ S1 E1 R1 N1 ⟨sr_en K ha (R1.npen S1 ea (.inl rfl)) ra, fun G2 _ rp => by subst ea; cases rp with | lst h r => exact fsr_en K h r⟩⟩⟩
  | tuple ds =>
    cases e2
    refine tV_of S0 e1 fun v H1 G1 S1 E1 R1 N1 => ?_
    obtain ⟨a, xs, ea, ha, ra⟩ := (R1.top S1).tup
    exact ⟨a, xs, by rw [ea],   .inr ⟨(ha.up S1.sub).sq, kk _ H1 G1 v _ S1 E1 R1 N1 ⟨sr_enT K (ha.up S1.sub) (R1.npen S1 ea (.inr rfl)) ra, fun G2 _ rp => by subst ea; cases rp with | tup h r => exact fsr_enT K h r⟩⟩⟩
  | _ => cases e2
theorem key_zip (K : PySem.W.Frag) {a b : IE} (h : tSr (.zip a b) σ H R) : iZip4 K (tCons (tI a) (tCons (tI b) tNil)) σ H R := by
  obtain ⟨pa, H0, G0, G, s, items, t, s1, S0, ev, kk⟩ := h
  rw [evalSr] at ev
  obtain ⟨⟨⟨d1, t1⟩, s2⟩, e1, ev⟩ := obind ev
  obtain ⟨⟨⟨d2, t2⟩, s3⟩, e2, ev⟩ := obind ev
  obtain ⟨xs, e3, ev⟩ := obind ev
  obtain ⟨ys, e4, ev⟩ := obind ev
  dsimp only at ev e3 e4
  split at ev
  case isFalse => cases ev
  rename_i hk
  cases ev
  have es : evalEs (.cons a (.cons b .nil)) s = some ([(d1, t1), (d2, t2)], s3) := by
    simp [evalEs, e1, e2]
  have go : tAs (.cons a (.cons b .nil)) σ H fun vs H1 => ∃ p q xs ys, vs = [.ref p, .ref q] ∧ ((SqL K H1 p xs ∧ SqL K H1 q ys ∧ R (Itz K p q) H1) ∨ (SqT K H1 p xs ∧ SqT K H1 q ys ∧ R (RZ.ItzT K p q) H1) ∨ (SqT K H1 p xs ∧ SqL K H1 q ys ∧ R (ItzM K p q) H1) ∨ (SqL K H1 p xs ∧ SqT K H1 q ys ∧ R (ItzN K p q) H1)) := by
    refine ⟨pa, H0, G0, G, s, _, s3, S0, es, fun vs H1 G1 S1 E1 Rs => ?_⟩
    obtain ⟨G', S', E', _, rps⟩ := Rs.keep S1 E1
    match vs, rps with
    | [v, w], .cons r1 (.cons r2 .nil) =>
      have np : ∀ {c : Addr} {o : HO}, G' c = some o → ¬ pen1 pa c := fun hc n => by
        rw [S'.pen.free n] at hc; cases hc
      cases d1 with
      | list ds =>
        cases d2 with
        | list es =>
          cases e3; cases e4
          cases r1 with
          | lst h1 ra =>
            cases r2 with
            | lst h2 rb =>
              exact ⟨_, _, _, _, rfl, .inl ⟨.of (S'.sub _ _ h1), .of (S'.sub _ _ h2), kk _ H1 G' .non .none S' E' .non nofz ⟨sr_zip K (S'.sub _ _ h1) (np h1) ra (S'.sub _ _ h2) (np h2) rb, fun G2 k _ => (fsr_zip K h1 ra h2 rb).mono k⟩⟩⟩
        | tuple es =>
          cases e3; cases e4
          cases r1 with
          | lst h1 ra =>
            cases r2 with
            | tup h2 rb =>
              exact ⟨_, _, _, _, rfl, .inr (.inr (.inr ⟨.of (S'.sub _ _ h1), (h2.up S'.sub).sq, kk _ H1 G' .non .none S' E' .non nofz ⟨sr_zipN K (S'.sub _ _ h1) (np h1) ra (h2.up S'.sub) (fun n => h2.there (S'.pen.free n)) rb, fun G2 k _ => (fsr_zipN K h1 ra h2 rb).mono k⟩⟩))⟩
        | _ => cases hk
      | tuple ds =>
        cases d2 with
        | tuple es =>
          cases e3; cases e4
          cases r1 with
          | tup h1 ra =>
            cases r2 with
            | tup h2 rb =>
              exact ⟨_, _, _, _, rfl, .inr (.inl ⟨(h1.up S'.sub).sq, (h2.up S'.sub).sq, kk _ H1 G' .non .none S' E' .non nofz ⟨sr_zipT K (h1.up S'.sub) (fun n => h1.there (S'.pen.free n)) ra (h2.up S'.sub) (fun n => h2.there (S'.pen.free n)) rb, fun G2 k _ => (fsr_zipT K h1 ra h2 rb).mono k⟩⟩)⟩
        | list es =>
          cases e3; cases e4
          cases r1 with
          | tup h1 ra =>
            cases r2 with
            | lst h2 rb =>
              exact ⟨_, _, _, _, rfl, .inr (.inr (.inl ⟨(h1.up S'.sub).sq, .of (S'.sub _ _ h2), kk _ H1 G' .non .none S' E' .non nofz ⟨sr_zipM K (h1.up S'.sub) (fun n => h1.there (S'.pen.free n)) ra (S'.sub _ _ h2) (np h2) rb, fun G2 k _ => (fsr_zipM K h1 ra h2 rb).mono k⟩⟩))⟩
        | _ => cases hk
      | _ => cases e3
  refine (key_cons go).mono fun v H1 q => (key_cons q).mono fun w H2 q => ?_
  obtain ⟨pa', H0', G0', G2, s4, xs', s5, S4, e5, k5⟩ := q
  rw [evalEs] at e5
  cases e5
  exact k5 [] H2 G2 S4 .refl trivial
theorem key_rng {a : IE} (h : tSr (.rng a) σ H R) : iRng1 (tCons (tI a) tNil) σ H R := by
  obtain ⟨pa, H0, G0, G, s, items, t, s1, S0, ev, kk⟩ := h
  rw [evalSr] at ev
  obtain ⟨⟨⟨d1, t1⟩, s2⟩, e1, ev⟩ := obind ev
  dsimp only at ev
  split at ev
  · split at ev
    · rename_i n hn
      cases ev
      refine tV_of S0 e1 fun v H1 G1 S1 E1 R1 N1 => ⟨n, by rw [(R1.top S1).int], hn.1, hn.2, kk _ H1 G1 .non .none S1 E1 .non nofz ?_⟩
      have q : ∀ G, SrOk false pa G H1 ((List.range n.toNat).map fun i => .int (0 + (i : Nat))) (Itr 0 n.toNat) := fun G => sr_rng
      have q2 : ∀ G, SrF false pa G ((List.range n.toNat).map fun i => .int (0 + (i : Nat))) (Itr 0 n.toNat) := fun G => fsr_rng
      simp only [Int.zero_add] at q q2
      exact ⟨q G1, fun G2 _ _ => q2 G2⟩
    · cases ev
  · cases ev
theorem key_rng2 {a b : IE} (h : tSr (.rng2 a b) σ H R) : iRng2 (tCons (tI a) (tCons (tI b) tNil)) σ H R := by
  obtain ⟨pa, H0, G0, G, s, items, t, s1, S0, ev, kk⟩ := h
  rw [evalSr] at ev
  obtain ⟨⟨⟨d1, t1⟩, s2⟩, e1, ev⟩ := obind ev
  obtain ⟨⟨⟨d2, t2⟩, s3⟩, e2, ev⟩ := obind ev
  dsimp only at ev
  split at ev
  · rename_i m n _
    split at ev
    · rename_i hn
      cases ev
      exact two S0 e1 e2 fun v w H2 G2 S2 E2 R1 N1 R2 N2 => ⟨m, n, by rw [(R1.top S2).int, (R2.top S2).int], hn, kk _ H2 G2 .non .none S2 E2 .non nofz ⟨sr_rng, fun _ _ _ => fsr_rng⟩⟩
    · cases ev
  · cases ev
theorem key_rng3 {a b c : IE} (h : tSr (.rng3 a b c) σ H R) : iRng3 (tCons (tI a) (tCons (tI b) (tCons (tI c) tNil))) σ H R := by
  obtain ⟨pa, H0, G0, G, s, items, t, s1, S0, ev, kk⟩ := h
  rw [evalSr] at ev
  obtain ⟨⟨⟨d1, t1⟩, s2⟩, e1, ev⟩ := obind ev
  obtain ⟨⟨⟨d2, t2⟩, s3⟩, e2, ev⟩ := obind ev
  obtain ⟨⟨⟨d3, t3⟩, s4⟩, e3, ev⟩ := obind ev
  dsimp only at ev
  split at ev
  · rename_i i j k _ _
    split at ev
    · rename_i hn
      cases ev
      refine tV_of S0 e1 fun v H1 G1 S1 E1 R1 N1 => tV_of S1 e2 fun w H2 G2 S2 E2 R2 N2 => tV_of S2 e3 fun u H3 G3 S3 E3 R3 N3 => ?_
      exact ⟨i, j, k, (Builtin.Range.rangeSize i j k).toNat, by rw [(R1.top S1).int, (R2.top S2).int, (R3.top S3).int], ⟨hn.1, hn.2.1, hn.2.2.1, by have := hn.2.2.2; omega⟩, kk _ H3 G3 .non .none S3 ((E1.trans S2 E2).trans S3 E3) .non nofz ⟨sr_rngC, fun _ _ _ => fsr_rngC⟩⟩
    · cases ev
  · cases ev
end
end Fs

set_option Elab.async false
set_option linter.all false
set_option maxRecDepth 100000
set_option maxHeartbeats 8000000
namespace Fs
open PySem L2 PySem.Spec PyProof.Rows
open Builtin.Slice
theorem places_rev (n : Nat) : slicePlaces ((n : Int) - 1) (-1) (-1) = n := by
  unfold slicePlaces
  split
  · rename_i z; exact absurd z (by decide)
  · split
    · rename_i z
      rw [show (-(-1) : Int) = 1 by decide, Int.ediv_one]; omega
    · omega
/-- the bounds of [::-1] -/
theorem bounds_rev {prog : Program} {w : World} {A : Around} {E : Value → Shared → Prop} {s : Shared} {sl : Addr} {vs : Value} {n : Nat} {Q : Int × Int × Nat → Shared → Prop} (isS : s.heap.IsSliceOf sl .none .none vs) (st : IsPart vs (some (-1)))
    (fin : Q ((n : Int) - 1, -1, n) s) : wpAny (model prog w) A (sliceApplied (.ref sl) (pure (n : Int))) Q E s := by
  obtain ⟨ob, at0, -, dat⟩ := isS
  unfold sliceApplied sliceFields
  refine wpAny_bind (wpAny_bind (wpAny_field at0 dat (x := .none) rfl (wpAny_bind (wpAny_field at0 dat (x := .none) rfl (wpAny_bind (wpAny_field at0 dat (x := vs) rfl (wpAny_pure (wpAny_bind (HT.slicePart_ st ?_)))))))))
  refine wpAny_ite_false (by decide) (wpAny_bind (HT.slicePart_ .none (wpAny_bind (HT.slicePart_ .none (wpAny_bind (wpAny_pure ?_))))))
  have z : ((n : Int) - 1, (-1 : Int), slicePlaces ((n : Int) - 1) (-1) (-1)) = ((n : Int) - 1, -1, n) := by rw [places_rev]
  exact wpAny_pure (z ▸ fin)
theorem picked_rev (us : List Value) : ((List.range us.toArray.size).filterMap fun (m : Nat) => us.toArray[((us.toArray.size : Int) - 1 + (m : Int) * (-1)).toNat]?).toArray = us.reverse.toArray := by
  congr 1
  refine List.ext_getElem? fun i => ?_
  have all : ∀ m ∈ List.range us.length, us[us.length - 1 - m]? = some (us.reverse.getD m .none) := fun m hm => by
    have hm := List.mem_range.mp hm
    rw [List.getD_eq_getElem?_getD, List.getElem?_reverse hm, List.getElem?_eq_getElem (by omega)]; rfl
  have e : (fun (m : Nat) => us.toArray[((us.toArray.size : Int) - 1 + (m : Int) * (-1)).toNat]?) = fun m => us[us.length - 1 - m]? := by
    funext m
    rw [List.size_toArray, List.getElem?_toArray, show ((us.length : Int) - 1 + (m : Int) * (-1)).toNat = us.length - 1 - m by omega]
  rw [e, List.size_toArray]
  have f : (List.range us.length).filterMap (fun m => us[us.length - 1 - m]?) = (List.range us.length).map fun m => us.reverse.getD m .none := by
    have go : ∀ l : List Nat, (∀ m ∈ l, us[us.length - 1 - m]? = some (us.reverse.getD m .none)) → l.filterMap (fun m => us[us.length - 1 - m]?) = l.map fun m => us.reverse.getD m .none := by
      intro l
      induction l with
      | nil => intro _; rfl
      | cons m l ih =>
        intro h
        rw [List.filterMap_cons, List.map_cons, ih fun k hk => h k (List.mem_cons_of_mem _ hk)]
        simp only [h m (List.mem_cons_self ..)]
    exact go _ all
  rw [f]
  by_cases hi : i < us.length
  · rw [List.getElem?_map, List.getElem?_range hi, List.getElem?_eq_getElem (by rw [List.length_reverse]; exact hi), Option.map_some, List.getD_eq_getElem?_getD, List.getElem?_eq_getElem (by rw [List.length_reverse]; exact hi)]; rfl
  · rw [List.getElem?_eq_none (by simp; omega), List.getElem?_eq_none (by simp; omega)]
theorem meets_rev (t sl : Addr) (us : List Value) (vs : Value) : Meets (Builtin.«tuple.__getitem__» ⟨[.ref t, .ref sl], []⟩) (fun _ R s => PyProof.Rows.IsTup s.heap t us.toArray ∧ s.heap.IsSliceOf sl .none .none vs ∧ IsPart vs (some (-1)) ∧ us.length ≤ sizeLine ∧
    R (.ok (.ret (.ref s.heap.objs.size))) { s with heap := s.heap.push (obT us.reverse) }) := by
  refine .of_wp fun prog w A R s ⟨isT, isS, st, small, fin⟩ => ?_
  have tyS : s.TypeIs (.ref sl) "slice" := isS.imp fun _ z => ⟨z.1, z.2.1⟩
  have fits : sizeOk (obT us.reverse).data := by
    show us.reverse.toArray.size ≤ sizeLine
    simpa using small
  show wpAny _ _ (Builtin.Tuple.tupleItemsOf (.ref t) >>= _) _ _ s
  refine wpAny_bind (PyProof.Rows.tupleItemsOf_ isT (wpAny_bind (wpAny_typeOf tyS ?_)))
  refine wpAny_ite_true (by decide) (wpAny_bind (bounds_rev isS st ?_))
  refine wpAny_ite_false (by simp) ?_
  rw [picked_rev]
  exact wpAny_bind (m := Builtin.Tuple.tupleExact _) (wpAny_newObj_type (wpAny_pure ⟨_, rfl, fin⟩) fits)
/-- x[::-1] of a tuple -/
def tRevT (K : PySem.W.Frag) (te : TE) : TE := fun σ H Q => te σ H fun x H1 => ∃ a xs, x = .ref a ∧ SqT K H1 a xs ∧ mkT H1 Q xs.reverse
theorem pe_revT {X : Cx} {e : Expr} {te : TE} {k : Nat} {p1 p2 p3 pos : Pos} (he : PE X e te) : PE X (.Subscript e (.Slice none none (some (.UnaryOp .USub (.Constant (.int 1) k p1) p2)) p3) pos) (tRevT X.K te) := by
  have step : PO X (some (.UnaryOp .USub (.Constant (.int 1) k p1) p2)) (tPart (tUn (rU fun i => .int (-i)) (tC (.int 1)))) := po_some (pe_un un_neg pe_int)
  refine ⟨fun ps0 s σ H Q I h => Subscript_ (thn (he.run ps0 s σ H _ I h) fun v s1 got => ?_)⟩
  obtain ⟨_, H1, I1, rel, a, xs, rfl, ha, q⟩ := got
  cases rel
  refine wpAny_Slice (thn (po_none.run ps0 s1 σ H1 (fun o J => o = none ∧ J = H1) I1 ⟨rfl, rfl⟩) fun lo s2 got => ?_)
  obtain ⟨_, _, I2, part1, rfl, rfl⟩ := got
  refine thn (po_none.run ps0 s2 σ _ (fun o J => o = none ∧ J = _) I2 ⟨rfl, rfl⟩) fun hi s3 got => ?_
  obtain ⟨_, _, I3, part2, rfl, rfl⟩ := got
  refine thn (step.run ps0 s3 σ _ (fun o J => o = some (-1) ∧ J = _) I3 ⟨1, rfl, -1, rfl, rfl, rfl⟩) fun by_ s4 got => ?_
  obtain ⟨_, J, I4, part3, rfl, rfl⟩ := got
  cases part1
  cases part2
  have grown := I4.kept (t' := s4.toks) (h' := s4.heap.push { cls := .type "slice", data := .fields #[.none, .none, by_] }) fun b ob z => Heap.get?_push_of_some _ z
  obtain ⟨us, ru, isT, small⟩ := grown.tuple ha
  refine tail_any (ops := [.ref a, .ref s4.heap.objs.size]) isT.typeIs PyProof.Rows.slot_tuple_getitem.lookup ?_ (by with_unfolding_all rfl)
  exact getItem_meets isT.typeIs (by decide) PySem.F.slot_tuple_getitem PySem.F.entry_tuple_getitem (PySem.F.args_tuple_getitem_2 _ _) (meets_rev a s4.heap.objs.size us by_) ⟨isT, Heap.IsSliceOf.new _ _ _ by_, part3, ru.length ▸ small, tup_new grown ru.reverse (by rw [List.length_reverse]; exact small) q⟩
theorem pe_revD {X : Cx} {e : Expr} {te : TE} {k : Nat} {p1 p2 p3 pos : Pos} (he : PE X e te) : PE X (.Subscript e (.Slice none none (some (.UnaryOp .USub (.Constant (.int 1) k p1) p2)) p3) pos) (fun σ H Q => tRevL X.K te σ H Q ∨ tRevT X.K te σ H Q) :=
  ⟨fun ps0 s σ H Q I h => h.elim (fun z => (pe_revL he).run ps0 s σ H Q I z) fun z => (pe_revT he).run ps0 s σ H Q I z⟩
theorem key_rev {K : PySem.W.Frag} {a : IE} {σ : L2.St} {H : Hp} {Q : VK} (h : tI (.blt .rev1 (.cons a .nil)) σ H Q) : tRevL K (tI a) σ H Q ∨ tRevT K (tI a) σ H Q := by
  obtain ⟨pa, H0, G0, G, s, d, t, s3, S0, e, kk⟩ := h
  rw [evalE] at e
  obtain ⟨⟨xs, s2⟩, e1, e⟩ := obind e
  obtain ⟨⟨d', fr⟩, e4, e⟩ := obind e
  cases e
  rw [evalEs] at e1
  obtain ⟨⟨⟨d1, t1⟩, s1⟩, e0, e1⟩ := obind e1
  obtain ⟨⟨ys, s4⟩, e2, e1⟩ := obind e1
  cases e1
  rw [evalEs] at e2
  cases e2
  change bltD .rev1 [d1] = _ at e4
  cases d1 with
  | list ds =>
    cases e4
    refine .inl (tV_of S0 e0 fun v H1 G1 S1 E1 R1 N1 => ?_)
    obtain ⟨b, us, rfl, hb, rb⟩ := (R1.top S1).lst
    exact ⟨b, us, rfl, .of hb, fun p hp => fin (fr := true) S1 E1 kk _ _ (.lst hp rb.rev)⟩
  | tuple ds =>
    cases e4
    refine .inr (tV_of S0 e0 fun v H1 G1 S1 E1 R1 N1 => ?_)
    obtain ⟨b, us, rfl, hb, rb⟩ := (R1.top S1).tup
    exact ⟨b, us, rfl, (hb.up S1.sub).sq, Res.tup (fun v H2 r => fin (fr := false) S1 E1 kk v H2 r) rb.rev⟩
  | _ => cases e4
def rCnt (tup : Bool) : V → List V → Hp → VK → Prop := fun x vs H Q => ∃ pa G xs v y, vs = [v] ∧ Sub G H ∧ RpT pa G H x (if tup then .tuple xs else .list xs) ∧ RpT pa G H v y ∧ (good 60 (.list xs) = true ∧ good 60 y = true) ∧ Q (.int ((xs.countP fun z => PyData.eqv z y : Nat) : Int)) H
theorem mt_count {X : Cx} (hu : X.A.units + 65 < cLine) : MtR X "list.count" (rCnt false) := by
  intro ps0 s σ H x vs v us Q I rx rv ⟨pa, G, xs, w, y, ev, gh, r1, r2, ⟨g1, g2⟩, q⟩
  subst ev
  obtain ⟨u2, rfl, ru⟩ := rv.one
  obtain ⟨as, q1⟩ := Dp.reads I (.list xs) x v (RpT.dp gh _ g1 r1) rx
  obtain ⟨bs, q2⟩ := Dp.reads I y w u2 (r2.dp gh _ g2) ru
  have px := PyData.plain_of_canLay0 _ (SeqAt.canLay_of_shaped (good_shaped g1))
  have deep := SeqAt.depth_of_shaped (good_shaped g2)
  have least := Nat.min_le_right (PyData.depthAll xs) y.depth
  obtain ⟨a, ws, rfl, -, -⟩ := RpT.lst r1
  cases rx
  cases q1 with
  | list h1 h2 h3 h4 => exact SeqAt.count_list_data ⟨_, h1, h2, _, h3⟩ h4 q2 (by simpa only [PyData.plain] using px) (PyData.plain_of_canLay0 _ (SeqAt.canLay_of_shaped (good_shaped g2))) (by omega) ⟨.int _, H, I.tok _, ⟨_, rfl⟩, q⟩
theorem mt_countT {X : Cx} (hu : X.A.units + 65 < cLine) : MtR X "tuple.count" (rCnt true) := by
  intro ps0 s σ H x vs v us Q I rx rv ⟨pa, G, xs, w, y, ev, gh, r1, r2, ⟨g1, g2⟩, q⟩
  subst ev
  obtain ⟨u2, rfl, ru⟩ := rv.one
  obtain ⟨as, q1⟩ := Dp.reads I (.tuple xs) x v (RpT.dp gh _ (n := 60) (by simpa [good] using g1) r1) rx
  obtain ⟨bs, q2⟩ := Dp.reads I y w u2 (r2.dp gh _ g2) ru
  have px := PyData.plain_of_canLay0 _ (SeqAt.canLay_of_shaped (good_shaped g1))
  have deep := SeqAt.depth_of_shaped (good_shaped g2)
  have least := Nat.min_le_right (PyData.depthAll xs) y.depth
  obtain ⟨a, ws, rfl, -, -⟩ := RpT.tup r1
  cases rx
  cases q1 with
  | tuple h1 h2 h3 h4 => exact SeqAt.count_tuple_data ⟨_, h1, h2, _, h3⟩ h4 q2 (by simpa only [PyData.plain] using px) (PyData.plain_of_canLay0 _ (SeqAt.canLay_of_shaped (good_shaped g2))) (by omega) ⟨.int _, H, I.tok _, ⟨_, rfl⟩, q⟩
/-- the receiver: a list, a tuple of ours -/
def tCnt (K : PySem.W.Frag) (to : TE) (t : TA) : TE := fun σ H Q => to σ H fun x H1 => (tyV K "list" x H1 ∧ t σ H1 fun vs H2 => rCnt false x vs H2 Q) ∨ ((∃ a xs, x = .ref a ∧ TupAt H1 a xs) ∧ t σ H1 fun vs H2 => rCnt true x vs H2 Q)
theorem pe_cnt {X : Cx} {o e : Expr} {to : TE} {t : TA} {apos cpos : Pos} (hu : X.A.units + 65 < cLine) (ho : PE X o to) (ha : L2.PA X [e] t) (hbase : attributeBase o "count" X.env (eval o X.env) = eval o X.env)
    (few : ((backTo cpos (starEach [e] X.env)).all (fun x => !x.1) && (backToKw cpos (keywordEach [] X.env)).all (fun x => x.1.isSome) && decide ([e].length + ([] : List Keyword).length + (if ([] : List Keyword).isEmpty then 0 else 1) < 30)) = true)
    (hline : (apos.endLine == cpos.line) = true) (hs : starEach [e] X.env = (false, eval e X.env) :: starEach [] X.env) : PE X (.Call (.Attribute o "count" apos) [e] [] cpos) (tCnt X.K to t) := by
  refine ⟨fun ps0 s σ H Q I h => wpAny_Call_method_late hbase few hline rfl (thn (ho.run ps0 s σ H _ I h) fun v s1 got => ?_)⟩
  obtain ⟨x, H1, I1, rel, got⟩ := got
  have rest : ∀ {id : String} {r : V → List V → Hp → VK → Prop}, MtR X id r → (t σ H1 fun vs H2 => r x vs H2 Q) → wpAny (model X.prog X.w) X.A (callWith cpos (.builtin id) [v] (backTo cpos (starEach [e] X.env)) (backToKw cpos (keywordEach [] X.env))) (EP X ps0 σ Q) X.xe s1 := fun {id r} m q => by
    have args := ha.run cpos ps0 s1 σ H1 _ I1 q
    rw [hs] at args ⊢
    exact Calls.callWith_builtin rfl (Calls.evalArgs_plain (thn args fun us s2 ⟨vs, H2, I2, r2, q2⟩ => m ps0 s2 σ H2 x vs v us Q I2 rel r2 q2))
  rcases got with ⟨ty, q⟩ | ⟨⟨a, xs, rfl, hT⟩, q⟩
  · obtain ⟨h1, h2⟩ := tyV_is I1 rel ty
    exact ⟨"list", _, PySem.F.plainAttrs_list, PySem.F.slot_list_count, PySem.F.type_list_count, h1, h2, rest (mt_count hu) q⟩
  · cases rel
    obtain ⟨ob, at1, bare⟩ := hT
    obtain ⟨here, -, _, _, ob2, at2, cls, -⟩ := I1.hok a _ at1
    exact ⟨"tuple", _, PySem.F.plainAttrs_tuple, PySem.F.slot_tuple_count, PySem.F.type_tuple_count, ⟨ob2, at2, cls⟩, fun b eb => by cases eb; exact ⟨ob, here, bare⟩, rest (mt_countT hu) q⟩
theorem few_one' {e : Expr} {cpos : Pos} {env : Env} (h : plX e = true) : ((backTo cpos (starEach [e] env)).all (fun x => !x.1) && (backToKw cpos (keywordEach [] env)).all (fun x => x.1.isSome)
      && decide ([e].length + ([] : List Keyword).length + (if ([] : List Keyword).isEmpty then 0 else 1) < 30)) = true := by
  rw [star_pl h]; rfl
theorem key_cnt {K : PySem.W.Frag} {i : Nat} {b : IE} {σ : L2.St} {H : Hp} {Q : VK} (h : tI (.blt .cnt (.cons (.var i) (.cons b .nil))) σ H Q) : tCnt K (tVar i) (tCons (tI b) tNil) σ H Q := by
  obtain ⟨pa, H0, G0, G, s, d, t, s3, S0, e, kk⟩ := h
  rw [evalE] at e
  obtain ⟨⟨xs, s2⟩, e1, e⟩ := obind e
  obtain ⟨⟨d', fr⟩, e4, e⟩ := obind e
  cases e
  rw [evalEs] at e1
  obtain ⟨⟨⟨d1, t1⟩, s1⟩, e0, e1⟩ := obind e1
  obtain ⟨⟨ys, s4⟩, e2, e1⟩ := obind e1
  cases e1
  rw [evalEs] at e2
  obtain ⟨⟨⟨d2, t2⟩, s5⟩, e3, e2⟩ := obind e2
  obtain ⟨⟨zs, s6⟩, e5, e2⟩ := obind e2
  rw [evalEs] at e5
  cases e5
  cases e2
  rw [evalE] at e0
  obtain ⟨⟨dd, f⟩, hp, e0⟩ := Option.map_eq_some_iff.mp e0
  cases e0
  have at1 : s.sl[i]? = some (some (dd, f)) := by
    unfold rd at hp
    obtain ⟨o, h1, h2⟩ := Option.bind_eq_some_iff.mp hp
    have h2 : o = some (dd, f) := h2
    rw [h1, h2]
  obtain ⟨v, ev, R⟩ : ∃ v, σ[i]? = some (some v) ∧ RT pa H0 G σ H s v dd (if f = true then .slot i else .fz) := by
    cases f with
    | true =>
      obtain ⟨a, xs, ds, e1, _⟩ := S0.ow i _ at1
      exact ⟨_, e1, ⟨true, at1, e1⟩⟩
    | false =>
      obtain ⟨v, e1, r⟩ := S0.fz i _ at1
      exact ⟨v, e1, r⟩
  change bltD .cnt [dd, d2] = _ at e4
  cases dd with
  | list ls =>
    change (if (good 60 (.list ls) && good 60 d2) = true then some (PyData.int ((ls.countP fun z => PyData.eqv z d2 : Nat) : Int), false) else none) = _ at e4
    split at e4
    · rename_i hz
      rw [Bool.and_eq_true] at hz
      cases e4
      obtain ⟨a, ws, ea, ha, ra⟩ := (R.top S0).lst
      subst ea
      refine ⟨.ref a, ev, .inl ⟨.inl ⟨rfl, ws, .of ha⟩, tV_of S0 e3 fun w H1 G1 S1 E1 R1 N1 => ?_⟩⟩
      exact ⟨pa, G1, ls, w, d2, rfl, S1.sub, (R.ext S1 E1).top S1, R1.top S1, hz, fin (fr := false) S1 E1 kk _ _ (.old (.int _))⟩
    · cases e4
  | tuple ls =>
    change (if (good 60 (.list ls) && good 60 d2) = true then some (PyData.int ((ls.countP fun z => PyData.eqv z d2 : Nat) : Int), false) else none) = _ at e4
    split at e4
    · rename_i hz
      rw [Bool.and_eq_true] at hz
      cases e4
      obtain ⟨a, ws, ea, ha, ra⟩ := (R.top S0).tup
      subst ea
      refine ⟨.ref a, ev, .inr ⟨⟨a, ws, rfl, ha.up S0.sub⟩, tV_of S0 e3 fun w H1 G1 S1 E1 R1 N1 => ?_⟩⟩
      exact ⟨pa, G1, ls, w, d2, rfl, S1.sub, (R.ext S1 E1).top S1, R1.top S1, hz, fin (fr := false) S1 E1 kk _ _ (.old (.int _))⟩
    · cases e4
  | _ => cases e4
def rIdx : V → List V → Hp → VK → Prop := fun x vs H Q => ∃ (pa : PA) (G : Hp), Sub G H ∧ ((∃ (bs : List Bool) (b : Bool), vs = [.bl b] ∧ RpT pa G H x (.list (bs.map .bool)) ∧ b ∈ bs ∧ Q (.int ((bs.idxOf b : Nat) : Int)) H) ∨
  (∃ (bs : List Int) (b : Int), vs = [.int b] ∧ RpT pa G H x (.list (bs.map .int)) ∧ b ∈ bs ∧ Q (.int ((bs.idxOf b : Nat) : Int)) H))
theorem goods_bools (n : Nat) : ∀ bs : List Bool, goods n (bs.map PyData.bool) = true
  | [] => by rw [List.map_nil, goods]
  | b :: bs => by rw [List.map_cons, goods, goods_bools n bs, good]; rfl
theorem goods_intsF (n : Nat) : ∀ bs : List Int, goods n (bs.map PyData.int) = true
  | [] => by rw [List.map_nil, goods]
  | b :: bs => by rw [List.map_cons, goods, goods_intsF n bs, good]; rfl
theorem mt_index {X : Cx} (hu : X.A.units + 65 < cLine) : MtR X "list.index" rIdx := by
  intro ps0 s σ H x vs v us Q I rx rv ⟨pa, G, gh, h⟩
  rcases h with ⟨bs, b, ev, r1, hb, q⟩ | ⟨bs, b, ev, r1, hb, q⟩
  · subst ev
    obtain ⟨u2, rfl, ru⟩ := rv.one
    cases ru
    obtain ⟨as, q1⟩ := Dp.reads I (.list (bs.map .bool)) x v (RpT.dp gh _ (n := 60) (by rw [good]; exact goods_bools _ bs) r1) rx
    obtain ⟨a, ws, rfl, ha, ra⟩ := RpT.lst r1
    obtain ⟨_, _, _, small⟩ := I.list (.of ha)
    have len2 := ra.len
    rw [List.length_map] at len2
    cases rx
    cases q1 with
    | list h1 h2 h3 h4 =>
      rename_i vs0 _ _
      refine PySem.W.index_list_datum (α := Bool) (x := b) (xs := bs) (vs := vs0.toList) ⟨_, h1, h2, _, by rw [Array.toArray_toList]; exact h3⟩ ⟨_, h4⟩ ⟨_, Reads.bool b⟩ ?_ ?_ hb ⟨.int _, H, I.tok _, ⟨_, rfl⟩, q⟩
      · show X.A.units + 1 + 0 < cLine
        omega
      · omega
  · subst ev
    obtain ⟨u2, rfl, ru⟩ := rv.one
    obtain ⟨tk, rfl⟩ := ru
    obtain ⟨as, q1⟩ := Dp.reads I (.list (bs.map .int)) x v (RpT.dp gh _ (n := 60) (by rw [good]; exact goods_intsF _ bs) r1) rx
    obtain ⟨a, ws, rfl, ha, ra⟩ := RpT.lst r1
    obtain ⟨_, _, _, small⟩ := I.list (.of ha)
    have len2 := ra.len
    rw [List.length_map] at len2
    cases rx
    cases q1 with
    | list h1 h2 h3 h4 =>
      rename_i vs0 _ _
      refine PySem.W.index_list_datum (α := Int) (x := b) (xs := bs) (vs := vs0.toList) ⟨_, h1, h2, _, by rw [Array.toArray_toList]; exact h3⟩ ⟨_, h4⟩ ⟨_, Reads.int b tk⟩ ?_ ?_ hb ⟨.int _, H, I.tok _, ⟨_, rfl⟩, q⟩
      · show X.A.units + 1 + 0 < cLine
        omega
      · omega
theorem boolsOf_some : ∀ {ds : List D} {bs : List Bool}, boolsOf ds = some bs → ds = bs.map .bool
  | [], bs, h => by cases h; rfl
  | .bool b :: r, bs, h => by
    obtain ⟨cs, h1, rfl⟩ := Option.map_eq_some_iff.mp h
    rw [boolsOf_some h1]; rfl
  | .none :: _, _, h => by cases h
  | .int _ :: _, _, h => by cases h
  | .str _ :: _, _, h => by cases h
  | .list _ :: _, _, h => by cases h
  | .tuple _ :: _, _, h => by cases h
  | .dict _ :: _, _, h => by cases h
theorem intsOf_someX : ∀ {ds : List D} {ns : List Int}, intsOf ds = some ns → ds = ns.map .int
  | [], ns, h => by cases h; rfl
  | .int b :: r, ns, h => by
    obtain ⟨cs, h1, rfl⟩ := Option.map_eq_some_iff.mp h
    rw [intsOf_someX h1]; rfl
  | .none :: _, _, h => by cases h
  | .bool _ :: _, _, h => by cases h
  | .str _ :: _, _, h => by cases h
  | .list _ :: _, _, h => by cases h
  | .tuple _ :: _, _, h => by cases h
  | .dict _ :: _, _, h => by cases h
theorem key_idx {K : PySem.W.Frag} {i : Nat} {b : IE} {σ : L2.St} {H : Hp} {Q : VK} (h : tI (.blt .idx (.cons (.var i) (.cons b .nil))) σ H Q) : tBM K "list" rIdx (tVar i) (tCons (tI b) tNil) σ H Q := by
  obtain ⟨pa, H0, G0, G, s, d, t, s3, S0, e, kk⟩ := h
  rw [evalE] at e
  obtain ⟨⟨xs, s2⟩, e1, e⟩ := obind e
  obtain ⟨⟨d', fr⟩, e4, e⟩ := obind e
  cases e
  rw [evalEs] at e1
  obtain ⟨⟨⟨d1, t1⟩, s1⟩, e0, e1⟩ := obind e1
  obtain ⟨⟨ys, s4⟩, e2, e1⟩ := obind e1
  cases e1
  rw [evalEs] at e2
  obtain ⟨⟨⟨d2, t2⟩, s5⟩, e3, e2⟩ := obind e2
  obtain ⟨⟨zs, s6⟩, e5, e2⟩ := obind e2
  rw [evalEs] at e5
  cases e5
  cases e2
  rw [evalE] at e0
  obtain ⟨⟨dd, f⟩, hp, e0⟩ := Option.map_eq_some_iff.mp e0
  cases e0
  have at1 : s.sl[i]? = some (some (dd, f)) := by
    unfold rd at hp
    obtain ⟨o, h1, h2⟩ := Option.bind_eq_some_iff.mp hp
    have h2 : o = some (dd, f) := h2
    rw [h1, h2]
  obtain ⟨v, ev, R⟩ : ∃ v, σ[i]? = some (some v) ∧ RT pa H0 G σ H s v dd (if f = true then .slot i else .fz) := by
    cases f with
    | true =>
      obtain ⟨a, xs, ds, e1, _⟩ := S0.ow i _ at1
      exact ⟨_, e1, ⟨true, at1, e1⟩⟩
    | false =>
      obtain ⟨v, e1, r⟩ := S0.fz i _ at1
      exact ⟨v, e1, r⟩
  change bltD .idx [dd, d2] = _ at e4
  cases dd with
  | list ls =>
    cases d2 with
    | bool y =>
      change ((boolsOf ls).bind fun bs => if y ∈ bs then some (PyData.int (bs.idxOf y : Nat), false) else none) = _ at e4
      obtain ⟨bs, hbs, e4⟩ := Option.bind_eq_some_iff.mp e4
      split at e4
      · rename_i hz
        cases e4
        have el := boolsOf_some hbs
        subst el
        obtain ⟨a, ws, ea, ha, ra⟩ := (R.top S0).lst
        subst ea
        refine ⟨.ref a, ev, .inl ⟨rfl, ws, .of ha⟩, tV_of S0 e3 fun w H1 G1 S1 E1 R1 N1 => ?_⟩
        exact ⟨pa, G1, S1.sub, .inl ⟨bs, y, by rw [(R1.top S1).bl], (R.ext S1 E1).top S1, hz, fin (fr := false) S1 E1 kk _ _ (.old (.int _))⟩⟩
      · cases e4
    | int y =>
      change ((intsOf ls).bind fun ns => if y ∈ ns then some (PyData.int (ns.idxOf y : Nat), false) else none) = _ at e4
      obtain ⟨bs, hbs, e4⟩ := Option.bind_eq_some_iff.mp e4
      split at e4
      · rename_i hz
        cases e4
        have el := intsOf_someX hbs
        subst el
        obtain ⟨a, ws, ea, ha, ra⟩ := (R.top S0).lst
        subst ea
        refine ⟨.ref a, ev, .inl ⟨rfl, ws, .of ha⟩, tV_of S0 e3 fun w H1 G1 S1 E1 R1 N1 => ?_⟩
        exact ⟨pa, G1, S1.sub, .inr ⟨bs, y, by rw [(R1.top S1).int], (R.ext S1 E1).top S1, hz, fin (fr := false) S1 E1 kk _ _ (.old (.int _))⟩⟩
      · cases e4
    | _ => cases e4
  | _ => cases e4
theorem seq_top {K : PySem.W.Frag} {pa : PA} {H0 G0 G H : Hp} {σ : L2.St} {s : S} {v : V} {d : D} {ds : List D} (S1 : Sim pa H0 G0 G σ H s) (r : RpT pa G H v d) (h : seqD d = some ds) :
    ∃ p ws, v = V.ref p ∧ (SqT K H p ws ∨ SqL K H p ws) ∧ Rps pa G ws ds := by
  cases d with
  | tuple xs =>
    cases h
    obtain ⟨a, ws, rfl, ha, ra⟩ := RpT.tup r
    exact ⟨a, ws, rfl, .inl (ha.up S1.sub).sq, ra⟩
  | list xs =>
    cases h
    obtain ⟨a, ws, rfl, ha, ra⟩ := RpT.lst r
    exact ⟨a, ws, rfl, .inr (.of ha), ra⟩
  | _ => cases h
theorem hard_top {pa : PA} {G H : Hp} {v : V} {d : D} (r : RpT pa G H v d) (h : hardD d = true) : Rp pa G v d := by
  cases d with
  | list xs => cases h
  | dict xs => cases h
  | _ => exact r
theorem stp_some {d1 d2 d : D} {fr : Bool} (e : bltD .stp [d1, d2] = some (d, fr)) : ∃ ds, seqD d1 = some ds ∧ hardD d2 = true ∧ ds.length ≤ 1000 ∧ d = .tuple (ds ++ [d2]) ∧ fr = false := by
  have e : ((seqD d1).bind fun xs => if (hardD d2 && decide (xs.length ≤ 1000)) = true then some (PyData.tuple (xs ++ [d2]), false) else none) = some (d, fr) := e
  obtain ⟨ds, h1, h2⟩ := Option.bind_eq_some_iff.mp e
  split at h2
  · rename_i z
    rw [Bool.and_eq_true] at z
    obtain ⟨z1, z2⟩ := z
    cases h2
    exact ⟨ds, h1, z1, of_decide_eq_true z2, rfl, rfl⟩
  · cases h2
theorem stl_some {d1 d2 d : D} {fr : Bool} (e : bltD .stl [d1, d2] = some (d, fr)) : ∃ ds, seqD d1 = some ds ∧ hardD d2 = true ∧ ds.length ≤ 1000 ∧ d = .list (ds ++ [d2]) ∧ fr = true := by
  have e : ((seqD d1).bind fun xs => if (hardD d2 && decide (xs.length ≤ 1000)) = true then some (PyData.list (xs ++ [d2]), true) else none) = some (d, fr) := e
  obtain ⟨ds, h1, h2⟩ := Option.bind_eq_some_iff.mp e
  split at h2
  · rename_i z
    rw [Bool.and_eq_true] at z
    obtain ⟨z1, z2⟩ := z
    cases h2
    exact ⟨ds, h1, z1, of_decide_eq_true z2, rfl, rfl⟩
  · cases h2
theorem sth_some {d1 d2 d : D} {fr : Bool} (e : bltD .sth [d1, d2] = some (d, fr)) : ∃ ds, seqD d2 = some ds ∧ hardD d1 = true ∧ ds.length ≤ 1000 ∧ d = .list (d1 :: ds) ∧ fr = true := by
  have e : ((seqD d2).bind fun xs => if (hardD d1 && decide (xs.length ≤ 1000)) = true then some (PyData.list (d1 :: xs), true) else none) = some (d, fr) := e
  obtain ⟨ds, h1, h2⟩ := Option.bind_eq_some_iff.mp e
  split at h2
  · rename_i z
    rw [Bool.and_eq_true] at z
    obtain ⟨z1, z2⟩ := z
    cases h2
    exact ⟨ds, h1, z1, of_decide_eq_true z2, rfl, rfl⟩
  · cases h2
theorem st3_some {d1 d2 d3 d : D} {fr : Bool} (e : bltD .st3 [d1, d2, d3] = some (d, fr)) : ∃ ds zs, seqD d1 = some ds ∧ seqD d3 = some zs ∧ hardD d2 = true ∧ ds.length ≤ 1000 ∧ zs.length ≤ 1000 ∧ d = .tuple (ds ++ (d2 :: zs)) ∧ fr = false := by
  have e : ((seqD d1).bind fun xs => (seqD d3).bind fun zs => if (hardD d2 && (decide (xs.length ≤ 1000) && decide (zs.length ≤ 1000))) = true then some (PyData.tuple (xs ++ (d2 :: zs)), false) else none) = some (d, fr) := e
  obtain ⟨ds, h1, h2⟩ := Option.bind_eq_some_iff.mp e
  obtain ⟨zs, h3, h2⟩ := Option.bind_eq_some_iff.mp h2
  split at h2
  · rename_i z
    rw [Bool.and_eq_true, Bool.and_eq_true] at z
    obtain ⟨z1, z2, z3⟩ := z
    cases h2
    exact ⟨ds, zs, h1, h3, z1, of_decide_eq_true z2, of_decide_eq_true z3, rfl, rfl⟩
  · cases h2
theorem key_stp {K : PySem.W.Frag} {a b : IE} {σ : L2.St} {H : Hp} {Q : VK} (h : tI (.blt .stp (.cons a (.cons b .nil))) σ H Q) : tTupF (StX.tStar K (tI a) (tCons (tI b) tNil)) σ H Q := by
  obtain ⟨pa, H0, G0, G, s, d, t, s3, S0, e, kk⟩ := h
  rw [evalE] at e
  obtain ⟨⟨xs, s2⟩, e1, e⟩ := obind e
  obtain ⟨⟨d', fr⟩, e4, e⟩ := obind e
  cases e
  rw [evalEs] at e1
  obtain ⟨⟨⟨d1, t1⟩, s1⟩, e0, e1⟩ := obind e1
  obtain ⟨⟨ys, s4⟩, e2, e1⟩ := obind e1
  cases e1
  rw [evalEs] at e2
  obtain ⟨⟨⟨d2, t2⟩, s5⟩, e3, e2⟩ := obind e2
  obtain ⟨⟨zs, s6⟩, e5, e2⟩ := obind e2
  rw [evalEs] at e5
  cases e5
  cases e2
  obtain ⟨ds, hx, hy, hl, rfl, rfl⟩ := stp_some e4
  refine tV_of S0 e0 fun v H1 G1 S1 E1 R1 N1 => ?_
  obtain ⟨p, ws, rfl, hp, ra⟩ := seq_top (K := K) S1 (R1.top S1) hx
  refine ⟨p, ws, rfl, hp, tV_of S1 e3 fun w H2 G2 S2 E2 R2 N2 => ?_⟩
  have rps : Rps pa G2 (ws ++ [w]) (ds ++ [d2]) := (Rps.mono E2.gk ra).app (.cons (hard_top (R2.top S2) hy) .nil)
  exact ⟨by rw [rps.len, List.length_append]; exact Nat.le_trans (Nat.add_le_add_right hl 1) (by decide), Res.tup (fun v H2 r => fin (fr := false) S2 (E1.trans S2 E2) kk v H2 r) rps⟩
theorem key_stl {K : PySem.W.Frag} {a b : IE} {σ : L2.St} {H : Hp} {Q : VK} (h : tI (.blt .stl (.cons a (.cons b .nil))) σ H Q) : tLst (StX.tStar K (tI a) (tCons (tI b) tNil)) σ H Q := by
  obtain ⟨pa, H0, G0, G, s, d, t, s3, S0, e, kk⟩ := h
  rw [evalE] at e
  obtain ⟨⟨xs, s2⟩, e1, e⟩ := obind e
  obtain ⟨⟨d', fr⟩, e4, e⟩ := obind e
  cases e
  rw [evalEs] at e1
  obtain ⟨⟨⟨d1, t1⟩, s1⟩, e0, e1⟩ := obind e1
  obtain ⟨⟨ys, s4⟩, e2, e1⟩ := obind e1
  cases e1
  rw [evalEs] at e2
  obtain ⟨⟨⟨d2, t2⟩, s5⟩, e3, e2⟩ := obind e2
  obtain ⟨⟨zs, s6⟩, e5, e2⟩ := obind e2
  rw [evalEs] at e5
  cases e5
  cases e2
  obtain ⟨ds, hx, hy, hl, rfl, rfl⟩ := stl_some e4
  refine tV_of S0 e0 fun v H1 G1 S1 E1 R1 N1 => ?_
  obtain ⟨p, ws, rfl, hp, ra⟩ := seq_top (K := K) S1 (R1.top S1) hx
  refine ⟨p, ws, rfl, hp, tV_of S1 e3 fun w H2 G2 S2 E2 R2 N2 => ?_⟩
  have rps : Rps pa G2 (ws ++ [w]) (ds ++ [d2]) := (Rps.mono E2.gk ra).app (.cons (hard_top (R2.top S2) hy) .nil)
  exact ⟨by rw [rps.len, List.length_append]; exact Nat.le_trans (Nat.add_le_add_right hl 1) (by decide), fun q hq => fin (fr := true) S2 (E1.trans S2 E2) kk _ _ (.lst hq rps)⟩
theorem key_sth {K : PySem.W.Frag} {a b : IE} {σ : L2.St} {H : Hp} {Q : VK} (h : tI (.blt .sth (.cons a (.cons b .nil))) σ H Q) : tLst (tCons (tI a) (StX.tStar K (tI b) tNil)) σ H Q := by
  obtain ⟨pa, H0, G0, G, s, d, t, s3, S0, e, kk⟩ := h
  rw [evalE] at e
  obtain ⟨⟨xs, s2⟩, e1, e⟩ := obind e
  obtain ⟨⟨d', fr⟩, e4, e⟩ := obind e
  cases e
  rw [evalEs] at e1
  obtain ⟨⟨⟨d1, t1⟩, s1⟩, e0, e1⟩ := obind e1
  obtain ⟨⟨ys, s4⟩, e2, e1⟩ := obind e1
  cases e1
  rw [evalEs] at e2
  obtain ⟨⟨⟨d2, t2⟩, s5⟩, e3, e2⟩ := obind e2
  obtain ⟨⟨zs, s6⟩, e5, e2⟩ := obind e2
  rw [evalEs] at e5
  cases e5
  cases e2
  obtain ⟨ds, hx, hy, hl, rfl, rfl⟩ := sth_some e4
  refine tV_of S0 e0 fun v H1 G1 S1 E1 R1 N1 => ?_
  refine tV_of S1 e3 fun w H2 G2 S2 E2 R2 N2 => ?_
  obtain ⟨p, ws, rfl, hp, ra⟩ := seq_top (K := K) S2 (R2.top S2) hx
  refine ⟨p, ws, rfl, hp, ?_⟩
  have rps : Rps pa G2 (v :: (ws ++ [])) (d1 :: ds) := .cons ((hard_top (R1.top S1) hy).mono E2.gk) (by rw [List.append_nil]; exact ra)
  exact ⟨by rw [rps.len, List.length_cons]; exact Nat.le_trans (Nat.add_le_add_right hl 1) (by decide), fun q hq => fin (fr := true) S2 (E1.trans S2 E2) kk _ _ (.lst hq rps)⟩
theorem key_st3 {K : PySem.W.Frag} {a b c : IE} {σ : L2.St} {H : Hp} {Q : VK} (h : tI (.blt .st3 (.cons a (.cons b (.cons c .nil)))) σ H Q) : tTupF (StX.tStar K (tI a) (tCons (tI b) (StX.tStar K (tI c) tNil))) σ H Q := by
  obtain ⟨pa, H0, G0, G, s, d, t, s3, S0, e, kk⟩ := h
  rw [evalE] at e
  obtain ⟨⟨xs, s2⟩, e1, e⟩ := obind e
  obtain ⟨⟨d', fr⟩, e4, e⟩ := obind e
  cases e
  rw [evalEs] at e1
  obtain ⟨⟨⟨d1, t1⟩, s1⟩, e0, e1⟩ := obind e1
  obtain ⟨⟨ys, s4⟩, e2, e1⟩ := obind e1
  cases e1
  rw [evalEs] at e2
  obtain ⟨⟨⟨d2, t2⟩, s5⟩, e3, e2⟩ := obind e2
  obtain ⟨⟨zs, s6⟩, e5, e2⟩ := obind e2
  cases e2
  rw [evalEs] at e5
  obtain ⟨⟨⟨d3, t3⟩, s7⟩, e6, e5⟩ := obind e5
  obtain ⟨⟨us, s8⟩, e7, e5⟩ := obind e5
  rw [evalEs] at e7
  cases e7
  cases e5
  obtain ⟨ds, fs, hx, hz, hy, hl, hl2, rfl, rfl⟩ := st3_some e4
  refine tV_of S0 e0 fun v H1 G1 S1 E1 R1 N1 => ?_
  obtain ⟨p, ws, rfl, hp, ra⟩ := seq_top (K := K) S1 (R1.top S1) hx
  refine ⟨p, ws, rfl, hp, tV_of S1 e3 fun w H2 G2 S2 E2 R2 N2 => tV_of S2 e6 fun u H3 G3 S3 E3 R3 N3 => ?_⟩
  obtain ⟨q, gs, rfl, hq, rc⟩ := seq_top (K := K) S3 (R3.top S3) hz
  refine ⟨q, gs, rfl, hq, ?_⟩
  have E12 := E1.trans S2 E2
  have rps : Rps pa G3 (ws ++ (w :: (gs ++ []))) (ds ++ (d2 :: fs)) := (Rps.mono E3.gk (Rps.mono E2.gk ra)).app (.cons (Rp.mono E3.gk (hard_top (R2.top S2) hy)) (by rw [List.append_nil]; exact rc))
  refine ⟨?_, Res.tup (fun v H2 r => fin (fr := false) S3 (E12.trans S3 E3) kk v H2 r) rps⟩
  rw [rps.len, List.length_append, List.length_cons]
  exact Nat.le_trans (Nat.add_le_add hl (Nat.succ_le_succ hl2)) (by decide)
end Fs

set_option Elab.async false
set_option linter.all false
set_option maxRecDepth 100000
set_option maxHeartbeats 4000000
namespace Fs
open PySem PySem.Spec PyProof.Rows L2

section
variable {X : Cx} {a b c d : Expr} {pos : Pos} {ta tb tc td : TE}
/-- a op1 b op2 c op3 d -/
def tChain3 (r r' r'' : R2) (ta tb tc td : TE) : TE := fun σ H Q => ta σ H fun x H1 => tb σ H1 fun y H2 => r x y H2 fun z H3 => ∃ k, z = .bl k ∧
  (if k = true then tc σ H3 fun w H4 => r' y w H4 fun z2 H5 => ∃ m, z2 = .bl m ∧ (if m = true then td σ H5 fun u H6 => r'' w u H6 Q else Q (.bl false) H5) else Q (.bl false) H3)
theorem pe_chain3 {op op' op'' : CmpOp} {r r' r'' : R2} (ho : OpR X (compareOp op) r) (ho' : OpR X (compareOp op') r') (ho'' : OpR X (compareOp op'') r'') (ha : PE X a ta) (hb : PE X b tb) (hc : PE X c tc) (hd : PE X d td)
    (hm : lastMarks [op, op', op''] [b, c, d] = false) : PE X (.Compare a [op, op', op''] [b, c, d] pos) (tChain3 r r' r'' ta tb tc td) := by
  refine ⟨fun pins s σ H Q I h => ?_⟩
  refine Compare_chain (thn (ha.run pins s σ H _ I h) fun v s1 ⟨x, H1, I1, r1, q1⟩ => chain_link (thn (hb.run pins s1 σ H1 _ I1 q1) fun u s2 ⟨y, H2, I2, r2, q2⟩ =>
    thn (ho pins s2 σ H2 x y v u _ I2 r1 r2 q2) fun d' s3 ⟨z, H3, I3, r3, k, e, q3⟩ => ?_)) hm
  subst e
  cases r3
  refine wpAny_truthy_bool ?_
  cases k with
  | false => exact ite_ff ⟨.bl false, H3, I3, rfl, q3⟩
  | true =>
    refine ite_tt (chain_link (thn (hc.run pins s3 σ H3 _ I3 q3) fun w' s4 ⟨z', H4, I4, r4, q4⟩ => thn (ho' pins s4 σ H4 y z' u w' _ I4 r2 r4 q4) fun d2 s5 ⟨z2, H5, I5, r5, m, e2, q5⟩ => ?_))
    subst e2
    cases r5
    refine wpAny_truthy_bool ?_
    cases m with
    | false => exact ite_ff ⟨.bl false, H5, I5, rfl, q5⟩
    | true => exact ite_tt (chain_last (thn (hd.run pins s5 σ H5 _ I5 q5) fun u2 s6 ⟨y2, H6, I6, r6, q6⟩ => ho'' pins s6 σ H6 z' y2 w' u2 Q I6 r4 r6 q6))
theorem pt_chain3 {op op' op'' : CmpOp} {r r' r'' : R2} (ho : OpR X (compareOp op) r) (ho' : OpR X (compareOp op') r') (ho'' : OpR X (compareOp op'') r'') (ha : PE X a ta) (hb : PE X b tb) (hc : PE X c tc) (hd : PE X d td)
    (hm : lastMarks [op, op', op''] [b, c, d] = false) : PT X (.Compare a [op, op', op''] [b, c, d] pos) (tTest (tChain3 r r' r'' ta tb tc td)) := by
  refine ⟨fun pins s σ H Q I h => ?_⟩
  refine isTrue_chain (thn (ha.run pins s σ H _ I h) fun v s1 ⟨x, H1, I1, r1, q1⟩ => test_link (thn (hb.run pins s1 σ H1 _ I1 q1) fun u s2 ⟨y, H2, I2, r2, q2⟩ =>
    thn (ho pins s2 σ H2 x y v u _ I2 r1 r2 q2) fun d' s3 ⟨z, H3, I3, r3, k, e, q3⟩ => ?_)) hm
  subst e
  cases r3
  refine wpAny_truthy_bool ?_
  cases k with
  | false =>
    obtain ⟨k', e', q'⟩ := q3
    cases e'
    exact ite_ff ⟨H3, I3, q'⟩
  | true =>
    refine ite_tt (test_link (thn (hc.run pins s3 σ H3 _ I3 q3) fun w' s4 ⟨z', H4, I4, r4, q4⟩ => thn (ho' pins s4 σ H4 y z' u w' _ I4 r2 r4 q4) fun d2 s5 ⟨z2, H5, I5, r5, m, e2, q5⟩ => ?_))
    subst e2
    cases r5
    refine wpAny_truthy_bool ?_
    cases m with
    | false =>
      obtain ⟨k', e', q'⟩ := q5
      cases e'
      exact ite_ff ⟨H5, I5, q'⟩
    | true =>
      refine ite_tt (test_last (thn (hd.run pins s5 σ H5 _ I5 q5) fun u2 s6 ⟨y2, H6, I6, r6, q6⟩ => thn (ho'' pins s6 σ H6 z' y2 w' u2 _ I6 r4 r6 q6) fun d3 s7 ⟨z3, H7, I7, r7, k3, e3, q7⟩ => ?_))
      subst e3
      cases r7
      exact wpAny_truthy_bool ⟨H7, I7, q7⟩
theorem lastMarks3 {o p q : CmpOp} {b c d : Expr} (h : plX d = true) : lastMarks [o, p, q] [b, c, d] = false := mark_pl h
end

/-- f(*e) -/
theorem pe_gcallS {X : Cx} {k : Nat} {f : Addr} {fd : FuncData} {ps : List Str} {sp : GSp} {x : Str} {p pos sp_ : Pos} {e : Expr} {te : TE}
    (F : GFn (wdOf X) k f fd ps sp) (hr : Room k X.A) (hgd : X.A.guards = some []) (hg : Gl X x) (hm : X.mg x = some (.ref f)) (hk : PySem.W.keepIn X.K (.ref f) = true) (hb : Binds X.K fd ps []) (he : PE X e te)
    (hdb : (x == ("__debug__" : Str)) = false) (hst : starEach [.Starred e sp_] X.env = [(true, eval e X.env)] := by rfl) :
    PE X (.Call (.Name x p) [.Starred e sp_] [] pos) (fun σ H Q => te σ H fun y H1 => ∃ a xs, y = V.ref a ∧ (SqT X.K H1 a xs ∨ SqL X.K H1 a xs) ∧ sp xs H1 Q) := by
  refine ⟨fun pins s σ H Q I h => ?_⟩
  refine wpAny_Call_Name_kw (ld_glob I hg hm ?_ hdb)
  refine PySem.W.callWith_S (h₀ := X.base) I.ok.mod.kin hk (thn (he.run pins s σ H _ I h) fun v s1 ⟨y, H1, I1, ry, a, xs, ey, hxs, q⟩ => ?_) hst
  subst ey
  obtain rfl : v = Value.ref a := ry
  refine StX.star_any I1 hxs fun us s2 I2 r => ⟨I2.kIn, ?_⟩
  have n1 : (us ++ ([] : List Value)).length = ps.length := by rw [List.append_nil, ← r.length]; exact F.len _ _ _ q
  have b1 := hb s2 us I2.kIn n1
  rw [List.append_nil] at b1
  refine wpAny_call (codeAny_mono (F.run X.A X.stack s2 H1 ⟨us, []⟩ us xs Q hr hgd I2.env0 b1 r q) fun r s' got => ?_)
  match r, got with
  | .ok (.ret u), got => exact I2.after got

/-- a def that a call may reach -/
structure FnAt (X : Cx) (f : Addr) (sp : GSp) : Prop where
  of : ∃ k fd ps, GFn (wdOf X) k f fd ps sp ∧ Room k X.A ∧ PySem.W.keepIn X.K (.ref f) = true ∧ Binds X.K fd ps []
/-- x(e, ..), x a slot -/
theorem pe_gcallL {X : Cx} {i : Nat} {x : Str} {p pos : Pos} {e : Expr} {es : List Expr} {t : TA} (hgd : X.A.guards = some []) (hN : X.N[i]? = some x) (hv : Vis X.env.scope x) (ha : L2.PA X (e :: es) t)
    (hdb : (x == ("__debug__" : Str)) = false) (hcd : (x == ("__classdict__" : Str)) = false) (he : starEach (e :: es) X.env = (false, eval e X.env) :: starEach es X.env) (hpl : (backTo pos (starEach es X.env)).any (·.1) = false) :
    PE X (.Call (.Name x p) (e :: es) [] pos) (fun σ H Q => ∃ f sp, σ[i]? = some (some (.ref f)) ∧ FnAt X f sp ∧ t σ H fun vs H1 => sp vs H1 Q) := by
  refine ⟨fun pins s σ H Q I h => ?_⟩
  obtain ⟨f, sp, hs, ⟨⟨k, fd, ps, F, hr, hk, hb⟩⟩, ht⟩ := h
  refine wpAny_Call_Name_kw (thn ((pe_var (pos := p) hN hv hdb hcd).run pins s σ H (fun v H1 => v = .ref f ∧ H1 = H) I ⟨.ref f, hs, rfl, rfl⟩) fun u s0 ⟨v, H0, I0, r0, ev, eH⟩ => ?_)
  subst ev
  rw [eH] at I0
  cases r0
  refine PySem.W.callWith_K (h₀ := X.base) I.ok.mod.kin hk (thn (ha.run pos pins s0 σ H _ I0 ht) fun us s1 ⟨vs, H1, I1, r, q⟩ => ⟨I1.kIn, ?_⟩) he hpl
  have n1 : (us ++ ([] : List Value)).length = ps.length := by rw [List.append_nil, ← r.length]; exact F.len _ _ _ q
  have b1 := hb s1 us I1.kIn n1
  rw [List.append_nil] at b1
  refine wpAny_call (codeAny_mono (F.run X.A X.stack s1 H1 ⟨us, []⟩ us vs Q hr hgd I1.env0 b1 r q) fun r s' got => ?_)
  match r, got with
  | .ok (.ret u), got => exact I1.after got
/-- x(*e), x a slot -/
theorem pe_gcallLS {X : Cx} {i : Nat} {x : Str} {p pos sp_ : Pos} {e : Expr} {te : TE} (hgd : X.A.guards = some []) (hN : X.N[i]? = some x) (hv : Vis X.env.scope x) (he : PE X e te)
    (hdb : (x == ("__debug__" : Str)) = false) (hcd : (x == ("__classdict__" : Str)) = false) (hst : starEach [.Starred e sp_] X.env = [(true, eval e X.env)] := by rfl) :
    PE X (.Call (.Name x p) [.Starred e sp_] [] pos) (fun σ H Q => ∃ f sp, σ[i]? = some (some (.ref f)) ∧ FnAt X f sp ∧ te σ H fun y H1 => ∃ a xs, y = V.ref a ∧ (SqT X.K H1 a xs ∨ SqL X.K H1 a xs) ∧ sp xs H1 Q) := by
  refine ⟨fun pins s σ H Q I h => ?_⟩
  obtain ⟨f, sp, hs, ⟨⟨k, fd, ps, F, hr, hk, hb⟩⟩, ht⟩ := h
  refine wpAny_Call_Name_kw (thn ((pe_var (pos := p) hN hv hdb hcd).run pins s σ H (fun v H1 => v = .ref f ∧ H1 = H) I ⟨.ref f, hs, rfl, rfl⟩) fun u s0 ⟨v, H0, I0, r0, ev, eH⟩ => ?_)
  subst ev
  rw [eH] at I0
  cases r0
  refine PySem.W.callWith_S (h₀ := X.base) I.ok.mod.kin hk (thn (he.run pins s0 σ H _ I0 ht) fun v s1 ⟨y, H1, I1, ry, a, xs, ey, hxs, q⟩ => ?_) hst
  subst ey
  obtain rfl : v = Value.ref a := ry
  refine StX.star_any I1 hxs fun us s2 I2 r => ⟨I2.kIn, ?_⟩
  have n1 : (us ++ ([] : List Value)).length = ps.length := by rw [List.append_nil, ← r.length]; exact F.len _ _ _ q
  have b1 := hb s2 us I2.kIn n1
  rw [List.append_nil] at b1
  refine wpAny_call (codeAny_mono (F.run X.A X.stack s2 H1 ⟨us, []⟩ us xs Q hr hgd I2.env0 b1 r q) fun r s' got => ?_)
  match r, got with
  | .ok (.ret u), got => exact I2.after got

section
variable {X : Cx} {d : Addr} {es : Array DictEntry} {n : Nat} {o e f : Expr} {apos cpos : Pos} {ty tx : TE}
theorem ix_tab (D : KDict X.K X.w d es n) : IxR X (fun x y H Q => ∃ (z : Str) (u0 : Value) (v0 : V), x = .ref d ∧ y = .str z ∧ PySem.W.nsIn X.K d z = some (some u0) ∧ RelV v0 u0 ∧ Q v0 H) := by
  intro value slice pins s σ H x y v u Q I rx ry h hs
  have h0 := h
  obtain ⟨z, u0, v0, rfl, rfl, e, r, q⟩ := h
  have rx0 := rx
  cases rx
  exact tail_any (kd_type D I) PySem.F.slot_dict_getitem.lookup (op_item_kd D pins s σ H _ _ _ _ Q I rx0 ry h0) hs
theorem pe_tabGet (D : KDict X.K X.w d es n) (ho : PE X o (tC (.ref d))) (he : PE X e ty) (hf : PE X f tx) (m : M2 X o "get" apos e f cpos) :
    PE X (.Call (.Attribute o "get" apos) [e, f] [] cpos) (fun σ H Q => ty σ H fun y H1 => tx σ H1 fun z H2 => ∃ (t : Str) (r : Option Value) (g : V), y = .str t ∧ PySem.W.nsIn X.K d t = some r ∧ (∀ rz, RelV z rz → RelV g (r.getD rz)) ∧ Q g H2) := by
  refine ⟨fun pins s σ H Q I h => ?_⟩
  refine wpAny_Call_method m.base m.few m.line PySem.F.plainAttrs_dict PySem.F.slot_dict_get PySem.F.type_dict_get (thn (ho.run pins s σ H (fun x H1 => x = .ref d ∧ ty σ H1 fun y H2 => tx σ H2 fun z H3 => ∃ (t : Str) (r : Option Value) (g : V), y = .str t ∧ PySem.W.nsIn X.K d t = some r ∧ (∀ rz, RelV z rz → RelV g (r.getD rz)) ∧ Q g H3) I ⟨rfl, h⟩) fun u s1 ⟨x, H1, I1, rx, ex, q1⟩ => ?_)
  subst ex
  obtain rfl : u = Value.ref d := rx
  have mp := PySem.W.mapOf_K (prog := X.prog) (w := X.w) I1.kIn D.at_ D.lit
  refine ⟨mp.typeIs, mp.noDict, ?_⟩
  rw [m.trees]
  refine Calls.callWith_builtin rfl (Calls.evalArgs_plain (Calls.spliced_cons (thn (he.run pins s1 σ H1 _ I1 q1) fun iv s2 ⟨y, H2, I2, ry, q2⟩ =>
    Calls.spliced_cons (thn (hf.run pins s2 σ H2 _ I2 q2) fun fv s3 ⟨z, H3, I3, rz, t, r, g, ey, en, hg, q3⟩ => Calls.spliced_nil ?_))))
  subst ey
  obtain ⟨tk, rfl⟩ := ry
  have mp3 := PySem.W.mapOf_K (prog := X.prog) (w := X.w) I3.kIn D.at_ D.lit
  refine call_meetsIn PySem.F.slot_dict_get mp3.typeIs PySem.F.entry_dict_get (PySem.F.args_dict_get_3 _ _ _) (meets_dict_get_default (strKind X.prog X.w) d (PySem.strKind_is X.prog X.w t tk) D.low fv) ⟨_, mp3, ?_⟩
  rw [PySem.W.find_K D.at_ en]
  exact ⟨g, H3, I3.tok _, hg _ rz, q3⟩
end
section
variable {k : Nat} {X : Cx} {σ : L2.St} {H : Hp} {Q : VK}
theorem key_cmp3 {o p q : CmpOp} {a b c d : IE} (h : tI (.cmp3 o p q a b c d) σ H Q) : tChain3 (rC2 o) (rC2 p) (rC2 q) (tI a) (tI b) (tI c) (tI d) σ H Q := by
  obtain ⟨pa, H0, G0, G, s, d0, t, s3, S0, e, kk⟩ := h
  rw [evalE] at e
  obtain ⟨⟨⟨d1, t1⟩, s1⟩, e1, e⟩ := obind e
  obtain ⟨⟨⟨d2, t2⟩, s2⟩, e2, e⟩ := obind e
  obtain ⟨b1, e3, e⟩ := obind e
  refine two S0 e1 e2 fun v w H2 G2 S2 E2 R1 N1 R2 N2 => ⟨pa, G2, d1, d2, b1, S2.sub, R1.top S2, R2.top S2, e3, b1, rfl, ?_⟩
  cases b1 with
  | true =>
    rw [if_pos rfl] at e ⊢
    obtain ⟨⟨⟨d3, t3⟩, s4⟩, e4, e⟩ := obind e
    obtain ⟨m, e5, e⟩ := obind e
    refine tV_of S2 e4 fun z H3 G3 S3 E3 R3 N3 => ⟨pa, G3, d2, d3, m, S3.sub, (R2.ext S3 E3).top S3, R3.top S3, e5, m, rfl, ?_⟩
    cases m with
    | true =>
      rw [if_pos rfl] at e ⊢
      obtain ⟨⟨⟨d4, t4⟩, s5⟩, e6, e⟩ := obind e
      obtain ⟨j, e7, e⟩ := obind e
      cases e
      exact tV_of S3 e6 fun z2 H4 G4 S4 E4 R4 N4 => ⟨pa, G4, d3, d4, j, S4.sub, (R3.ext S4 E4).top S4, R4.top S4, e7, kk _ H4 G4 S4 ((E2.trans S3 E3).trans S4 E4) (.bl j) nofz⟩
    | false =>
      rw [if_neg (by decide)] at e ⊢
      cases e
      exact kk _ H3 G3 S3 (E2.trans S3 E3) (.bl false) nofz
  | false =>
    rw [if_neg (by decide)] at e ⊢
    cases e
    exact kk _ H2 G2 S2 E2 (.bl false) nofz
theorem tupD_some {d : D} {ds : List D} (h : tupD d = some ds) : d = .tuple ds := by
  unfold tupD at h
  split at h
  · cases h; rfl
  · cases h
theorem key_calS {K : PySem.W.Frag} {x : Str} {F : Fn} {n : Nat} {a : IE} (h : tI (.calS x F n a) σ H Q) : tI a σ H fun y H1 => ∃ p xs, y = V.ref p ∧ (SqT K H1 p xs ∨ SqL K H1 p xs) ∧ spF F n xs H1 Q := by
  obtain ⟨pa, H0, G0, G, s, d, t, s2, S0, e, kk⟩ := h
  rw [evalE] at e
  obtain ⟨⟨⟨d1, t1⟩, s1⟩, e1, ea⟩ := obind e
  clear e
  obtain ⟨ds, e0, e⟩ := obind ea
  clear ea
  have e0' := tupD_some e0
  dsimp only at e0'
  subst e0'
  by_cases hl : ds.length = n
  case neg =>
    rw [if_neg hl] at e
    cases e
  rw [if_pos hl] at e
  obtain ⟨⟨⟨d', fr⟩, pn⟩, e2, e⟩ := obind e
  dsimp only at e e2
  refine tV_of S0 e1 fun v H1 G1 S1 E1 R1 N1 => ?_
  obtain ⟨p, ws, rfl, hp, ra⟩ := seq_top (K := K) (ds := ds) S1 (R1.top S1) rfl
  refine ⟨p, ws, rfl, hp, pa, G1, ds, s1.pn, d', fr, pn, hl, S1.sub, S1.pen, ra, e2, fun v H2 G2 kept g1 g2 nw hpn res => ?_⟩
  by_cases z : scal d' = true
  · rw [if_pos z] at e
    cases e
    have fr0 : fr = false := by
      cases fr with
      | false => rfl
      | true =>
        rw [if_pos rfl] at res
        obtain ⟨_, _, _, _, rfl, _⟩ := res
        cases z
    subst fr0
    rw [if_neg (by decide)] at res
    obtain ⟨S2, E2⟩ := S1.call kept .refl (Sub.keptPen S1 kept) (fun _ _ h => .inl h) (hpn.back S1.pen g1)
    exact kk v H2 G1 S2 (E1.trans S2 E2) (Rp.scal_mono z res) nofz
  · rw [if_neg z] at e
    cases e
    obtain ⟨S2, E2⟩ := S1.call kept g1 g2 nw hpn
    refine kk v H2 G2 S2 (E1.trans S2 E2) ?_ ?_
    · cases fr with
      | false => rw [if_neg (by decide)] at res; exact res
      | true =>
        rw [if_pos rfl] at res
        obtain ⟨a, ys, es', rfl, rfl, ha, ha2, r, g⟩ := res
        obtain ⟨n1, n2, n3, n4⟩ := S1.none0 ha
        exact ⟨a, ys, es', rfl, rfl, ha2, r, g, n1, n3, n4⟩
    · cases fr with
      | false => exact nofz
      | true =>
        rw [if_pos rfl] at res
        obtain ⟨a, ys, es', rfl, rfl, ha, ha2, r, g⟩ := res
        intro _ b e
        cases e
        exact E1.back ha S1
theorem fn_slot {α : Type} {pa : PA} {H0 G0 G : Hp} {s : S} {i : Nat} {d : D} {f : Bool} {adr : Str → Nat} {fs : List (Str × α)} {a : α} (S0 : Sim pa H0 G0 G σ H s) (e : rd s i = some (d, f)) (h : fnOf adr fs d = some a) :
    ∃ x, (x, a) ∈ fs ∧ σ[i]? = some (some (.ref (adr x))) := by
  obtain ⟨x, hx, rfl⟩ := fnOf_mem h
  refine ⟨x, hx, ?_⟩
  unfold rd at e
  obtain ⟨o, h1, h2⟩ := Option.bind_eq_some_iff.mp e
  have e2 : s.sl[i]? = some (some (fnD adr x, f)) := by rw [h1]; exact congrArg some h2
  cases f with
  | true =>
    obtain ⟨_, _, _, _, z, _⟩ := S0.ow i _ e2
    cases z
  | false =>
    obtain ⟨v, h3, r⟩ := S0.fz i _ e2
    unfold fnD at r
    generalize hc : ((adr x : Nat) : Int) = c at r
    cases r with
    | fn =>
      rename_i C
      have : adr x = C := by exact_mod_cast hc
      rw [this]; exact h3
theorem key_calLS {X : Cx} {i : Nat} {adr : Str → Nat} {fs : List (Str × (Fn × Nat))} {a : IE} (fa : ∀ p ∈ fs, FnAt X (adr p.1) (spF p.2.1 p.2.2)) (h : tI (.calLS i adr fs a) σ H Q) : ∃ f sp, σ[i]? = some (some (.ref f)) ∧ FnAt X f sp ∧ tI a σ H fun y H1 => ∃ p xs, y = V.ref p ∧ (SqT X.K H1 p xs ∨ SqL X.K H1 p xs) ∧ sp xs H1 Q := by
  obtain ⟨pa, H0, G0, G, s, d, t, s2, S0, e, kk⟩ := h
  rw [evalE] at e
  obtain ⟨⟨d0, f0⟩, er, e⟩ := obind e
  obtain ⟨⟨F, n⟩, ef, e⟩ := obind e
  obtain ⟨x0, hx, hs⟩ := fn_slot S0 er ef
  refine ⟨_, _, hs, fa _ hx, ?_⟩
  obtain ⟨⟨⟨d1, t1⟩, s1⟩, e1, ea⟩ := obind e
  clear e
  obtain ⟨ds, e0, e⟩ := obind ea
  clear ea
  have e0' := tupD_some e0
  dsimp only at e0'
  subst e0'
  by_cases hl : ds.length = n
  case neg =>
    rw [if_neg hl] at e
    cases e
  rw [if_pos hl] at e
  obtain ⟨⟨⟨d', fr⟩, pn⟩, e2, e⟩ := obind e
  dsimp only at e e2
  refine tV_of S0 e1 fun v H1 G1 S1 E1 R1 N1 => ?_
  obtain ⟨p, ws, rfl, hp, ra⟩ := seq_top (K := X.K) (ds := ds) S1 (R1.top S1) rfl
  refine ⟨p, ws, rfl, hp, pa, G1, ds, s1.pn, d', fr, pn, hl, S1.sub, S1.pen, ra, e2, fun v H2 G2 kept g1 g2 nw hpn res => ?_⟩
  by_cases z : scal d' = true
  · rw [if_pos z] at e
    cases e
    have fr0 : fr = false := by
      cases fr with
      | false => rfl
      | true =>
        rw [if_pos rfl] at res
        obtain ⟨_, _, _, _, rfl, _⟩ := res
        cases z
    subst fr0
    rw [if_neg (by decide)] at res
    obtain ⟨S2, E2⟩ := S1.call kept .refl (Sub.keptPen S1 kept) (fun _ _ h => .inl h) (hpn.back S1.pen g1)
    exact kk v H2 G1 S2 (E1.trans S2 E2) (Rp.scal_mono z res) nofz
  · rw [if_neg z] at e
    cases e
    obtain ⟨S2, E2⟩ := S1.call kept g1 g2 nw hpn
    refine kk v H2 G2 S2 (E1.trans S2 E2) ?_ ?_
    · cases fr with
      | false => rw [if_neg (by decide)] at res; exact res
      | true =>
        rw [if_pos rfl] at res
        obtain ⟨a, ys, es', rfl, rfl, ha, ha2, r, g⟩ := res
        obtain ⟨n1, n2, n3, n4⟩ := S1.none0 ha
        exact ⟨a, ys, es', rfl, rfl, ha2, r, g, n1, n3, n4⟩
    · cases fr with
      | false => exact nofz
      | true =>
        rw [if_pos rfl] at res
        obtain ⟨a, ys, es', rfl, rfl, ha, ha2, r, g⟩ := res
        intro _ b e
        cases e
        exact E1.back ha S1
theorem key_calL {X : Cx} {i : Nat} {adr : Str → Nat} {fs : List (Str × Fn)} {es : IEs} (fa : ∀ p ∈ fs, FnAt X (adr p.1) (spF p.2 es.len)) (h : tI (.calL i adr fs es) σ H Q) : ∃ f sp, σ[i]? = some (some (.ref f)) ∧ FnAt X f sp ∧ tAs es σ H fun vs H1 => sp vs H1 Q := by
  obtain ⟨pa, H0, G0, G, s, d, t, s2, S0, e, kk⟩ := h
  rw [evalE] at e
  obtain ⟨⟨d0, f0⟩, er, e⟩ := obind e
  obtain ⟨F, ef, e⟩ := obind e
  obtain ⟨x0, hx, hs⟩ := fn_slot S0 er ef
  refine ⟨_, _, hs, fa _ hx, ?_⟩
  obtain ⟨⟨xs, s1⟩, e1, e⟩ := obind e
  obtain ⟨⟨⟨d', fr⟩, pn⟩, e2, e⟩ := obind e
  dsimp only at e e2
  refine ⟨pa, H0, G0, G, s, xs, s1, S0, e1, fun vs H1 G1 S1 E1 Rs => ?_⟩
  obtain ⟨G', S', E', k', rps⟩ := Rs.keep S1 E1
  have pn' : PenAt pa G' H1 s1.pn := by have := S'.pen; rw [keeps_pn] at this; exact this
  refine ⟨pa, G', xs.map (·.1), s1.pn, d', fr, pn, by rw [List.length_map]; exact ev_len es e1, S'.sub, pn', rps, e2, fun v H2 G2 kept g1 g2 nw hp res => ?_⟩
  by_cases z : scal d' = true
  · rw [if_pos z] at e
    cases e
    have fr0 : fr = false := by
      cases fr with
      | false => rfl
      | true =>
        rw [if_pos rfl] at res
        obtain ⟨_, _, _, _, rfl, _⟩ := res
        cases z
    subst fr0
    rw [if_neg (by decide)] at res
    obtain ⟨S2, E2⟩ := S1.call kept .refl (Sub.keptPen S1 kept) (fun _ _ h => .inl h) (hp.back S1.pen (k'.trans g1))
    exact kk v H2 G1 S2 (E1.trans S2 E2) (Rp.scal_mono z res) nofz
  · rw [if_neg z] at e
    cases e
    obtain ⟨S2, E2⟩ := S'.call kept g1 g2 nw hp
    refine kk v H2 G2 S2 (E'.trans S2 E2) ?_ ?_
    · cases fr with
      | false => rw [if_neg (by decide)] at res; exact res
      | true =>
        rw [if_pos rfl] at res
        obtain ⟨a, ys, es', rfl, rfl, ha, ha2, r, g⟩ := res
        obtain ⟨n1, n2, n3, n4⟩ := S'.none0 ha
        exact ⟨a, ys, es', rfl, rfl, ha2, r, g, n1, n3, n4⟩
    · cases fr with
      | false => exact nofz
      | true =>
        rw [if_pos rfl] at res
        obtain ⟨a, ys, es', rfl, rfl, ha, ha2, r, g⟩ := res
        intro _ b e
        cases e
        exact E1.back ha S1
theorem key_tabF {K : PySem.W.Frag} {w : World} {d : Addr} {es : Array DictEntry} {n : Nat} {x : Str} {adr : Str → Nat} {ks : List (Str × Str)} {a : IE} (D : L2.KDict K w d es n) (R : TabRF w.params adr es.toList ks) (h : tI (.tabF x adr ks a) σ H Q) :
    tOp (fun x y H Q => ∃ (z : Str) (u0 : Value) (v0 : V), x = .ref d ∧ y = .str z ∧ PySem.W.nsIn K d z = some (some u0) ∧ RelV v0 u0 ∧ Q v0 H) (tC (.ref d)) (tI a) σ H Q := by
  obtain ⟨pa, H0, G0, G, s, d0, t, s2, S0, e, kk⟩ := h
  rw [evalE] at e
  obtain ⟨⟨⟨d1, t1⟩, s1⟩, e1, e⟩ := obind e
  obtain ⟨d2, e2, e⟩ := obind e
  cases e
  refine tV_of S0 e1 fun v H1 G1 S1 E1 R1 N1 => ?_
  dsimp only at e2
  unfold tabFD at e2
  split at e2
  · rename_i z
    obtain ⟨y, hy, rfl⟩ := Option.map_eq_some_iff.mp e2
    refine ⟨z, .ref (adr y), .ref (adr y), rfl, RpT.str (R1.top S1), ?_, rfl, kk _ H1 G1 S1 E1 .fn nofz⟩
    rw [R.ns D z, hy]; rfl
  · cases e2
theorem tab_str {m : TabM} {tb : List (Str × Int)} {d d2 : D} (h : tabD m tb d = some d2) : ∃ z, d = .str z := by
  unfold tabD at h
  split at h
  · exact ⟨_, rfl⟩
  · cases h
end
section
variable {X : Cx} {σ : L2.St} {H : Hp} {Q : VK} {d : Addr} {en : Array DictEntry} {n : Nat} {tb : List (Str × Int)}
theorem key_tabGet (D : KDict X.K X.w d en n) (h : TabR X.w.params en.toList tb) {i : Int} {x : Str} {a : IE} (q : tI (.tab (.get i) x tb a) σ H Q) :
    tI a σ H fun y H1 => tC (.int i) σ H1 fun z H2 => ∃ (t : Str) (r : Option Value) (g : V), y = .str t ∧ PySem.W.nsIn X.K d t = some r ∧ (∀ rz, RelV z rz → RelV g (r.getD rz)) ∧ Q g H2 := by
  obtain ⟨pa, H0, G0, G, s, d0, t, s3, S0, e, kk⟩ := q
  rw [evalE] at e
  obtain ⟨⟨⟨d1, t1⟩, s1⟩, e1, e⟩ := obind e
  obtain ⟨d2, e2, e⟩ := obind e
  cases e
  obtain ⟨z, rfl⟩ := tab_str e2
  refine tV_of S0 e1 fun v H1 G1 S1 E1 R1 N1 => ?_
  obtain ⟨r, hr, hv⟩ := h.ns D z
  cases e2
  refine ⟨z, r, .int ((tbl tb z).getD i), RpT.str (R1.top S1), hr, fun rz rel => ?_, kk _ H1 G1 S1 E1 (.int _) nofz⟩
  cases r with
  | none =>
    cases y : tbl tb z with
    | none => exact rel
    | some u => rw [y] at hv; exact hv.elim
  | some u =>
    cases y : tbl tb z with
    | none => rw [y] at hv; exact hv.elim
    | some m =>
      rw [y] at hv
      obtain ⟨tk, rfl⟩ := hv
      exact ⟨tk, rfl⟩
theorem key_tabMem (D : KDict X.K X.w d en n) (h : TabR X.w.params en.toList tb) {x : Str} {a : IE} (q : tI (.tab .mem x tb a) σ H Q) :
    tOp (fun x y H Q => ∃ (z : Str) (r : Option Value), x = .str z ∧ y = .ref d ∧ PySem.W.nsIn X.K d z = some r ∧ Q (.bl r.isSome) H) (tI a) (tC (.ref d)) σ H Q := by
  obtain ⟨pa, H0, G0, G, s, d0, t, s3, S0, e, kk⟩ := q
  rw [evalE] at e
  obtain ⟨⟨⟨d1, t1⟩, s1⟩, e1, e⟩ := obind e
  obtain ⟨d2, e2, e⟩ := obind e
  cases e
  obtain ⟨z, rfl⟩ := tab_str e2
  refine tV_of S0 e1 fun v H1 G1 S1 E1 R1 N1 => ?_
  obtain ⟨r, hr, hv⟩ := h.ns D z
  cases e2
  have e3 : r.isSome = (tbl tb z).isSome := by
    cases r with
    | none =>
      cases y : tbl tb z with
      | none => rfl
      | some u => rw [y] at hv; exact hv.elim
    | some u =>
      cases y : tbl tb z with
      | none => rw [y] at hv; exact hv.elim
      | some m => rfl
  refine ⟨z, r, RpT.str (R1.top S1), rfl, hr, ?_⟩
  rw [e3]
  exact kk _ H1 G1 S1 E1 (.bl _) nofz
theorem key_tabIx (D : KDict X.K X.w d en n) (h : TabR X.w.params en.toList tb) {x : Str} {a : IE} (q : tI (.tab .ix x tb a) σ H Q) :
    tOp (fun x y H Q => ∃ (z : Str) (u0 : Value) (v0 : V), x = .ref d ∧ y = .str z ∧ PySem.W.nsIn X.K d z = some (some u0) ∧ RelV v0 u0 ∧ Q v0 H) (tC (.ref d)) (tI a) σ H Q := by
  obtain ⟨pa, H0, G0, G, s, d0, t, s3, S0, e, kk⟩ := q
  rw [evalE] at e
  obtain ⟨⟨⟨d1, t1⟩, s1⟩, e1, e⟩ := obind e
  obtain ⟨d2, e2, e⟩ := obind e
  cases e
  obtain ⟨z, rfl⟩ := tab_str e2
  refine tV_of S0 e1 fun v H1 G1 S1 E1 R1 N1 => ?_
  obtain ⟨r, hr, hv⟩ := h.ns D z
  obtain ⟨m, e4, e5⟩ := Option.map_eq_some_iff.mp (show (tbl tb z).map PyData.int = some _ from e2)
  subst e5
  rw [e4] at hv
  cases r with
  | none => exact hv.elim
  | some u =>
    obtain ⟨tk, rfl⟩ := hv
    exact ⟨z, _, .int m, rfl, RpT.str (R1.top S1), hr, ⟨tk, rfl⟩, kk _ H1 G1 S1 E1 (.int _) nofz⟩
end
theorem few_two' {e : Expr} {i : Int} {p cpos : Pos} {env : Env} (h : plX e = true) : ((backTo cpos (starEach [e, .Constant (.int i) 0 p] env)).all (fun x => !x.1) && (backToKw cpos (keywordEach [] env)).all (fun x => x.1.isSome)
      && decide ([e, .Constant (.int i) 0 p].length + ([] : List Keyword).length + (if ([] : List Keyword).isEmpty then 0 else 1) < 30)) = true := by
  rw [star_pl h]; rfl
theorem trees_two' {e : Expr} {i : Int} {p cpos : Pos} {env : Env} (h : plX e = true) : backTo cpos (starEach [e, .Constant (.int i) 0 p] env) = [(false, eval e env), (false, eval (.Constant (.int i) 0 p) env)] := by
  rw [star_pl h]; rfl
end Fs

set_option Elab.async false
set_option linter.all false
set_option maxRecDepth 100000
set_option maxHeartbeats 4000000
namespace Fs
open PySem PySem.Spec PyProof.Rows L2
section
variable {X : Cx} {pos pos' apos : Pos} {o e : Expr} {es : List Expr} {ta te : TE} {t : TA} {f x : Str} {C : Addr} {p : Pos}
theorem exT_okG {P : Program} {w : World} {H : Hp} {h : Heap} {a : Addr} {oe : Obj} {vs : Array Value} {cls : Value} {d : Option Addr} (e : h.get? a = some oe) (z : L2.Zc cls d oe) (f : oe.data = .fields vs) : ObjOk P w H h a (exT cls d a) :=
  ⟨⟨oe, vs, e, z, f⟩, ⟨oe, e⟩, fun h1 h2 ⟨o, v, q, r⟩ k => ⟨o, v, k o q, r⟩⟩
theorem make_guardsN {A : Around} {C : Addr} {us : List Value} {kw : List (Str × Value)} : (A.under (.builtin "type.__call__" ⟨.ref C :: us, kw⟩)).guards = A.guards := by
  first | rfl | simp [Around.under, Code.weight, Code.isCreation, Code.isGuard, Code.isCaller, Code.frames, Code.isFrame, guardIds]
/-- C(e), C an exception class without own __init__ -/
theorem pe_gnew {B newId initId : String} {bmB : List Value} (F : ExcBaseFacts B newId initId bmB) (q : PySem.W.excIn X.K C bmB newId = true) (gC : X.mg x = some (.ref C)) (kC : PySem.W.keepIn X.K (.ref C) = true) (hg : Gl X x)
    (he : PE X e te) (hdb : (x == ("__debug__" : Str)) = false) (hs : starEach [e] X.env = (false, eval e X.env) :: starEach [] X.env) :
    PE X (.Call (.Name x p) [e] [] pos) (fun σ H Q => te σ H fun _ H1 => ∀ a, H1 a = none → Q (.ref a) (upd H1 a (exT (.ref C) none a))) := by
  refine ⟨fun pins s σ H Q I h => ?_⟩
  refine wpAny_Call_Name_kw (ld_glob I hg gC ?_ hdb)
  refine PySem.W.callWith_K (h₀ := X.base) I.ok.mod.kin kC ?_ hs (by rfl)
  rw [hs]
  show wpAny _ _ (spliced ((false, eval e X.env) :: backTo pos (starEach [] X.env))) _ _ s
  refine Calls.spliced_cons (thn (he.run pins s σ H _ I h) fun u s1 ⟨v, H1, I1, r1, q1⟩ => ?_)
  refine Calls.spliced_nil ⟨I1.kIn, ?_⟩
  show wpAny _ _ (PySem.call (.ref C) [u]) _ _ _
  obtain ⟨bm, N, nm, qn, bs, hdct, sn, sub, ab, col, dd, k0, k1, k2, k3, k5, mN, hC, hN, hni, T⟩ := exc_obj I1.kIn q
  refine wpAny_call_exc_subT F T hC hN hni (fun h' a hm => ?_) (by show 1 ≤ sizeLine; rw [sizeLine_eq]; omega)
  have hn : H1 a = none := I1.hok.gone hm.new
  obtain ⟨t, ht, _, _⟩ := hm.there
  exact ⟨.ref a, upd H1 a (exT (.ref C) none a), I1.laidN hm.keeps hm.new hn (exT_okG ht ⟨rfl, rfl⟩ rfl), rfl, q1 a hn⟩
theorem run_gfnN {k : Nat} {g : Addr} {fd : FuncData} {ps : List Str} {sp : GSp} {pins : List (Addr × Obj)} {σ : L2.St} {H : Hp} {s : Shared} {Q : VK} {us : List Value} {vs : List V} (T : OexC X.K C)
    (iC : PySem.W.findIn X.K (.ref C) "__init__" = some (some (.ref g))) (tI : PySem.W.typeIn X.K (.ref g) = some (.type "function"))
    (Fg : GFn (wdOf X) k g fd ps sp) (hr : Room (k + 1) X.A) (hgd : X.A.guards = some []) (hb : Binds X.K fd ps []) (I : Inv X pins σ H s) (r : Vals vs us) (hus : us.length ≤ sizeLine)
    (h : ∀ a, H a = none → sp (.ref a :: vs) (upd H a (exo a C none)) (fun v H2 => v = .non ∧ Q (.ref a) H2)) :
    wpAny (model X.prog X.w) X.A (PySem.call (.ref C) us) (EP X pins σ Q) X.xe s := by
  obtain ⟨nm, q, N, bs, bm, sn, sub, ab, col, dd, k0, k1, k2, k3, k5, hC, hbm⟩ := T.cls
  obtain ⟨hp, g0, dr, tk, os⟩ := s
  have hsz : hp.objs.size ≤ hp.objs.size + 1 := Nat.le_succ _
  have hn : H (hp.objs.size + 1) = none := I.hok.fresh hsz
  have hq := h (hp.objs.size + 1) hn
  have kk : ∀ b o, hp.get? b = some o → ((hp.push (PySem.W.kdv_tup us)).push (PySem.HandSPX.excO C hp.objs.size)).get? b = some o := fun b o e => Heap.get?_push_of_some _ (Heap.get?_push_of_some _ e)
  have hget : ((hp.push (PySem.W.kdv_tup us)).push (PySem.HandSPX.excO C hp.objs.size)).get? (hp.objs.size + 1) = some (PySem.HandSPX.excO C hp.objs.size) := by heap_get
  have I2 : Inv X pins σ (upd H (hp.objs.size + 1) (exo (hp.objs.size + 1) C none)) ⟨(hp.push (PySem.W.kdv_tup us)).push (PySem.HandSPX.excO C hp.objs.size), g0, dr, tk, os⟩ :=
    I.laid (t' := tk) (a := hp.objs.size + 1) (o := exo (hp.objs.size + 1) C none) (h' := (hp.push (PySem.W.kdv_tup us)).push (PySem.HandSPX.excO C hp.objs.size)) kk hsz (exo_ok hget)
  have r2 : Vals (V.ref (hp.objs.size + 1) :: vs) (Value.ref (hp.objs.size + 1) :: us) := .cons rfl r
  have hl : (Value.ref (hp.objs.size + 1) :: us ++ ([] : List Value)).length = ps.length := by
    have e := r2.length
    rw [Fg.len _ _ _ hq] at e
    rw [List.append_nil]
    exact e.symm
  have b1 := hb _ (Value.ref (hp.objs.size + 1) :: us) I2.kIn hl
  rw [List.append_nil] at b1
  refine wpAny_call (PySem.HandSPX.call_own PySem.F.excBase_ValueError (fun Y => PySem.HandSPX.refsVE_contains Y bm hbm) (I.kIn _ _ hC) (PySem.W.looks_findIn I.kIn iC) (fun self => PySem.W.bind_fn I.kIn self tI) hus
    (codeAny_mono (Fg.run _ X.stack _ _ ⟨Value.ref (hp.objs.size + 1) :: us, []⟩ (Value.ref (hp.objs.size + 1) :: us) _ _ (hr.make C us [])
      (make_guardsN.trans hgd) (I2.env0.make C us []) b1 r2 hq) fun r s' hq' => ?_))
  match r, hq' with
  | .ok (.ret u), hq' =>
    obtain ⟨v, H', I3, rv, ev, q3⟩ := I2.after hq'
    subst ev
    exact ⟨rv, ⟨V.ref (hp.objs.size + 1), H', I3, rfl, q3⟩⟩
/-- C(e), C an exception class with an own __init__ -/
theorem pe_gnewK {k : Nat} {g : Addr} {fd : FuncData} {ps : List Str} (T : OexC X.K C) (iC : PySem.W.findIn X.K (.ref C) "__init__" = some (some (.ref g))) (tI : PySem.W.typeIn X.K (.ref g) = some (.type "function"))
    (F : GFn (wdOf X) k g fd ps (spXI C f)) (hr : Room (k + 1) X.A) (hgd : X.A.guards = some []) (hb : Binds X.K fd ps []) (hm : X.mg x = some (.ref C)) (hg : Gl X x)
    (ha : PE X e te) (hdb : (x == ("__debug__" : Str)) = false) (he : starEach [e] X.env = (false, eval e X.env) :: starEach [] X.env) (hpl : (backTo pos (starEach [] X.env)).any (·.1) = false) :
    PE X (.Call (.Name x p) [e] [] pos) (fun σ H Q => te σ H fun v H1 => ∀ a, H1 a = none → spXI C f [.ref a, v] (upd H1 a (exo a C none)) (fun u H2 => u = .non ∧ Q (.ref a) H2)) := by
  refine ⟨fun pins s σ H Q I h => ?_⟩
  have pa : L2.PA X [e] (tCons te tNil) := pa_cons ha pa_nil he
  refine wpAny_Call_Name_kw (ld_glob I hg hm ?_ hdb)
  refine PySem.W.callWith_K (h₀ := X.base) I.ok.mod.kin T.kC (thn (pa.run pos pins s σ H (fun vs H1 => ∀ a, H1 a = none → spXI C f (.ref a :: vs) (upd H1 a (exo a C none)) (fun u H2 => u = .non ∧ Q (.ref a) H2)) I h) fun us s1 ⟨vs, H1, I1, r, q⟩ => ⟨I1.kIn, ?_⟩) he hpl
  obtain ⟨a0, v, ev, _⟩ := q s1.heap.objs.size (I1.hok.fresh (Nat.le_refl _))
  have hus : us.length ≤ sizeLine := by
    rw [← r.length]
    have : vs = [v] := List.tail_eq_of_cons_eq ev
    rw [this]; show 1 ≤ sizeLine; rw [sizeLine_eq]; omega
  exact run_gfnN T iC tI F hr hgd hb I1 r hus q
/-- e.n, e an exception that bears a dict -/
theorem pe_gxat {n : Str} (he : PE X e te) (hb : attributeBase e n X.env (eval e X.env) = eval e X.env := by rfl) :
    PE X (.Attribute e n pos) (fun σ H Q => te σ H fun x H1 => ∃ (a C dx : Addr) (v : V), x = .ref a ∧ ExAt H1 a (.ref C) (some dx) ∧ XdAt H1 dx n v ∧ L2.XfC X.K C ∧ PySem.W.findIn X.K (.ref C) n = some none ∧ Q v H1) := by
  refine ⟨fun pins s σ H Q I h => ?_⟩
  refine attr_of hb (thn (he.run pins s σ H _ I h) fun u s1 ⟨x, H1, I1, rx, a, C, dx, v, ex, ea, ed, T, hno, q⟩ => ?_)
  subst ex
  obtain rfl : u = Value.ref a := rx
  obtain ⟨oe, vs, h1, h2, h3⟩ := ea.at I1.hok
  obtain ⟨mA, hns, w, hu, ru⟩ := ed.at I1.hok
  obtain ⟨od, ho, hl⟩ := lookIn_ns hns
  have J : PySem.W.InstAt s1.heap a oe C (some od) := ⟨h1, h2.1, by unfold PySem.W.notCls; rw [h3] <;> rfl, by rw [h2.2]; exact ho⟩
  exact HandSPX.exc_get I1.kIn J T.ga T.gg T.exC (PySem.W.findObj_own T.hdC hno rfl (by rw [hl, hu])) (handed_of ru) ⟨v, H1, I1.tok _, ru, q⟩
end
section
variable {pa : PA} {H0 G0 G G1 G2 H H1 H2 : Hp} {σ : L2.St} {s s1 : S} {Q : VK}
/-- what is new comes into the heap and into G -/
theorem Ext.lay (E : Ext pa G G1 H H1 σ s s1) (S1 : Sim pa H0 G0 G1 σ H1 s1) (k : Sub H1 H2) (g : Sub G1 G2) (n : ∀ b o, G2 b = some o → G1 b = some o ∨ H1 b = none) : Ext pa G G2 H H2 σ s s1 where
  hk := fun a o h p => k _ _ (E.hk a o h p)
  gk := E.gk.trans g
  gn := fun a o h => by
    rcases n a o h with z | z
    · exact E.gn a o z
    · exact .inr (.inl (E.back z S1))
  ln := E.ln
  sn := E.sn
  sl := E.sl
theorem key_new0 {x : Str} {adr : Str → Nat} {a : IE} (h : tI (.newX x adr none a) σ H Q) : tI a σ H fun _ H1 => ∀ b, H1 b = none → Q (.ref b) (upd H1 b (exT (.ref (adr x)) none b)) := by
  obtain ⟨pa, H0, G0, G, s, d, t, s3, S0, e, kk⟩ := h
  rw [evalE] at e
  obtain ⟨⟨⟨d1, t1⟩, s1⟩, e1, e⟩ := obind e
  cases e
  refine tV_of S0 e1 fun v H1 G1 S1 E1 R1 N1 => fun b hb => ?_
  obtain ⟨G2, S2, E2, k2, _, _⟩ := R1.keep S1 E1 N1
  obtain ⟨n1, n2, n3, n4⟩ := S2.none0 hb
  have S3 := (S2.grow (.upd hb)).newG (a := b) (o := exT (.ref (adr x)) none b) upd_same n2 n1 n3 n4
  refine kk (.ref b) _ _ S3 (E2.lay S2 (.upd hb) (.upd n2) fun c o q => ?_) (Rp.exc ⟨_, upd_same, fun _ q => q⟩) nofz
  by_cases z : c = b
  · subst z; exact .inr hb
  · rw [upd_ne z] at q; exact .inl q
theorem key_newK {x f : Str} {adr : Str → Nat} {a : IE} (h : tI (.newX x adr (some f) a) σ H Q) : tI a σ H fun v H1 => ∀ b, H1 b = none → spXI (adr x) f [.ref b, v] (upd H1 b (exo b (adr x) none)) (fun u H2 => u = .non ∧ Q (.ref b) H2) := by
  obtain ⟨pa, H0, G0, G, s, d, t, s3, S0, e, kk⟩ := h
  rw [evalE] at e
  obtain ⟨⟨⟨d1, t1⟩, s1⟩, e1, e⟩ := obind e
  cases e
  refine tV_of S0 e1 fun v H1 G1 S1 E1 R1 N1 => fun b hb => ⟨b, v, rfl, upd_same, fun dx hdx ndx => ⟨rfl, ?_⟩⟩
  rw [upd_ne ndx] at hdx
  obtain ⟨G2, S2, E2, k2, _, rv⟩ := R1.keep S1 E1 N1
  obtain ⟨n1, n2, n3, n4⟩ := S2.none0 hb
  obtain ⟨m1, m2, m3, m4⟩ := S2.none0 hdx
  have eH : upd (upd (upd H1 b (exo b (adr x) none)) dx (exd dx [(f, v)])) b (exo b (adr x) (some dx)) = upd (upd H1 dx (exd dx [(f, v)])) b (exo b (adr x) (some dx)) := by
    funext c
    by_cases z : c = b
    · subst z; rw [upd_same, upd_same]
    · rw [upd_ne z, upd_ne z]
      by_cases y : c = dx
      · subst y; rw [upd_same, upd_same]
      · rw [upd_ne y, upd_ne y, upd_ne z]
  rw [eH]
  have hk : Sub H1 (upd (upd H1 dx (exd dx [(f, v)])) b (exo b (adr x) (some dx))) := (Sub.upd hdx).trans (.upd (by rw [upd_ne (Ne.symm ndx)]; exact hb))
  have hg2 : upd G2 dx (exd dx [(f, v)]) b = none := by rw [upd_ne (Ne.symm ndx)]; exact n2
  have S3 := (S2.grow hk).newG (a := dx) (o := exd dx [(f, v)]) (by rw [upd_ne ndx, upd_same]) m2 m1 m3 m4
  have S4 := S3.newG (a := b) (o := exo b (adr x) (some dx)) upd_same hg2 n1 n3 n4
  have gk : Sub G2 (upd (upd G2 dx (exd dx [(f, v)])) b (exo b (adr x) (some dx))) := (Sub.upd m2).trans (.upd hg2)
  refine kk (.ref b) _ _ S4 (E2.lay S2 hk gk fun c o q => ?_) (Rp.exa (dx := dx) (v := v) ⟨_, upd_same, fun h q => ?_⟩ ⟨[(f, v)], .inr (by rw [upd_ne ndx, upd_same]), by simp [List.lookup]⟩ (rv.mono gk)) nofz
  · by_cases z : c = b
    · subst z; exact .inr hb
    · rw [upd_ne z] at q
      by_cases y : c = dx
      · subst y; exact .inr hdx
      · rw [upd_ne y] at q; exact .inl q
  · obtain ⟨t1, q⟩ := q
    exact ⟨_, _, q, ⟨rfl, rfl⟩, rfl⟩
theorem key_xat {X : Cx} {i : Nat} {m : Str} {adr : Str → Nat} {names : List Str} (hc : ∀ c, c ∈ names → AtC (wdOf X) (adr c) m) (h : tI (.xat i m adr names) σ H Q) :
    tVar i σ H fun x H1 => ∃ (a C dx : Addr) (v : V), x = .ref a ∧ ExAt H1 a (.ref C) (some dx) ∧ XdAt H1 dx m v ∧ L2.XfC X.K C ∧ PySem.W.findIn X.K (.ref C) m = some none ∧ Q v H1 := by
  obtain ⟨pa, H0, G0, G, s, d, t, s3, S0, e, kk⟩ := h
  rw [evalE] at e
  obtain ⟨⟨d1, fl⟩, e1, e⟩ := obind e
  obtain ⟨d2, e2, e⟩ := obind e
  have ed : d2 = d := by cases e; rfl
  subst ed
  cases e
  obtain ⟨c, rfl, hn⟩ : ∃ c, d1 = excK adr c m d2 ∧ c ∈ names := by
    have e2 : xatD adr names m d1 = some d2 := e2
    unfold xatD at e2
    split at e2
    · split at e2
      · rename_i hz
        cases e2
        exact ⟨_, by rw [hz.2.1, hz.2.2]; rfl, hz.1⟩
      · cases e2
    · cases e2
  have e1 : s.sl[i]? = some (some (excK adr c m d2, fl)) := by
    unfold rd at e1
    cases q : s.sl[i]? with
    | none => rw [q] at e1; cases e1
    | some o => rw [q] at e1; exact congrArg some e1
  cases fl with
  | true =>
    obtain ⟨_, _, _, _, z, _⟩ := S0.ow i _ e1
    cases z
  | false =>
    obtain ⟨v, hv, r⟩ := S0.fz i _ e1
    refine ⟨v, hv, ?_⟩
    obtain ⟨p, D, dx, w, rfl, hC, hp, hx, rw'⟩ := RpT.exa (RpT.of S0.sub (show Rp pa G v (.dict [(.int (adr c : Nat), .str c), (.str m, d2)]) from r))
    obtain rfl : D = adr c := (Int.ofNat.inj hC).symm
    exact ⟨p, _, dx, w, rfl, hp.up S0.sub, hx.up S0.sub, (hc c hn).1, (hc c hn).2, kk _ H G S0 .refl rw' nofz⟩
end
end Fs

set_option Elab.async false
set_option linter.all false
set_option maxRecDepth 100000
set_option maxHeartbeats 8000000
namespace Fs
open PySem L2

theorem boot_isi : bootBuiltins "isinstance" = some (.builtin "isinstance") := by decide +kernel
theorem boot_ty (t : Ty5) : bootBuiltins t.name = some (.type t.ty) := by cases t <;> decide +kernel
section
variable {k : Nat}
/-- one of the builtins' names -/
theorem Cd.no {X : Cx} {N : List Str} {sc : Scope} (C : Cd X N sc k) (x : Str) (h : x ∈ bnames := by decide) : X.mg x = none := C.bl x h
theorem ty_in (t : Ty5) : t.name ∈ bnames := by cases t <;> decide
theorem ty_ne (t : Ty5) : t.name ≠ "__name__" ∧ (t.name == ("__debug__" : Str)) = false := by cases t <;> decide
theorem and1 {a b : Bool} (h : (a && b) = true) : a = true ∧ b = true := by simpa using h

theorem blt_call {X : Cx} {N : List Str} {f : Bf} {id : String} {es : IEs} {E : Em} {x : Str} {p pos : Pos} (hne : es ≠ .nil) (hc : CallR X (.builtin id) (rBlt f)) (hg : Gl X x) (hm : X.mg x = none) (hv : bootBuiltins x = some (.builtin id)) (hn : x ≠ "__name__") (hdb : (x == ("__debug__" : Str)) = false)
    (ha : L2.PA X (emEs N es E).1 (tAs es)) : PE X (.Call (.Name x p) (emEs N es E).1 [] pos) (tI (.blt f es)) := by
  cases es with
  | nil => exact absurd rfl hne
  | cons e es =>
    refine imp (pe_callB (e := (emE N e E).1) (es := (emEs N es (emE N e E).2).1) hc hg hm hv ha hn hdb (star_pl (em_pl N e E)) (stars N _ _ es _)) fun σ H Q q => key_blt q
theorem blt_callT {X : Cx} {N : List Str} {f : Bf} {T : String} {es : IEs} {E : Em} {x : Str} {p pos : Pos} (hne : es ≠ .nil) (hc : CallR X (.type T) (rBlt f)) (hg : Gl X x) (hm : X.mg x = none) (hv : bootBuiltins x = some (.type T)) (hn : x ≠ "__name__") (hdb : (x == ("__debug__" : Str)) = false)
    (ha : L2.PA X (emEs N es E).1 (tAs es)) : PE X (.Call (.Name x p) (emEs N es E).1 [] pos) (tI (.blt f es)) := by
  cases es with
  | nil => exact absurd rfl hne
  | cons e es =>
    refine imp (pe_callTy (e := (emE N e E).1) (es := (emEs N es (emE N e E).2).1) hc hg hm hv ha hn hdb (star_pl (em_pl N e E)) (stars N _ _ es _)) fun σ H Q q => key_blt q
theorem blt_nil (f : Bf) (s : S) : evalE (.blt f .nil) s = none := by
  rw [evalE, evalEs]
  cases f <;> rfl
theorem mth_none (m : Str) (es : IEs) (s : S) : evalE (.blt (.mth m) es) s = none := by
  rw [evalE]
  cases evalEs es s with
  | none => rfl
  | some r =>
    rfl
theorem sset_two {f : Bf} (hf : f = .sset ∨ f = .trange ∨ f = .lenm ∨ f = .slen) (a b : IE) (es : IEs) (s : S) : evalE (.blt f (.cons a (.cons b es))) s = none := by
  rw [evalE]
  cases h : evalEs (.cons a (.cons b es)) s with
  | none => rfl
  | some r =>
    obtain ⟨xs, s1⟩ := r
    have l := ev_len _ h
    match xs, l with
    | (d, t) :: y :: zs, _ => rcases hf with rfl | rfl | rfl | rfl <;> (cases d <;> rfl)
    | [x], l => simp [IEs.len] at l
    | [], l => simp [IEs.len] at l
theorem plain_one {e : Expr} {cpos : Pos} {env : Env} (h : plX e = true) : (backTo cpos (starEach [e] env)).any (·.1) = false := by
  rw [star_pl h]; rfl
theorem lrange_three (a b c : IE) (es : IEs) (s : S) : evalE (.blt .lrange (.cons a (.cons b (.cons c es)))) s = none := by
  rw [evalE]
  cases h : evalEs (.cons a (.cons b (.cons c es))) s with
  | none => rfl
  | some r =>
    obtain ⟨xs, s1⟩ := r
    have l := ev_len _ h
    match xs, l with
    | (d, t) :: (e, t2) :: y :: zs, _ => cases d <;> (try rfl) <;> (cases e <;> rfl)
    | [x], l => simp [IEs.len] at l
    | [x, y], l => simp [IEs.len] at l
    | [], l => simp [IEs.len] at l
theorem fold_sr (N : List Str) (src : Sr) (E : Em) {env : Env} : ∀ x, foldedSetIterable (emSr N src E).1 env x = pure x := by
  cases src with
  | seq e => exact fold_pl (em_pl N e E)
  | _ => intro x; rfl
theorem scal_any {G : Hp} {pa : PA} {v : V} {d : D} (z : scal d = true) (r : Rp none (fun _ => none) v d) : Rp pa G v d := by
  cases r with
  | non => exact .non
  | bl b => exact .bl b
  | int i => exact .int i
  | str x => exact .str x
  | lst h r => cases z
  | tup h r => cases z
  | pen h => cases z
  | fn => cases z
  | exc h => cases z
  | exa h x r => cases z
  | dct h r => cases z

mutual
theorem sE : ∀ (e : IE) {X : Cx} {N : List Str} {sc : Scope} {E : Em}, Cd X N sc k → okE N sc e E = true → askE (askOf (wdOf X) k) e → Sd X N k e E
  | .var i, X, N, sc, E, C, ho, ha => by
    rw [okE] at ho
    obtain ⟨h1, h2, h3, h4⟩ := vis_of ho
    refine .val (imp (pe_var (X := X) (i := i) (by rw [C.hN]; exact h1) (by rw [C.hs]; exact h2) h3 h4) fun σ H Q q => ?_) rfl
    obtain ⟨pa, H0, G0, G, s, d, t, s1, S0, e, kk⟩ := q
    rw [evalE] at e
    obtain ⟨p, hp, e⟩ := Option.map_eq_some_iff.mp e
    obtain ⟨d', f⟩ := p
    have at1 : s.sl[i]? = some (some (d', f)) := by
      unfold rd at hp
      obtain ⟨o, h1, h2⟩ := Option.bind_eq_some_iff.mp hp
      have h2 : o = some (d', f) := h2
      rw [h1, h2]
    cases e
    cases f with
    | true =>
      obtain ⟨a, xs, ds, e1, _⟩ := S0.ow i _ at1
      exact ⟨_, e1, kk _ H G S0 .refl ⟨true, at1, e1⟩ fun z => by cases z⟩
    | false =>
      obtain ⟨v, e1, r⟩ := S0.fz i _ at1
      exact ⟨v, e1, kk _ H G S0 .refl r nofz⟩
  | .int n, X, N, sc, E, C, ho, ha => .val (imp pe_int fun σ H Q q => by
    obtain ⟨pa, H0, G0, G, s, d, t, s1, S0, e, kk⟩ := q
    rw [evalE] at e; cases e
    exact kk _ H G S0 .refl (.int n) nofz) rfl
  | .bool n, X, N, sc, E, C, ho, ha => .val (imp pe_bl fun σ H Q q => by
    obtain ⟨pa, H0, G0, G, s, d, t, s1, S0, e, kk⟩ := q
    rw [evalE] at e; cases e
    exact kk _ H G S0 .refl (.bl n) nofz) rfl
  | .non, X, N, sc, E, C, ho, ha => .val (imp pe_non fun σ H Q q => by
    obtain ⟨pa, H0, G0, G, s, d, t, s1, S0, e, kk⟩ := q
    rw [evalE] at e; cases e
    exact kk _ H G S0 .refl .non nofz) rfl
  | .str n, X, N, sc, E, C, ho, ha => .val (imp pe_str fun σ H Q q => by
    obtain ⟨pa, H0, G0, G, s, d, t, s1, S0, e, kk⟩ := q
    rw [evalE] at e; cases e
    exact kk _ H G S0 .refl (.str n) nofz) rfl
  | .glob x d, X, N, sc, E, C, ho, ha => by
    rw [okE] at ho
    obtain ⟨h1, h2⟩ := and1 ho
    obtain ⟨g1, g2⟩ := gl_of C h1
    rw [askE] at ha
    obtain ⟨v, u, m, r, rp⟩ := ha
    refine .val (imp (pe_glob g1 m r g2) fun σ H Q q => ?_) rfl
    obtain ⟨pa, H0, G0, G, s, d, t, s1, S0, e, kk⟩ := q
    rw [evalE] at e; cases e
    exact kk _ H G S0 .refl (scal_any h2 rp) nofz
  | .bin op a b, X, N, sc, E, C, ho, ha => by
    rw [okE] at ho
    rw [askE] at ha
    obtain ⟨h1, h2⟩ := and1 ho
    exact .val (imp (pe_op (op_bin op) (sE a C h1 ha.1).pe (sE b C h2 ha.2).pe) fun σ H Q q => key_bin q) rfl
  | .neg a, X, N, sc, E, C, ho, ha => by
    rw [okE] at ho
    rw [askE] at ha
    exact .val (imp (pe_un un_neg (sE a C ho ha).pe) fun σ H Q q => key_neg q) rfl
  | .not a, X, N, sc, E, C, ho, ha => by
    rw [okE] at ho
    rw [askE] at ha
    exact ⟨imp (pe_not (sE a C ho ha).pe) fun σ H Q q => key_not q, PT.imp (pt_not (sE a C ho ha).pt) fun σ H Q q => key_notQ q⟩
  | .cmp op a b, X, N, sc, E, C, ho, ha => by
    rw [okE] at ho
    rw [askE] at ha
    obtain ⟨h1, h2⟩ := and1 ho
    have pa := (sE a C h1 ha.1).pe
    have pb := (sE b C h2 ha.2).pe
    exact .cmpLike (pe_cmpR (op_cmp op C.un) pa pb (mark_pl (em_pl N b _))) (pt_cmpR (op_cmp op C.un) pa pb (mark_pl (em_pl N b _))) fun σ H Q q => key_cmp q
  | .isN a, X, N, sc, E, C, ho, ha => by
    rw [okE] at ho
    rw [askE] at ha
    have pa := (sE a C ho ha).pe
    exact .cmpLike (pe_cmp (pc_isN pa)) (pt_cmp (pc_isN pa)) fun σ H Q q => key_isN q
  | .notN a, X, N, sc, E, C, ho, ha => by
    rw [okE] at ho
    rw [askE] at ha
    have pa := (sE a C ho ha).pe
    exact .cmpLike (pe_cmp (pc_notN pa)) (pt_cmp (pc_notN pa)) fun σ H Q q => key_notN q
  | .cmp2 o p a b c, X, N, sc, E, C, ho, ha => by
    rw [okE] at ho
    rw [askE] at ha
    obtain ⟨h1, h2⟩ := and1 ho
    obtain ⟨h2, h3⟩ := and1 h2
    have pa := (sE a C h1 ha.1).pe
    have pb := (sE b C h2 ha.2.1).pe
    have pc := (sE c C h3 ha.2.2).pe
    have hm : lastMarks [o, p] [(emE N b (emE N a E.np).2).1, (emE N c (emE N b (emE N a E.np).2).2).1] = false := mark_pl (em_pl N c _)
    exact .cmpLike (pe_chain (op_cmp o C.un) (op_cmp p C.un) pa pb pc hm) (pt_chain (op_cmp o C.un) (op_cmp p C.un) pa pb pc hm) fun σ H Q q => key_cmp2 q
  | .and es, X, N, sc, E, C, ho, ha => by
    rw [okE] at ho
    rw [askE] at ha
    have h := (sB es C ho ha).1
    refine ⟨imp (h.pe E.p) fun σ H Q q => ?_, PT.imp (h.pw E.p).pt fun σ H Q q => ?_⟩
    · have e : evalE (.and es) = evalAnd es := by funext s; rw [evalE]
      rwa [tI, e] at q
    · have e : evalE (.and es) = evalAnd es := by funext s; rw [evalE]
      rwa [e] at q
  | .or es, X, N, sc, E, C, ho, ha => by
    rw [okE] at ho
    rw [askE] at ha
    have h := (sB es C ho ha).2
    refine ⟨imp (h.pe E.p) fun σ H Q q => ?_, PT.imp (h.pw E.p).pt fun σ H Q q => ?_⟩
    · have e : evalE (.or es) = evalOr es := by funext s; rw [evalE]
      rwa [tI, e] at q
    · have e : evalE (.or es) = evalOr es := by funext s; rw [evalE]
      rwa [e] at q
  | .ite c a b, X, N, sc, E, C, ho, ha => by
    rw [okE] at ho
    rw [askE] at ha
    obtain ⟨h1, h2⟩ := and1 ho
    obtain ⟨h2, h3⟩ := and1 h2
    have pc := sE c C h1 ha.1
    have pa := sE a C h2 ha.2.1
    have pb := sE b C h3 ha.2.2
    exact ⟨imp (pe_ifExp pc.pt pa.pe pb.pe) fun σ H Q q => key_ite q, PT.imp (pt_ifE pc.pt pa.pt pb.pt) fun σ H Q q => key_iteQ q⟩
  | .tup es, X, N, sc, E, C, ho, ha => by
    rw [okE] at ho
    rw [askE] at ha
    obtain ⟨h1, h2⟩ := and1 ho
    have hl : es.len ≤ 1000 := by rw [← em_len N es E.np]; exact of_decide_eq_true h2
    exact .val (imp (pe_tupF (sEs es C h1 ha)) fun σ H Q q => key_tup hl q) rfl
  | .lst es, X, N, sc, E, C, ho, ha => by
    rw [okE] at ho
    rw [askE] at ha
    obtain ⟨h1, h2⟩ := and1 ho
    have hl : es.len ≤ 1000 := by rw [← em_len N es E.np]; exact of_decide_eq_true h2
    exact .val (imp (pe_lst (sEs es C h1 ha)) fun σ H Q q => key_lst hl q) rfl
  | .ix a b, X, N, sc, E, C, ho, ha => by
    rw [okE] at ho
    rw [askE] at ha
    obtain ⟨h1, h2⟩ := and1 ho
    exact .val (imp (pe_ix (ix_D (hu := by have := C.un; omega)) (sE a C h1 ha.1).pe (sE b C h2 ha.2).pe (ix_pl (em_pl N b _))) fun σ H Q q => key_ix q) rfl
  | .sl a lo hi, X, N, sc, E, C, ho, ha => by
    rw [okE] at ho
    rw [askE] at ha
    obtain ⟨h1, h2⟩ := and1 ho
    obtain ⟨h2, h3⟩ := and1 h2
    exact .val (imp (pe_slice sl_D (sE a C h1 ha.1).pe (sO lo C h2 ha.2.1) (sO hi C h3 ha.2.2)) fun σ H Q q => key_sl q) rfl
  | .isi a t, X, N, sc, E, C, ho, ha => by
    rw [okE] at ho
    rw [askE] at ha
    obtain ⟨h1, h2⟩ := and1 ho
    obtain ⟨h2, h3⟩ := and1 h2
    obtain ⟨g1, g2⟩ := gl_of C h2
    obtain ⟨g3, g4⟩ := gl_of C h3
    have pn := pe_bltn (pos := (emE N a E.np.np).2.p) g3 (C.no _ (ty_in t)) (boot_ty t) (v := .ty t.ty) rfl (ty_ne t).1 g4
    have pas := pa_cons (sE a C h1 ha).pe (pa_cons pn pa_nil (by rfl)) (star_pl (em_pl N a _))
    exact .val (imp (pe_callB (b_isi t) g1 (C.no _) boot_isi pas (by decide) g2 (star_pl (em_pl N a _)) (by rfl)) fun σ H Q q => key_isi q) rfl
  | .isX x adr names sub a, X, N, sc, E, C, ho, ha => by
    rw [okE] at ho
    rw [askE] at ha
    obtain ⟨h1, h2⟩ := and1 ho
    obtain ⟨h2, h3⟩ := and1 h2
    obtain ⟨g1, g2⟩ := gl_of C h2
    obtain ⟨g3, g4⟩ := gl_of C h3
    obtain ⟨⟨v, cv, hm, rel, hcv, hk⟩, ha⟩ := ha
    have pn : PE X (.Name x (emE N a E.np.np).2.p) (tC v) := by
      rcases hm with hm | ⟨hm, hb, hn⟩
      · exact pe_glob g3 hm rel g4
      · exact pe_bltn g3 hm hb rel hn g4
    have pas := pa_cons (sE a C h1 ha).pe (pa_cons pn pa_nil (by rfl)) (star_pl (em_pl N a _))
    exact .val (imp (pe_callB call_isT g1 (C.no _) boot_isi pas (by decide) g2 (star_pl (em_pl N a _)) (by rfl)) fun σ H Q q => key_isX hcv hk q) rfl
  | .attr a m, X, N, sc, E, C, ho, ha => .val (neverV fun s => by rw [evalE]) rfl
  | .cmp3 o p q a b c d, X, N, sc, E, C, ho, ha => by
    rw [okE] at ho
    rw [askE] at ha
    obtain ⟨h1, h2⟩ := and1 ho
    obtain ⟨h2, h3⟩ := and1 h2
    obtain ⟨h3, h4⟩ := and1 h3
    have pa := (sE a C h1 ha.1).pe
    have pb := (sE b C h2 ha.2.1).pe
    have pc := (sE c C h3 ha.2.2.1).pe
    have pd := (sE d C h4 ha.2.2.2).pe
    exact .cmpLike (pe_chain3 (op_cmp o C.un) (op_cmp p C.un) (op_cmp q C.un) pa pb pc pd (lastMarks3 (em_pl N d _))) (pt_chain3 (op_cmp o C.un) (op_cmp p C.un) (op_cmp q C.un) pa pb pc pd (lastMarks3 (em_pl N d _))) fun σ H Q q => key_cmp3 q
  | .tab m x tb a, X, N, sc, E, C, ho, ha => by
    rw [askE] at ha
    obtain ⟨⟨⟨d, es, n, hm, D, R⟩⟩, ha⟩ := ha
    have rd : RelV (V.ref d) (Value.ref d) := rfl
    cases m with
    | get n =>
      rw [okE] at ho
      obtain ⟨h1, h2⟩ := and1 ho
      obtain ⟨h2, h3⟩ := and1 h2
      obtain ⟨g1, g2⟩ := gl_of C h2
      exact .val (imp (pe_tabGet D (pe_glob g1 hm rd g2) (sE a C h1 ha).pe pe_int ⟨by rfl, few_two' (em_pl N a _), h3, trees_two' (em_pl N a _)⟩) fun σ H Q q => key_tabGet D R q) rfl
    | mem =>
      rw [okE] at ho
      obtain ⟨h1, h2⟩ := and1 ho
      obtain ⟨g1, g2⟩ := gl_of C h2
      exact .cmpLike (pe_cmpR (op_in_kd D) (sE a C h1 ha).pe (pe_glob g1 hm rd g2) (mark_pl (by rfl))) (pt_cmpR (op_in_kd D) (sE a C h1 ha).pe (pe_glob g1 hm rd g2) (mark_pl (by rfl))) fun σ H Q q => key_tabMem D R q
    | ix =>
      rw [okE] at ho
      obtain ⟨h1, h2⟩ := and1 ho
      obtain ⟨g1, g2⟩ := gl_of C h2
      exact .val (imp (pe_ix (ix_tab D) (pe_glob g1 hm rd g2) (sE a C h1 ha).pe (ix_pl (em_pl N a _))) fun σ H Q q => key_tabIx D R q) rfl
  | .calS x F n e, X, N, sc, E, C, ho, ha => by
    rw [okE] at ho
    rw [askE] at ha
    obtain ⟨h1, h2⟩ := and1 ho
    obtain ⟨⟨f, fd, ps, Fn1, hm, hk, hb⟩⟩ := ha.1
    exact .val (imp (pe_gcallS Fn1 C.room C.gd (gl_of C h2).1 hm hk hb (sE e C h1 ha.2).pe (gl_of C h2).2) fun σ H Q q => key_calS q) rfl
  | .newX x adr none a, X, N, sc, E, C, ho, ha => by
    rw [okE] at ho
    rw [askE] at ha
    obtain ⟨h1, h2⟩ := and1 ho
    obtain ⟨⟨⟨B, newId, initId, bmB, F, q⟩, hm, hk⟩, a2⟩ := ha
    exact .val (imp (pe_gnew F q hm hk (gl_of C h2).1 (sE a C h1 a2).pe (gl_of C h2).2 (star_pl (em_pl N a _))) fun σ H Q q => key_new0 q) rfl
  | .newX x adr (some f) a, X, N, sc, E, C, ho, ha => by
    rw [okE] at ho
    rw [askE] at ha
    obtain ⟨h1, h2⟩ := and1 ho
    obtain ⟨⟨j, g, fd, ps, hj, G1, hm, T, iC, tI, hb⟩, a2⟩ := ha
    exact .val (imp (pe_gnewK T iC tI G1 (C.room.mono hj) C.gd hb hm (gl_of C h2).1 (sE a C h1 a2).pe (gl_of C h2).2 (star_pl (em_pl N a _)) rfl) fun σ H Q q => key_newK q) rfl
  | .xat i m adr names, X, N, sc, E, C, ho, ha => by
    rw [okE] at ho
    rw [askE] at ha
    obtain ⟨v1, v2, v3, v4⟩ := vis_of ho
    exact .val (imp (pe_gxat (pe_var (by rw [C.hN]; exact v1) (by rw [C.hs]; exact v2) v3 v4)) fun σ H Q q => key_xat ha q) rfl
  | .fnv x adr, X, N, sc, E, C, ho, ha => by
    rw [okE] at ho
    obtain ⟨g1, g2⟩ := gl_of C ho
    rw [askE] at ha
    refine .val (imp (pe_glob g1 ha (show RelV (V.ref (adr x)) (Value.ref (adr x)) from rfl) g2) fun σ H Q q => ?_) rfl
    obtain ⟨pa, H0, G0, G, s, d, t, s1, S0, e, kk⟩ := q
    rw [evalE] at e; cases e
    exact kk _ H G S0 .refl .fn nofz
  | .calLS i adr fs e, X, N, sc, E, C, ho, ha => by
    rw [okE] at ho
    rw [askE] at ha
    obtain ⟨h1, h2⟩ := and1 ho
    obtain ⟨v1, v2, v3, v4⟩ := vis_of h2
    refine .val (imp (pe_gcallLS C.gd (by rw [C.hN]; exact v1) (by rw [C.hs]; exact v2) (sE e C h1 ha.2).pe v3 v4) fun σ H Q q => key_calLS (X := X) (fun p hp => ?_) q) rfl
    obtain ⟨⟨f, fd, ps, Fn1, hm, hk, hb⟩⟩ := (ha.1 p hp).1
    have e1 := hm.symm.trans (ha.1 p hp).2
    cases e1
    exact ⟨⟨_, _, _, Fn1, C.room, hk, hb⟩⟩
  | .calL i adr fs es, X, N, sc, E, C, ho, ha => by
    rw [okE] at ho
    rw [askE] at ha
    obtain ⟨h1, h2⟩ := and1 ho
    obtain ⟨h4, h3⟩ := and1 h2
    obtain ⟨v1, v2, v3, v4⟩ := vis_of h4
    have pas := sEs es C h1 ha.2
    have fa : ∀ p ∈ fs, FnAt X (adr p.1) (spF p.2 es.len) := fun p hp => by
      obtain ⟨⟨f, fd, ps, Fn1, hm, hk, hb⟩⟩ := (ha.1 p hp).1
      have e1 := hm.symm.trans (ha.1 p hp).2
      cases e1
      exact ⟨⟨_, _, _, Fn1, C.room, hk, hb⟩⟩
    match es, h3, pas, fa with
    | .cons e es, _, pas, fa =>
      exact .val (imp (pe_gcallL (e := (emE N e E.np.np).1) (es := (emEs N es (emE N e E.np.np).2).1) C.gd (by rw [C.hN]; exact v1) (by rw [C.hs]; exact v2) pas v3 v4 (star_pl (em_pl N e _)) (stars N _ _ es _)) fun σ H Q q => key_calL (X := X) fa q) rfl
    | .nil, h3, _, _ => rw [emEs] at h3; cases h3
  | .tabF x adr ks a, X, N, sc, E, C, ho, ha => by
    rw [okE] at ho
    rw [askE] at ha
    obtain ⟨h1, h2⟩ := and1 ho
    obtain ⟨⟨d, es, n, hm, D, R⟩⟩ := ha.1
    obtain ⟨g1, g2⟩ := gl_of C h2
    exact .val (imp (pe_ix (ix_tab D) (pe_glob g1 hm (show RelV (V.ref d) (Value.ref d) from rfl) g2) (sE a C h1 ha.2).pe (ix_pl (em_pl N a _))) fun σ H Q q => key_tabF D R q) rfl
  | .blt f es, X, N, sc, E, C, ho, ha => by
    rw [askE] at ha
    by_cases hne : es = .nil
    · subst hne
      refine .val (neverV (blt_nil f)) ?_
      cases f <;> rfl
    · cases f with
      | len =>
        obtain ⟨h1, h2⟩ := and1 (show (okEs N sc es E.np.np && glB sc (Bf.name .len)) = true from ho)
        exact .val (blt_call hne b_len (gl_of C h2).1 (C.no _) PySem.boot_len (by decide) (gl_of C h2).2 (sEs es C h1 ha)) rfl
      | all =>
        obtain ⟨h1, h2⟩ := and1 (show (okEs N sc es E.np.np && glB sc (Bf.name .all)) = true from ho)
        exact .val (blt_call hne (b_all C.calm) (gl_of C h2).1 (C.no _) PyProof.Rows.boot_all (by decide) (gl_of C h2).2 (sEs es C h1 ha)) rfl
      | any =>
        obtain ⟨h1, h2⟩ := and1 (show (okEs N sc es E.np.np && glB sc (Bf.name .any)) = true from ho)
        exact .val (blt_call hne (b_any C.calm) (gl_of C h2).1 (C.no _) PyProof.Rows.boot_any (by decide) (gl_of C h2).2 (sEs es C h1 ha)) rfl
      | sum =>
        obtain ⟨h1, h2⟩ := and1 (show (okEs N sc es E.np.np && glB sc (Bf.name .sum)) = true from ho)
        exact .val (blt_call hne (b_sum C.calm) (gl_of C h2).1 (C.no _) PyProof.Rows.boot_sum (by decide) (gl_of C h2).2 (sEs es C h1 ha)) rfl
      | max =>
        obtain ⟨h1, h2⟩ := and1 (show (okEs N sc es E.np.np && glB sc (Bf.name .max)) = true from ho)
        exact .val (blt_call hne (b_max C.calm C.un) (gl_of C h2).1 (C.no _) PyProof.Rows.boot_max (by decide) (gl_of C h2).2 (sEs es C h1 ha)) rfl
      | min =>
        obtain ⟨h1, h2⟩ := and1 (show (okEs N sc es E.np.np && glB sc (Bf.name .min)) = true from ho)
        exact .val (blt_call hne (b_min C.calm C.un) (gl_of C h2).1 (C.no _) PyProof.Rows.boot_min (by decide) (gl_of C h2).2 (sEs es C h1 ha)) rfl
      | repr =>
        obtain ⟨h1, h2⟩ := and1 (show (okEs N sc es E.np.np && glB sc (Bf.name .repr)) = true from ho)
        exact .val (blt_call hne (b_repr C.un C.gd) (gl_of C h2).1 (C.no _) PyProof.Rows.boot_repr (by decide) (gl_of C h2).2 (sEs es C h1 ha)) rfl
      | srt =>
        obtain ⟨h1, h2⟩ := and1 (show (okEs N sc es E.np.np && glB sc (Bf.name .srt)) = true from ho)
        exact .val (blt_call hne (b_srt C.un) (gl_of C h2).1 (C.no _) PyProof.Rows.boot_sorted (by decide) (gl_of C h2).2 (sEs es C h1 ha)) rfl
      | up =>
        rw [okE] at ho
        obtain ⟨h1, h2⟩ := and1 ho
        obtain ⟨h2, h3⟩ := and1 h2
        match es, h1, h2, ha with
        | .cons (.var i) .nil, h1, _, ha =>
          rw [okEs] at h1
          rw [askEs] at ha
          exact .val (imp (pe_upper (sE (.var i) C (and1 h1).1 ha.1).pe (by rfl) h3) fun σ H Q q => key_up q) rfl
        | .nil, _, h2, _ => cases h2
      | mth m => exact .val (neverV (mth_none m es)) rfl
      | dnew =>
        rw [okE] at ho
        match es, hne, ho with
        | .nil, hne, _ => exact absurd rfl hne
        | .cons _ _, _, ho => cases ho
      | tuple =>
        obtain ⟨h1, h2⟩ := and1 (show (okEs N sc es E.np.np && glB sc (Bf.name .tuple)) = true from ho)
        exact .val (blt_callT hne b_tuple (gl_of C h2).1 (C.no _) PyProof.Rows.boot_tuple (by decide) (gl_of C h2).2 (sEs es C h1 ha)) rfl
      | list =>
        obtain ⟨h1, h2⟩ := and1 (show (okEs N sc es E.np.np && glB sc (Bf.name .list)) = true from ho)
        exact .val (blt_callT hne b_list (gl_of C h2).1 (C.no _) PyProof.Rows.boot_list (by decide) (gl_of C h2).2 (sEs es C h1 ha)) rfl
      | int =>
        obtain ⟨h1, h2⟩ := and1 (show (okEs N sc es E.np.np && glB sc (Bf.name .int)) = true from ho)
        exact .val (blt_callT hne b_int (gl_of C h2).1 (C.no _) PyProof.Rows.boot_int (by decide) (gl_of C h2).2 (sEs es C h1 ha)) rfl
      | stri =>
        obtain ⟨h1, h2⟩ := and1 (show (okEs N sc es E.np.np && glB sc (Bf.name .stri)) = true from ho)
        exact .val (blt_callT hne b_stri (gl_of C h2).1 (C.no _) PyProof.Rows.boot_str (by decide) (gl_of C h2).2 (sEs es C h1 ha)) rfl
      | rev1 =>
        rw [okE] at ho
        obtain ⟨h1, h2⟩ := and1 ho
        match es, h1, h2, ha with
        | .cons a .nil, h1, _, ha =>
          rw [okEs] at h1
          rw [askEs] at ha
          exact .val (imp (pe_revD (sE a C (and1 h1).1 ha.1).pe) fun σ H Q q => key_rev q) rfl
        | .nil, _, h2, _ => cases h2
        | .cons a (.cons b es), _, h2, _ => cases h2
      | cnt =>
        rw [okE] at ho
        obtain ⟨h1, h2⟩ := and1 ho
        obtain ⟨h2, h3⟩ := and1 h2
        match es, h1, h2, ha with
        | .cons (.var i) (.cons b .nil), h1, _, ha =>
          rw [okEs, okE, okEs] at h1
          obtain ⟨g1, h1⟩ := and1 h1
          obtain ⟨g2, _⟩ := and1 h1
          rw [askEs, askEs] at ha
          obtain ⟨w1, w2, w3, w4⟩ := vis_of g1
          refine .val (imp (pe_cnt C.un (pe_var (X := X) (i := i) (by rw [C.hN]; exact w1) (by rw [C.hs]; exact w2) w3 w4) (pa_cons (sE b C g2 ha.2.1).pe pa_nil (star_pl (em_pl N b _))) (by rfl) (few_one' (em_pl N b _)) h3 (star_pl (em_pl N b _))) fun σ H Q q => key_cnt q) rfl
        | .nil, _, h2, _ => cases h2
        | .cons (.var i) .nil, _, h2, _ => cases h2
      | idx =>
        rw [okE] at ho
        obtain ⟨h1, h2⟩ := and1 ho
        obtain ⟨h2, h3⟩ := and1 h2
        match es, h1, h2, ha with
        | .cons (.var i) (.cons b .nil), h1, _, ha =>
          rw [okEs, okE, okEs] at h1
          obtain ⟨g1, h1⟩ := and1 h1
          obtain ⟨g2, _⟩ := and1 h1
          rw [askEs, askEs] at ha
          obtain ⟨w1, w2, w3, w4⟩ := vis_of g1
          refine .val (imp (pe_bm (T := "list") PySem.F.plainAttrs_list PySem.F.slot_list_index PySem.F.type_list_index (mt_index C.un) (pe_var (X := X) (i := i) (by rw [C.hN]; exact w1) (by rw [C.hs]; exact w2) w3 w4) (pa_cons (sE b C g2 ha.2.1).pe pa_nil (star_pl (em_pl N b _))) (by rfl) (few_one' (em_pl N b _)) h3 (star_pl (em_pl N b _)) (by rfl)) fun σ H Q q => key_idx q) rfl
        | .nil, _, h2, _ => cases h2
        | .cons (.var i) .nil, _, h2, _ => cases h2
      | stp =>
        rw [okE] at ho
        obtain ⟨h1, h2⟩ := and1 ho
        match es, h1, h2, ha with
        | .cons a (.cons b .nil), h1, _, ha =>
          rw [okEs, okEs] at h1
          rw [askEs, askEs] at ha
          exact .val (imp (pe_tupF (StX.pa_star (sE a C (and1 h1).1 ha.1).pe (pa_cons (sE b C (and1 (and1 h1).2).1 ha.2.1).pe pa_nil (star_pl (em_pl N b _))) rfl)) fun σ H Q q => key_stp q) rfl
        | .nil, _, h2, _ => cases h2
        | .cons a .nil, _, h2, _ => cases h2
        | .cons a (.cons b (.cons c es)), _, h2, _ => cases h2
      | stl =>
        rw [okE] at ho
        obtain ⟨h1, h2⟩ := and1 ho
        match es, h1, h2, ha with
        | .cons a (.cons b .nil), h1, _, ha =>
          rw [okEs, okEs] at h1
          rw [askEs, askEs] at ha
          exact .val (imp (pe_lst (StX.pa_star (sE a C (and1 h1).1 ha.1).pe (pa_cons (sE b C (and1 (and1 h1).2).1 ha.2.1).pe pa_nil (star_pl (em_pl N b _))) rfl)) fun σ H Q q => key_stl q) rfl
        | .nil, _, h2, _ => cases h2
        | .cons a .nil, _, h2, _ => cases h2
        | .cons a (.cons b (.cons c es)), _, h2, _ => cases h2
      | sth =>
        rw [okE] at ho
        obtain ⟨h1, h2⟩ := and1 ho
        match es, h1, h2, ha with
        | .cons a (.cons b .nil), h1, _, ha =>
          rw [okEs, okEs] at h1
          rw [askEs, askEs] at ha
          exact .val (imp (pe_lst (pa_cons (sE a C (and1 h1).1 ha.1).pe (StX.pa_star (sE b C (and1 (and1 h1).2).1 ha.2.1).pe pa_nil rfl) (star_pl (em_pl N a _)))) fun σ H Q q => key_sth q) rfl
        | .nil, _, h2, _ => cases h2
        | .cons a .nil, _, h2, _ => cases h2
        | .cons a (.cons b (.cons c es)), _, h2, _ => cases h2
      | st3 =>
        rw [okE] at ho
        obtain ⟨h1, h2⟩ := and1 ho
        match es, h1, h2, ha with
        | .cons a (.cons b (.cons c .nil)), h1, _, ha =>
          rw [okEs, okEs, okEs] at h1
          rw [askEs, askEs, askEs] at ha
          exact .val (imp (pe_tupF (StX.pa_star (sE a C (and1 h1).1 ha.1).pe (pa_cons (sE b C (and1 (and1 h1).2).1 ha.2.1).pe (StX.pa_star (sE c C (and1 (and1 (and1 h1).2).2).1 ha.2.2.1).pe pa_nil rfl) (star_pl (em_pl N b _))) rfl)) fun σ H Q q => key_st3 q) rfl
        | .nil, _, h2, _ => cases h2
        | .cons a .nil, _, h2, _ => cases h2
        | .cons a (.cons b .nil), _, h2, _ => cases h2
        | .cons a (.cons b (.cons c (.cons d es))), _, h2, _ => cases h2
      | sset =>
        rw [okE] at ho
        obtain ⟨h1, h2⟩ := and1 ho
        obtain ⟨h2, h3⟩ := and1 h2
        match es, hne, h1, ha with
        | .cons a .nil, _, h1, ha =>
          rw [okEs] at h1
          rw [askEs] at ha
          exact .val (imp (pe_sortSet C.calm (gl_of C h2).1 (C.no _) (gl_of C h3).1 (C.no _) (sE a C (and1 h1).1 ha.1).pe (star_pl (em_pl N a _))) fun σ H Q q => key_sset _ q) rfl
        | .cons a (.cons b es), _, h1, ha => exact .val (neverV (sset_two (.inl rfl) a b es)) rfl
      | slen =>
        rw [okE] at ho
        obtain ⟨h1, h2⟩ := and1 ho
        obtain ⟨h2, h3⟩ := and1 h2
        match es, hne, h1, ha with
        | .cons a .nil, _, h1, ha =>
          rw [okEs] at h1
          rw [askEs] at ha
          exact .val (imp (pe_lenSet C.calm (gl_of C h2).1 (C.no _) (gl_of C h3).1 (C.no _) (sE a C (and1 h1).1 ha.1).pe (star_pl (em_pl N a _))) fun σ H Q q => key_slen _ q) rfl
        | .cons a (.cons b es), _, h1, ha => exact .val (neverV (sset_two (.inr (.inr (.inr rfl))) a b es)) rfl
      | lrange =>
        rw [okE] at ho
        obtain ⟨h1, h2⟩ := and1 ho
        obtain ⟨h2, h3⟩ := and1 h2
        match es, hne, h1, ha with
        | .cons a .nil, _, h1, ha =>
          rw [okEs] at h1
          rw [askEs] at ha
          exact .val (imp (pe_listRg C.calm (gl_of C h2).1 (C.no _) (prg_1 (gl_of C h3).1 (C.no _) (sE a C (and1 h1).1 ha.1).pe (star_pl (em_pl N a _))) (by rfl)) fun σ H Q q => key_lrange q) rfl
        | .cons a (.cons b .nil), _, h1, ha =>
          rw [okEs, okEs] at h1
          rw [askEs, askEs] at ha
          exact .val (imp (pe_listRg C.calm (gl_of C h2).1 (C.no _) (prg_2 (gl_of C h3).1 (C.no _) (sE a C (and1 h1).1 ha.1).pe (sE b C (and1 (and1 h1).2).1 ha.2.1).pe (star_pl (em_pl N a _)) (star_pl (em_pl N b _)) (plain_one (em_pl N b _))) (by rfl)) fun σ H Q q => key_lrange2 q) rfl
        | .cons a (.cons b (.cons c es)), _, h1, ha => exact .val (neverV (lrange_three a b c es)) rfl
      | trange =>
        rw [okE] at ho
        obtain ⟨h1, h2⟩ := and1 ho
        obtain ⟨h2, h3⟩ := and1 h2
        match es, hne, h1, ha with
        | .cons a .nil, _, h1, ha =>
          rw [okEs] at h1
          rw [askEs] at ha
          exact .val (imp (pe_tupRgF C.calm (gl_of C h2).1 (C.no _) (prg_1 (gl_of C h3).1 (C.no _) (sE a C (and1 h1).1 ha.1).pe (star_pl (em_pl N a _))) (by rfl)) fun σ H Q q => key_trange q) rfl
        | .cons a (.cons b es), _, h1, ha => exact .val (neverV (sset_two (.inr (.inl rfl)) a b es)) rfl
      | lenm =>
        rw [okE] at ho
        obtain ⟨h1, h2⟩ := and1 ho
        obtain ⟨h2, h3⟩ := and1 h2
        match es, hne, h1, ha with
        | .cons a .nil, _, h1, ha =>
          rw [okEs] at h1
          rw [askEs] at ha
          exact .val (imp (pe_lenm C.calm (gl_of C h2).1 (C.no _) (gl_of C h3).1 (C.no _) (sE a C (and1 h1).1 ha.1).pe (star_pl (em_pl N a _))) fun σ H Q q => key_lenm q) rfl
        | .cons a (.cons b es), _, h1, ha => exact .val (neverV (sset_two (.inr (.inr (.inl rfl))) a b es)) rfl
  | .call x F es, X, N, sc, E, C, ho, ha => by
    rw [okE] at ho
    rw [askE] at ha
    obtain ⟨h1, h2⟩ := and1 ho
    obtain ⟨h4, h3⟩ := and1 h2
    obtain ⟨⟨f, fd, ps, Fn1, hm, hk, hb⟩⟩ := ha.1
    have pas := sEs es C h1 ha.2
    match es, h3, pas with
    | .cons e es, _, pas =>
      exact .val (imp (pe_gcall (e := (emE N e E.np.np).1) (es := (emEs N es (emE N e E.np.np).2).1) Fn1 C.room C.gd (gl_of C h4).1 hm hk hb pas (gl_of C h4).2 (star_pl (em_pl N e _)) (stars N _ _ es _)) fun σ H Q q => key_call q) rfl
    | .nil, h3, _ => rw [emEs] at h3; cases h3
  | .one x a b, X, N, sc, E, C, ho, ha => by
    rw [okE] at ho
    rw [askE] at ha
    obtain ⟨h1, h2⟩ := and1 ho
    obtain ⟨h2, h3⟩ := and1 h2
    obtain ⟨⟨f, fd, ps, Fn1, hm, hk, hb⟩⟩ := ha.1
    have pas := pa_cons (sE a C h1 ha.2.1).pe (pa_cons (sE b C h2 ha.2.2).pe pa_nil (star_pl (em_pl N b _))) (star_pl (em_pl N a _))
    refine .val (imp (pe_gcall Fn1 C.room C.gd (gl_of C h3).1 hm hk hb pas (gl_of C h3).2 (star_pl (em_pl N a _)) ?_) fun σ H Q q => key_one q) rfl
    rw [star_pl (em_pl N b _)]; rfl
  | .pix i j, X, N, sc, E, C, ho, ha => by
    rw [okE] at ho
    obtain ⟨h1, h2, h3, h4⟩ := vis_of ho
    exact .val (imp (pe_ix ix_list (pe_var (X := X) (i := i) (by rw [C.hN]; exact h1) (by rw [C.hs]; exact h2) h3 h4) pe_int (fun _ _ => rfl)) fun σ H Q q => key_pix X.K q) rfl
  | .lc elt tg src ifs, X, N, sc, E, C, ho, ha => by
    rw [okE] at ho
    rw [askE] at ha
    obtain ⟨h1, ho⟩ := and1 ho
    obtain ⟨h2, ho⟩ := and1 ho
    obtain ⟨h2, h3⟩ := and1 h2
    obtain ⟨h4, h5⟩ := and1 ho
    obtain ⟨h6, h7⟩ := and1 h4
    obtain ⟨h8, h9⟩ := and1 h5
    obtain ⟨h10, h11⟩ := and1 h9
    have hN := C.hN
    subst hN
    have bk : BlkOk X.N X.env.scope E.s (ownOf X.N tg.slots) := by rw [C.hs]; exact blkOk_by h3
    have pi := sSr src (tgt := (emTr X.N tg (emE X.N elt E.np.ns).2).1) C h8 ha.2.1 fun hp => by
      rw [hp] at h2
      cases tg with
      | v i => cases h2
      | t is => exact ⟨_, _, _, rfl⟩
      | n i is => exact ⟨_, _, _, rfl⟩
    have q := pe_lc (X := X) (elt := (emE X.N elt E.np.ns).1) (ifs := (emEs X.N ifs (emSr X.N src (emTr X.N tg (emE X.N elt E.np.ns).2).2).2).1) (pos := E.p) (g := tTr X.K tg) (tt := tTs ifs) (te := tI elt) C.calm C.nd pi bk ?_ ?_ ?_ (fold_sr _ src _)
    · rw [own_snd] at q
      exact .val (imp q fun σ H Q q => lc_ok X.K elt tg src ifs (fun hp => by rw [hp] at h2; cases tg with | v i => cases h2 | t is => rfl | n i is => rfl) q) rfl
    · intro s H A cl fp
      refine pg_tr (X := X.blk s H E.s (compEnvC E.s cl A X.env) fp) C.nd C.calm tg _ fun i hi => ?_
      obtain ⟨l1, l2⟩ := loc_of (List.all_eq_true.mp h6 i hi)
      refine ⟨l1, ?_, ?_⟩
      · rcases l2 with l2 | l2
        · exact .inl (lookup_relS_keep (by decide) l2)
        · exact .inr (lookup_relS_keep (by decide) l2)
      · rcases l2 with l2 | l2
        · exact .inr (lookup_relS_keep (by decide) l2)
        · refine .inl ?_
          show (E.s.names.lookup (nm X.N i) == some .cell) = true
          rw [l2]; rfl
    · intro s H A cl fp
      exact sTs ifs (C.blk E.s s H A cl fp) h10 ha.2.2 (of_decide_eq_true h11)
    · intro s H A cl fp
      exact (sE elt (C.blk E.s s H A cl fp) h1 ha.1).pe
theorem sEs : ∀ (es : IEs) {X : Cx} {N : List Str} {sc : Scope} {E : Em}, Cd X N sc k → okEs N sc es E = true → askEs (askOf (wdOf X) k) es → L2.PA X (emEs N es E).1 (tAs es)
  | .nil, X, N, sc, E, C, ho, ha => PA.imp pa_nil fun σ H Q q => by
    obtain ⟨pa, H0, G0, G, s, xs, s1, S0, e, kk⟩ := q
    rw [evalEs] at e; cases e
    exact kk [] H G S0 .refl trivial
  | .cons e es, X, N, sc, E, C, ho, ha => by
    rw [okEs] at ho
    rw [askEs] at ha
    obtain ⟨h1, h2⟩ := and1 ho
    exact PA.imp (pa_cons (sE e C h1 ha.1).pe (sEs es C h2 ha.2) (star_pl (em_pl N e E))) fun σ H Q q => key_cons q
theorem sTs : ∀ (es : IEs) {X : Cx} {N : List Str} {sc : Scope} {E : Em}, Cd X N sc k → okEs N sc es E = true → askEs (askOf (wdOf X) k) es → (emEs N es E).1.length ≤ 1 → PTs X (emEs N es E).1 (tTs es)
  | .nil, X, N, sc, E, C, ho, ha, hl => pts_nil
  | .cons e .nil, X, N, sc, E, C, ho, ha, hl => by
    rw [okEs] at ho
    rw [askEs] at ha
    exact pts_one (sE e C (and1 ho).1 ha.1).pt
  | .cons e (.cons e2 es), X, N, sc, E, C, ho, ha, hl => by
    rw [em_len] at hl
    simp [IEs.len] at hl
theorem sB : ∀ (es : IEs) {X : Cx} {N : List Str} {sc : Scope} {E : Em}, Cd X N sc k → okEs N sc es E = true → askEs (askOf (wdOf X) k) es → Sd2 X .And (emEs N es E).1 (evalAnd es) ∧ Sd2 X .Or (emEs N es E).1 (evalOr es)
  | .nil, X, N, sc, E, C, ho, ha => ⟨⟨fun _ => neverV fun s => by rw [evalAnd], fun _ => neverW fun s => by rw [evalAnd]; rfl⟩, ⟨fun _ => neverV fun s => by rw [evalOr], fun _ => neverW fun s => by rw [evalOr]; rfl⟩⟩
  | .cons e .nil, X, N, sc, E, C, ho, ha => by
    rw [okEs] at ho
    rw [askEs] at ha
    have h := sE e C (and1 ho).1 ha.1
    exact ⟨⟨fun _ => imp (pe_one h.pe) fun σ H Q q => key_and1 q, fun _ => PW.imp (pw_and1 h.pt) fun σ H Q q => key_and1Q q⟩,
      ⟨fun _ => imp (pe_one h.pe) fun σ H Q q => key_or1 q, fun _ => PW.imp (pw_or1 h.pt) fun σ H Q q => key_or1Q q⟩⟩
  | .cons e (.cons e2 es), X, N, sc, E, C, ho, ha => by
    rw [okEs] at ho
    rw [askEs] at ha
    have h := sE e C (and1 ho).1 ha.1
    have r := sB (.cons e2 es) C (and1 ho).2 ha.2
    exact ⟨⟨fun p => imp (pe_and h.pe (r.1.pe p)) fun σ H Q q => key_and (fun z => by cases z) q, fun p => PW.imp (pw_and h.pt (r.1.pw p)) fun σ H Q q => key_andQ (fun z => by cases z) q⟩,
      ⟨fun p => imp (pe_orT h.pe (r.2.pe p)) fun σ H Q q => key_or (fun z => by cases z) q, fun p => PW.imp (pw_or h.pt (r.2.pw p)) fun σ H Q q => key_orQ (fun z => by cases z) q⟩⟩
theorem sO : ∀ (o : IO) {X : Cx} {N : List Str} {sc : Scope} {E : Em}, Cd X N sc k → okO N sc o E = true → askO (askOf (wdOf X) k) o → PO X (emO N o E).1 (tOo o)
  | .none, X, N, sc, E, C, ho, ha => PO.imp po_none fun σ H Q q => by
    obtain ⟨pa, H0, G0, G, s, r, s1, S0, e, i, hi, kk⟩ := q
    rw [evalO] at e; cases e
    cases hi
    exact kk H G S0 .refl
  | .some e, X, N, sc, E, C, ho, ha => by
    rw [okO] at ho
    rw [askO] at ha
    refine PO.imp (po_some (sE e C ho ha).pe) fun σ H Q q => ?_
    obtain ⟨pa, H0, G0, G, s, r, s1, S0, ev, i, hi, kk⟩ := q
    rw [evalO] at ev
    obtain ⟨⟨⟨d, t⟩, s2⟩, e1, ev⟩ := obind ev
    cases ev
    refine tV_of S0 e1 fun v H1 G1 S1 E1 R1 N1 => ?_
    unfold optI at hi
    split at hi
    · rename_i z; cases z
    · rename_i n z
      cases z
      cases hi
      exact ⟨n, (R1.top S1).int, kk H1 G1 S1 E1⟩
    · cases hi
theorem sSr : ∀ (src : Sr) {X : Cx} {N : List Str} {sc : Scope} {E : Em} {tgt : Expr}, Cd X N sc k → okSr N sc src E = true → askSr (askOf (wdOf X) k) src → (src.pairs = true → ∃ elts kk p, tgt = .Tuple elts kk p) → PI X tgt (emSr N src E).1 (tSr src)
  | .seq e, X, N, sc, E, tgt, C, ho, ha, ht => by
    rw [okSr] at ho
    rw [askSr] at ha
    have pe := (sE e C ho ha).pe
    exact PI.imp (PI.or (pi_list pe) (pi_tup pe)) fun σ H R q => key_seq X.K q
  | .enum e, X, N, sc, E, tgt, C, ho, ha, ht => by
    rw [okSr] at ho
    rw [askSr] at ha
    obtain ⟨h1, h2⟩ := and1 ho
    obtain ⟨elts, kk, p, rfl⟩ := ht rfl
    have pe := (sE e C h1 ha).pe
    exact PI.imp (pi_enA (gl_of C h2).1 (C.no _) (pa_cons pe pa_nil (star_pl (em_pl N e _))) (star_pl (em_pl N e _))) fun σ H R q => key_enum X.K q
  | .zip a b, X, N, sc, E, tgt, C, ho, ha, ht => by
    rw [okSr] at ho
    rw [askSr] at ha
    obtain ⟨h1, h2⟩ := and1 ho
    obtain ⟨h2, h3⟩ := and1 h2
    obtain ⟨elts, kk, p, rfl⟩ := ht rfl
    have pas := pa_cons (sE a C h1 ha.1).pe (pa_cons (sE b C h2 ha.2).pe pa_nil (star_pl (em_pl N b _))) (star_pl (em_pl N a _))
    exact PI.imp (pi_zip4 (gl_of C h3).1 (C.no _) pas (star_pl (em_pl N a _)) (by rw [star_pl (em_pl N b _)]; rfl)) fun σ H R q => key_zip X.K q
  | .rng a, X, N, sc, E, tgt, C, ho, ha, ht => by
    rw [okSr] at ho
    rw [askSr] at ha
    obtain ⟨h1, h2⟩ := and1 ho
    exact PI.imp (pi_range1 (gl_of C h2).1 (C.no _) (pa_cons (sE a C h1 ha).pe pa_nil (star_pl (em_pl N a _))) (star_pl (em_pl N a _))) fun σ H R q => key_rng q
  | .rng2 a b, X, N, sc, E, tgt, C, ho, ha, ht => by
    rw [okSr] at ho
    rw [askSr] at ha
    obtain ⟨h1, h2⟩ := and1 ho
    obtain ⟨h2, h3⟩ := and1 h2
    have pas := pa_cons (sE a C h1 ha.1).pe (pa_cons (sE b C h2 ha.2).pe pa_nil (star_pl (em_pl N b _))) (star_pl (em_pl N a _))
    have e1 : starEach [(emE N a E.np.np).1, (emE N b (emE N a E.np.np).2).1] X.env = [(false, eval (emE N a E.np.np).1 X.env), (false, eval (emE N b (emE N a E.np.np).2).1 X.env)] := by
      rw [star_pl (em_pl N a _), star_pl (em_pl N b _)]; rfl
    exact PI.imp (pi_range2 (gl_of C h3).1 (C.no _) pas e1 (star_pl (em_pl N b _))) fun σ H R q => key_rng2 q
  | .rng3 a b c, X, N, sc, E, tgt, C, ho, ha, ht => by
    rw [okSr] at ho
    rw [askSr] at ha
    obtain ⟨h1, h2⟩ := and1 ho
    obtain ⟨h2, h3⟩ := and1 h2
    obtain ⟨h3, h4⟩ := and1 h3
    have pas := pa_cons (sE a C h1 ha.1).pe (pa_cons (sE b C h2 ha.2.1).pe (pa_cons (sE c C h3 ha.2.2).pe pa_nil (star_pl (em_pl N c _))) (star_pl (em_pl N b _))) (star_pl (em_pl N a _))
    exact PI.imp (pi_range3 (gl_of C h4).1 (C.no _) pas (star_pl (em_pl N a _)) (by rw [star_pl (em_pl N b _), star_pl (em_pl N c _)]; rfl)) fun σ H R q => key_rng3 q
end
end
end Fs

set_option Elab.async false
set_option linter.all false
set_option maxRecDepth 100000
set_option maxHeartbeats 8000000
namespace Fs
open PySem L2

def isLc : IE → Bool
  | .lc _ _ _ _ => true
  | _ => false
def isTup : IE → Bool
  | .tup _ => true
  | .blt .stp _ => true
  | .blt .st3 _ => true
  | _ => false
def celB (N : List Str) (sc : Scope) (i : Nat) : Bool := match sc.names.lookup (nm N i) with
  | some .cell => true
  | _ => false
def plB (N : List Str) (sc : Scope) (i : Nat) : Bool := match sc.names.lookup (nm N i) with
  | some .local => true
  | _ => false
def kindF (sc : Scope) : Bool := match sc.kind with
  | .function => true
  | _ => false
/-- how the stores of a tuple of targets go -/
def swC (sc : Scope) (ts vs : List Expr) : Option (Option (List Str)) :=
  if !(ts.length == 2 || ts.length == 3) || vs.length != ts.length then some none
  else if (vs.any fun | .Starred .. => true | _ => false) then some none
  else
    if (ts.filterMap fun | .Name id pos => if sc.names.lookup id == some .local && pos.line == (ts.head?.map (·.pos.line)).getD 0 then some id else none | _ => none).length != ts.length ||
        (ts.filterMap fun | .Name id pos => if sc.names.lookup id == some .local && pos.line == (ts.head?.map (·.pos.line)).getD 0 then some id else none | _ => none).eraseDups.length !=
          (ts.filterMap fun | .Name id pos => if sc.names.lookup id == some .local && pos.line == (ts.head?.map (·.pos.line)).getD 0 then some id else none | _ => none).length then some none
    else if vs.all (foldedForSure 8) then some none
    else if vs.all (constantsAlone 8) then none
    else some (some (ts.filterMap fun | .Name id pos => if sc.names.lookup id == some .local && pos.line == (ts.head?.map (·.pos.line)).getD 0 then some id else none | _ => none))
theorem swC_ok {env : Env} {sc : Scope} {ts vs : List Expr} {a b : Nat} {p q : Pos} {r : Option (List Str)} (hs : env.scope = sc) (hk : kindF sc = true) (h : swC sc ts vs = some r) :
    swappedStores [.Tuple ts a p] (.Tuple vs b q) env = pure r := by
  subst hs
  have bk : env.blockKind = .function := by
    unfold kindF at hk
    unfold Env.blockKind
    split at hk
    · rename_i e; rw [e]; rfl
    · cases hk
  have k2 : (env.blockKind != .function) = false := by rw [bk]; rfl
  unfold swC at h
  unfold swappedStores
  simp only [k2, Bool.or_false, Env.kindOf]
  split at h
  · rename_i z
    cases h
    exact if_pos z
  · rename_i z
    refine (if_neg z).trans ?_
    split at h
    · rename_i z
      cases h
      exact if_pos z
    · rename_i z
      refine (if_neg z).trans ?_
      split at h
      · rename_i z
        cases h
        exact if_pos z
      · rename_i z
        refine (if_neg z).trans ?_
        split at h
        · rename_i z
          cases h
          exact if_pos z
        · rename_i z
          refine (if_neg z).trans ?_
          split at h
          · cases h
          · rename_i z
            cases h
            exact if_neg z
/-- none: a tuple is made and taken apart; some: the names -/
def swB (N : List Str) (sc : Scope) (is : List Nat) (ts vs : List Expr) : Bool := match swC sc ts vs with
  | some none => true
  | some (some l) => match is with
    | [i, j] => decide (l = [nm N i, nm N j]) && (plB N sc i && (plB N sc j && decide (i ≠ j)))
    | [i, j, l2] => decide (l = [nm N i, nm N j, nm N l2]) && (plB N sc i && (plB N sc j && (plB N sc l2 && (decide (i ≠ j) && (decide (i ≠ l2) && decide (j ≠ l2))))))
    | _ => false
  | none => false

def tgB (N : List Str) (sc : Scope) (is : List Nat) : Bool := is.all fun i => locB N sc i
mutual
def okS (N : List Str) (sc : Scope) : IS → Em → Bool
  | .set i e, E => okE N sc e E.np.np && (locB N sc i && (!isLc e || celB N sc i))
  | .setLc i elt tg src ifs, E => okE N sc (.lc elt tg src ifs) E.np.np && (locB N sc i && (plB N sc i && (kindF sc && ((E.np.p.line == E.np.np.p.line) &&
      !(E.np.np.s.names.any fun (n, k) => n == nm N i && (k == .local || k == .cell))))))
  | .setT is e, E => okE N sc e (emTr N (.t is) E.np).2 && (tgB N sc is && !isTup e)
  | .set2 is es, E => okEs N sc es (emTr N (.t is) E.np).2.np && (tgB N sc is && (decide ((emEs N es (emTr N (.t is) E.np).2.np).1.length ≤ 1000) && (kindF sc &&
      swB N sc is (emNames N is E.np.np).1 (emEs N es (emTr N (.t is) E.np).2.np).1)))
  | .setIx i k e, E => okE N sc k E.np.np.np && (okE N sc e (emE N k E.np.np.np).2 && visB N sc i)
  | .pset i _ e, E => okE N sc e E.np.np.np.np && visB N sc i
  | .aug op i e, E => okE N sc e E.np.np && locB N sc i
  | .app i e, E => okE N sc e E.np.np.np.np && (visB N sc i && (E.np.np.p.endLine == E.np.p.line))
  | .ins i k e, E => okE N sc k E.np.np.np.np && (okE N sc e (emE N k E.np.np.np.np).2 && (visB N sc i && (E.np.np.p.endLine == E.np.p.line)))
  | .pop j i k, E => okE N sc k E.np.np.np.np.np && (locB N sc j && (visB N sc i && (E.np.np.np.p.endLine == E.np.np.p.line)))
  | .ext i e, E => okE N sc e E.np.np.np.np && (visB N sc i && (E.np.np.p.endLine == E.np.p.line))
  | .rev i, E => visB N sc i && (E.np.np.p.endLine == E.np.p.line)
  | .expr e, E => okE N sc e E.np && !isLc e
  | .ite c a b, E => okE N sc c E.np && (okSs N sc a (emE N c E.np).2 && okSs N sc b (emSs N a (emE N c E.np).2).2)
  | .for tg src body, E => okSr N sc src (emTr N tg E.np).2 && (tgB N sc tg.slots && ((!src.pairs || tg.isT) && okSs N sc body (emSr N src (emTr N tg E.np).2).2))
  | .while _ c body, E => okE N sc c E.np && okSs N sc body (emE N c E.np).2
  | .ret e, E => okE N sc e E.np
  | .retN, _ => true
  | .pass, _ => true
  | .brk, _ => true
  | .cont, _ => true
  | .never, _ => true
def okSs (N : List Str) (sc : Scope) : ISs → Em → Bool
  | .nil, _ => true
  | .cons s ss, E => okS N sc s E && okSs N sc ss (emS N s E).2
end

section
variable {pa : PA} {H0 G0 G G1 G2 H H1 H2 Hs : Hp} {σ σ2 : L2.St} {s s1 s2 : S} {v w : V} {d : D} {t : Tg}
/-- a value is stored -/
theorem Sim.store (S1 : Sim pa H0 G0 G σ H s) (r : RT pa H0 G σ H s v d t) {i : Nat} (hi : i < s.sl.length) : ∃ G', Sub G G' ∧ Sim pa H0 G0 G' (σ.set i (some v)) H ((s.keep t).put i (d, t.own)) := by
  cases t with
  | fresh =>
    obtain ⟨a, xs, ds, rfl, rfl, h, r, g, h0, n, o⟩ := r
    exact ⟨G, .refl, S1.putOwn hi h r g h0 n fun j e _ q z => o ⟨j, e, q, z⟩⟩
  | fz => exact ⟨G, .refl, S1.put hi r⟩
  | slot j =>
    obtain ⟨G', S2, _, k, _, rp⟩ := RT.keep S1 .refl r (fun z => by cases z)
    exact ⟨G', k, S2.put (by rw [show (s.keep (.slot j)).sl.length = s.sl.length from freeze_len s j]; exact hi) rp⟩
/-- the slot's own list is written -/
theorem Sim.ownUpd (S1 : Sim pa H0 G0 G σ H s) {i : Nat} {a : Addr} {ys : List V} {es : List D} (h : s.sl[i]? = some (some (d, true))) (hσ : σ[i]? = some (some (.ref a))) (r : Rps pa G ys es) :
    Sim pa H0 G0 G σ (upd H a (.lst ys)) (s.put i (.list es, true)) := by
  obtain ⟨b, xs, ds, e1, e2, e3, e4, e5, e6, e7⟩ := S1.ow i d h
  rw [hσ] at e1; cases e1
  have hi : i < s.sl.length := by
    rcases Nat.lt_or_ge i s.sl.length with q | q
    · exact q
    · rw [List.getElem?_eq_none q] at h; cases h
  refine ⟨by rw [put_len]; exact S1.len, fun b u hb => ?_, S1.base, S1.new, fun b u hb m => ?_, ?_, fun j e q => ?_, fun j e q => ?_, fun j k e e' b q q' p p' => ?_⟩
  · rw [upd_ne]
    · exact S1.sub b u hb
    · rintro rfl; rw [e5] at hb; cases hb
  · rw [upd_ne]
    · exact S1.kee b u hb m
    · rintro rfl; rw [e6] at hb; cases hb
  · have p := S1.pen
    show PenAt pa G _ s.pn
    cases pa with
    | none =>
      cases q : s.pn with
      | none => trivial
      | some y => rw [q] at p; exact p.elim
    | some x =>
      obtain ⟨b, c, T⟩ := x
      cases q : s.pn with
      | none => rw [q] at p; exact p.elim
      | some y =>
        rw [q] at p
        refine ⟨p.1, ?_, p.2.2.1, p.2.2.2.1, tabs_upd p.2.2.2.2.1 (fun f z => by rw [e3] at z; cases z) (fun z => e7 ⟨_, _, _, rfl, .inr z⟩), p.2.2.2.2.2⟩
        rw [upd_ne]
        · exact p.2.1
        · rintro rfl; exact e7 pen1_pen
  · by_cases z : i = j
    · subst z; rw [put_at hi] at q; cases q
    · rw [put_ne z] at q; exact S1.fz j e q
  · by_cases z : i = j
    · subst z
      rw [put_at hi] at q; cases q
      exact ⟨a, ys, es, hσ, rfl, upd_same, r, e5, e6, e7⟩
    · rw [put_ne z] at q
      obtain ⟨b, zs, fs, f1, f2, f3, f4⟩ := S1.ow j e q
      refine ⟨b, zs, fs, f1, f2, ?_, f4⟩
      rw [upd_ne]
      · exact f3
      · rintro rfl; exact z (S1.dis i j _ _ _ h q hσ f1)
  · by_cases z : i = j
    · subst z
      by_cases z' : i = k
      · exact z'
      · rw [put_ne z'] at q'
        exact S1.dis i k _ _ b h q' p p'
    · by_cases z' : i = k
      · subst z'
        rw [put_ne z] at q
        exact S1.dis j i _ _ b q h p p'
      · rw [put_ne z] at q; rw [put_ne z'] at q'; exact S1.dis j k e e' b q q' p p'

def Tg.top : Tg → Tg
  | .fresh => .fresh
  | _ => .fz
theorem Tg.top_own (t : Tg) : t.top.own = t.own := by cases t <;> rfl
/-- all values but the fresh lists are kept -/
theorem RTs.settle : ∀ {vs : List V} {xs : List (D × Tg)} {G : Hp} {s : S}, Sim pa H0 G0 G σ H s → RTs pa H0 G σ H s Hs vs xs →
    ∃ G', Sim pa H0 G0 G' σ H (s.keeps (xs.map (·.2))) ∧ Ext pa G G' H H σ s (s.keeps (xs.map (·.2))) ∧ RTs pa H0 G' σ H (s.keeps (xs.map (·.2))) Hs vs (xs.map fun x => (x.1, x.2.top))
  | [], [], G, s, S1, _ => ⟨G, S1, .refl, trivial⟩
  | v :: vs, x :: xs, G, s, S1, h => by
    obtain ⟨r, nw, ap, rs⟩ := h
    obtain ⟨d, t⟩ := x
    have ap2 : ∀ {ys : List (D × Tg)}, t.top = .fresh → (∀ p ∈ vs.zip xs, p.2.2 = .fresh → p.1 ≠ v) → ∀ p ∈ vs.zip (xs.map fun x => (x.1, x.2.top)), p.2.2 = .fresh → p.1 ≠ v := by
      intro _ _ q p hp z
      rw [List.zip_map_right, List.mem_map] at hp
      obtain ⟨⟨w, y⟩, hy, rfl⟩ := hp
      refine q (w, y) hy ?_
      obtain ⟨y1, y2⟩ := y
      cases y2 <;> first | rfl | cases z
    cases t with
    | fresh =>
      obtain ⟨G', S', E', rs'⟩ := RTs.settle S1 rs
      exact ⟨G', S', E', r.ext S' E', nw, fun z => ap2 (ys := []) rfl (ap rfl), rs'⟩
    | fz =>
      obtain ⟨G', S', E', rs'⟩ := RTs.settle S1 rs
      exact ⟨G', S', E', r.ext S' E', (fun z => by cases z), (fun z => by cases z), rs'⟩
    | slot i =>
      obtain ⟨G1, S2, E2, k1, nk, rp⟩ := RT.keep S1 (.refl : Ext pa G G H H σ s s) r (fun z => by cases z)
      obtain ⟨G', S', E', rs'⟩ := RTs.settle S2 (rs.other S1 k1 nk r fun z => by cases z)
      exact ⟨G', S', E2.trans S' E', rp.mono E'.gk, (fun z => by cases z), (fun z => by cases z), rs'⟩
  | [], _ :: _, _, _, _, h => h.elim
  | _ :: _, [], _, _, _, h => h.elim
def setsV : L2.St → List Nat → List V → L2.St
  | σ, i :: is, v :: vs => setsV (σ.set i (some v)) is vs
  | σ, _, _ => σ
theorem gn_sets : ∀ {is : List Nat} {vs : List V} {σ : L2.St} {H : Hp} {Q : L2.St → Hp → Prop}, is.length = vs.length → Q (setsV σ is vs) H → gNames is vs σ H Q
  | [], [], _, _, _, _, q => ⟨rfl, q⟩
  | i :: is, v :: vs, σ, H, Q, l, q => ⟨v, vs, rfl, gn_sets (σ := σ.set i (some v)) (by simpa using l) q⟩
  | [], _ :: _, _, _, _, l, _ => by simp at l
  | _ :: _, [], _, _, _, l, _ => by simp at l
/-- settled values are stored one by one -/
theorem puts_sim : ∀ {is : List Nat} {vs : List V} {xs : List (D × Tg)} {σ : L2.St} {s : S}, Sim pa H0 G0 G σ H s → is.length = xs.length → (is.all fun i => decide (i < s.sl.length)) = true → (∀ x ∈ xs, ∀ j, x.2 ≠ .slot j) → RTs pa H0 G σ H s Hs vs xs →
    Sim pa H0 G0 G (setsV σ is vs) H (s.puts is xs)
  | [], [], [], σ, s, S1, _, _, _, _ => S1
  | i :: is, v :: vs, (d, t) :: xs, σ, s, S1, l, hb, ns, h => by
    obtain ⟨r, nw, ap, rs⟩ := h
    simp only [List.all_cons, Bool.and_eq_true, decide_eq_true_eq] at hb
    show Sim pa H0 G0 G (setsV (σ.set i (some v)) is vs) H ((s.put i (d, t.own)).puts is xs)
    have hσ : i < σ.length := by rw [S1.len]; exact hb.1
    have S2 : Sim pa H0 G0 G (σ.set i (some v)) H (s.put i (d, t.own)) := by
      cases t with
      | fresh =>
        obtain ⟨a, xs, ds, rfl, rfl, h, r, g, h0, n, o⟩ := r
        exact S1.putOwn hb.1 h r g h0 n fun j e _ q z => o ⟨j, e, q, z⟩
      | fz => exact S1.put hb.1 r
      | slot j => exact absurd rfl (ns (d, .slot j) (by simp) j)
    have keep : ∀ {ws : List V} {ys : List (D × Tg)}, (t = .fresh → ∀ p ∈ ws.zip ys, p.2.2 = .fresh → p.1 ≠ v) → (∀ x ∈ ys, ∀ j, x.2 ≠ .slot j) → RTs pa H0 G σ H s Hs ws ys → RTs pa H0 G (σ.set i (some v)) H (s.put i (d, t.own)) Hs ws ys := by
      intro ws
      induction ws with
      | nil =>
        intro ys _ _ h
        cases ys with
        | nil => trivial
        | cons y ys => exact h.elim
      | cons w ws ih =>
        intro ys ap ns h
        cases ys with
        | nil => exact h.elim
        | cons y ys =>
          obtain ⟨r1, r2, r3, r4⟩ := h
          refine ⟨?_, r2, r3, ih (fun z p hp => ap z p (List.mem_cons_of_mem _ hp)) (fun x hx => ns x (List.mem_cons_of_mem _ hx)) r4⟩
          obtain ⟨e, u⟩ := y
          cases u with
          | fz => exact r1
          | slot j => exact absurd rfl (ns (e, .slot j) (by simp) j)
          | fresh =>
            obtain ⟨a, zs, ds, rfl, rfl, h, r, g, h0, n, o⟩ := r1
            refine ⟨a, zs, ds, rfl, rfl, h, r, g, h0, n, ?_⟩
            rintro ⟨j, e, q1, q2⟩
            by_cases z : i = j
            · subst z
              rw [put_at hb.1] at q1
              rw [set_at hσ] at q2
              cases q2
              have tf : t = .fresh := by
                cases t with
                | fresh => rfl
                | _ => cases q1
              exact ap tf (.ref a, (.list ds, .fresh)) (by simp) rfl rfl
            · rw [put_ne z] at q1
              rw [set_ne z] at q2
              exact o ⟨j, e, q1, q2⟩
    exact puts_sim S2 (by simpa using l) (by rw [put_len]; exact hb.2) (fun x hx => ns x (List.mem_cons_of_mem _ hx)) (keep ap (fun x hx => ns x (List.mem_cons_of_mem _ hx)) rs)
  | [], [], _ :: _, _, _, _, l, _, _, _ => by simp at l
  | _ :: _, _, [], _, _, _, l, _, _, _ => by simp at l
  | [], _ :: _, [], _, _, _, _, _, _, h => h.elim
  | _ :: _, [], _ :: _, _, _, _, _, _, _, h => h.elim
  | [], _ :: _, _ :: _, _, _, _, l, _, _, _ => by simp at l
theorem puts_top : ∀ (is : List Nat) (xs : List (D × Tg)) (s : S), s.puts is (xs.map fun x => (x.1, x.2.top)) = s.puts is xs
  | [], [], _ => rfl
  | [], _ :: _, _ => rfl
  | _ :: _, [], _ => rfl
  | i :: is, (d, t) :: xs, s => by
    show (s.put i (d, t.top.own)).puts is _ = (s.put i (d, t.own)).puts is xs
    rw [Tg.top_own, puts_top is xs]
theorem keeps_len : ∀ (ts : List Tg) (s : S), (s.keeps ts).sl.length = s.sl.length
  | [], _ => rfl
  | t :: ts, s => by
    show ((s.keep t).keeps ts).sl.length = _
    rw [keeps_len ts]
    cases t <;> first | rfl | exact freeze_len s _
theorem store_all {is : List Nat} {vs : List V} {xs : List (D × Tg)} (S1 : Sim pa H0 G0 G σ H s) (rs : RTs pa H0 G σ H s Hs vs xs) (l : is.length = xs.length) (hb : (is.all fun i => decide (i < s.sl.length)) = true) :
    ∃ G', Sub G G' ∧ Sim pa H0 G0 G' (setsV σ is vs) H ((s.keeps (xs.map (·.2))).puts is xs) := by
  obtain ⟨G', S', E', rs'⟩ := rs.settle S1
  refine ⟨G', E'.gk, ?_⟩
  rw [← puts_top]
  refine puts_sim S' (by rw [List.length_map]; exact l) ?_ (fun x hx j => ?_) rs'
  · rw [keeps_len]; exact hb
  · obtain ⟨y, _, rfl⟩ := List.mem_map.mp hx
    obtain ⟨y1, y2⟩ := y
    cases y2 <;> (intro z; cases z)
end
end Fs

set_option Elab.async false
set_option linter.all false
set_option maxRecDepth 100000
set_option maxHeartbeats 8000000
namespace Fs
open PySem L2

def Rt (pa : PA) (H0 G H : Hp) (v : V) (d : D) (fr : Bool) : Prop :=
  if fr = true then ∃ a xs es, v = .ref a ∧ d = .list es ∧ H a = some (.lst xs) ∧ Rps pa G xs es ∧ G a = none ∧ H0 a = none ∧ ¬ pen1 pa a else Rp pa G v d
def SPost (pa : PA) (H0 G0 G : Hp) (fl : Fl) (s1 : S) (Ds : Ends) : Prop :=
  match fl with
  | .nx => ∀ σ1 H1 G1, Sub G G1 → Sim pa H0 G0 G1 σ1 H1 s1 → Ds.nx σ1 H1
  | .brk => ∀ σ1 H1 G1, Sub G G1 → Sim pa H0 G0 G1 σ1 H1 s1 → Ds.bk σ1 H1
  | .cont => ∀ σ1 H1 G1, Sub G G1 → Sim pa H0 G0 G1 σ1 H1 s1 → Ds.ct σ1 H1
  | .ret d fr => ∀ v σ1 H1 G1, Sub G G1 → Sim pa H0 G0 G1 σ1 H1 s1 → Rt pa H0 G1 H1 v d fr → Ds.rt v H1
theorem SPost.up {pa : PA} {H0 G0 G G2 : Hp} {fl : Fl} {s1 : S} {Ds : Ends} (k : Sub G G2) (h : SPost pa H0 G0 G fl s1 Ds) : SPost pa H0 G0 G2 fl s1 Ds := by
  cases fl with
  | nx => exact fun σ1 H1 G1 u => h σ1 H1 G1 (k.trans u)
  | brk => exact fun σ1 H1 G1 u => h σ1 H1 G1 (k.trans u)
  | cont => exact fun σ1 H1 G1 u => h σ1 H1 G1 (k.trans u)
  | ret d fr => exact fun v σ1 H1 G1 u => h v σ1 H1 G1 (k.trans u)
abbrev Sv := S → Option (Fl × S)
def tF (f : Sv) : TS := fun Ds σ H => ∃ pa H0 G0 G s fl s1, Sim pa H0 G0 G σ H s ∧ f s = some (fl, s1) ∧ SPost pa H0 G0 G fl s1 Ds
theorem PS.imp {X : Cx} {st : Stmt} {t t' : TS} (h : PS X st t) (k : ∀ Ds σ H, t' Ds σ H → t Ds σ H) : PS X st t' := ⟨fun pins s σ H Ds I q => h.run pins s σ H Ds I (k Ds σ H q)⟩
theorem PSs.imp {X : Cx} {st : List Stmt} {t t' : TS} (h : PSs X st t) (k : ∀ Ds σ H, t' Ds σ H → t Ds σ H) : PSs X st t' := ⟨fun pins s σ H Ds I q => h.run pins s σ H Ds I (k Ds σ H q)⟩

section
variable {Ds : Ends} {σ : L2.St} {H : Hp}
theorem skey_cons {a : IS} {b : ISs} (h : tF (evalSs (.cons a b)) Ds σ H) : tSeq (tF (evalS a)) (tF (evalSs b)) Ds σ H := by
  obtain ⟨pa, H0, G0, G, s, fl, s2, S0, e, post⟩ := h
  rw [evalSs] at e
  obtain ⟨⟨f, s1⟩, e1, e⟩ := obind e
  dsimp only at e
  refine ⟨pa, H0, G0, G, s, f, s1, S0, e1, ?_⟩
  cases f with
  | nx => exact fun σ1 H1 G1 u S1 => ⟨pa, H0, G0, G1, s1, fl, s2, S1, e, post.up u⟩
  | brk => cases e; exact post
  | cont => cases e; exact post
  | ret d fr => cases e; exact post
theorem skey_nil (h : tF (evalSs .nil) Ds σ H) : tNext Ds σ H := by
  obtain ⟨pa, H0, G0, G, s, fl, s2, S0, e, post⟩ := h
  rw [evalSs] at e; cases e
  exact post σ H G .refl S0
theorem skey_set {i : Nat} {e : IE} (h : tF (evalS (.set i e)) Ds σ H) : tAsg (tI e) (gName i) Ds σ H := by
  obtain ⟨pa, H0, G0, G, s, fl, s2, S0, ev, post⟩ := h
  rw [evalS] at ev
  obtain ⟨⟨⟨d, t⟩, s1⟩, e1, ev⟩ := obind ev
  dsimp only at ev
  split at ev
  case isFalse => cases ev
  rename_i hi
  cases ev
  refine tV_of S0 e1 fun v H1 G1 S1 E1 R1 N1 => ?_
  obtain ⟨G', k, S'⟩ := S1.store R1 hi
  exact post _ H1 G' (E1.gk.trans k) S'
theorem skey_lc {i : Nat} {elt : IE} {tg : Tr} {src : Sr} {ifs : IEs} (K : PySem.W.Frag) (hb : src.pairs = true → tg.isT = true) (h : tF (evalS (.setLc i elt tg src ifs)) Ds σ H) : tAsg (tLc (tSr src) (tTr K tg) (tTs ifs) (tI elt) tg.slots) (gName i) Ds σ H := by
  obtain ⟨pa, H0, G0, G, s, fl, s2, S0, ev, post⟩ := h
  rw [evalS] at ev
  obtain ⟨⟨⟨items, t0⟩, s1⟩, e1, ev⟩ := obind ev
  obtain ⟨⟨ds, s3⟩, e2, ev⟩ := obind ev
  dsimp only at ev
  split at ev
  case isFalse => cases ev
  rename_i hi
  cases ev
  refine lc_ok K elt tg src ifs hb (tV_of (d := .list ds) (t := .fresh) (s1 := s3) S0 ?_ fun v H1 G1 S1 E1 R1 N1 => ?_)
  · rw [evalE, e1]
    show (lcRun (evalAll ifs) (evalE elt) tg items s1 >>= _) = _
    rw [e2]; rfl
  · obtain ⟨a, xs, es, rfl, e, ha, ra, g, h0, n, o⟩ := R1
    cases e
    exact post _ _ _ E1.gk (S1.putOwn hi ha ra g h0 n fun j e _ q z => o ⟨j, e, q, z⟩)
theorem RT.tupl {pa : PA} {H0 G0 G H : Hp} {σ : L2.St} {s : S} {v : V} {ds : List D} {t : Tg} (S1 : Sim pa H0 G0 G σ H s) (r : RT pa H0 G σ H s v (.tuple ds) t) : Rp pa G v (.tuple ds) := r.top S1
theorem skey_setT {is : List Nat} {e : IE} (K : PySem.W.Frag) (h : tF (evalS (.setT is e)) Ds σ H) : tAsg (tI e) (tTr K (.t is)) Ds σ H := by
  obtain ⟨pa, H0, G0, G, s, fl, s2, S0, ev, post⟩ := h
  rw [evalS] at ev
  obtain ⟨⟨⟨d, t⟩, s1⟩, e1, ev⟩ := obind ev
  obtain ⟨s3, e2, ev⟩ := obind ev
  cases ev
  refine tV_of S0 e1 fun v H1 G1 S1 E1 R1 N1 => ?_
  cases d with
  | tuple ds => exact bind_ok K S1 (R1.tupl S1) e2 fun σ2 S2 _ _ _ _ => post σ2 H1 G1 E1.gk S2
  | _ => simp only [S.bindT] at e2; cases e2
/-- both roads of a, b = .. -/
theorem skey_two {is : List Nat} {es : IEs} (h : tF (evalS (.set2 is es)) Ds σ H) : tAs es σ H fun vs H1 => is.length = vs.length ∧ (∀ T, H1 T = none → Ds.nx (setsV σ is vs) (upd H1 T (.tup vs))) ∧ Ds.nx (setsV σ is vs) H1 := by
  obtain ⟨pa, H0, G0, G, s, fl, s2, S0, ev, post⟩ := h
  rw [evalS] at ev
  obtain ⟨⟨xs, s1⟩, e1, ev⟩ := obind ev
  dsimp only at ev
  split at ev
  case isFalse => cases ev
  rename_i hi
  cases ev
  refine ⟨pa, H0, G0, G, s, xs, s1, S0, e1, fun vs H1 G1 S1 E1 Rs => ?_⟩
  obtain ⟨G', k, S'⟩ := store_all S1 Rs hi.1 hi.2
  exact ⟨by rw [Rs.len]; exact hi.1, fun T hT => post _ _ G' (E1.gk.trans k) (S'.grow (.upd hT)), post _ _ G' (E1.gk.trans k) S'⟩
theorem rd_at {s : S} {i : Nat} {p : D × Bool} (h : rd s i = some p) : s.sl[i]? = some (some p) := by
  unfold rd at h
  obtain ⟨o, h1, h2⟩ := Option.bind_eq_some_iff.mp h
  have h2 : o = some p := h2
  rw [h1, h2]
theorem Sim.val {pa : PA} {H0 G0 G H : Hp} {σ : L2.St} {s : S} (S0 : Sim pa H0 G0 G σ H s) {i : Nat} {p : D × Bool} (h : rd s i = some p) : ∃ v, σ[i]? = some (some v) ∧ RpT pa G H v p.1 := by
  obtain ⟨d, f⟩ := p
  have h := rd_at h
  cases f with
  | true =>
    obtain ⟨a, xs, ds, e1, rfl, e3, e4, _⟩ := S0.ow i d h
    exact ⟨_, e1, a, xs, rfl, e3, e4⟩
  | false =>
    obtain ⟨v, e1, r⟩ := S0.fz i d h
    exact ⟨v, e1, .of S0.sub r⟩
theorem skey_aug {op : Operator} {i : Nat} {e : IE} (h : tF (evalS (.aug op i e)) Ds σ H) :
    (op = .Add ∧ tAug i (tI e) (ipI fun i j => i + j) Ds σ H) ∨ (op = .Sub ∧ tAug i (tI e) (ipI fun i j => i - j) Ds σ H) := by
  obtain ⟨pa, H0, G0, G, s, fl, s2, S0, ev, post⟩ := h
  rw [evalS] at ev
  obtain ⟨⟨d0, f0⟩, e0, ev⟩ := obind ev
  obtain ⟨⟨⟨d, t⟩, s1⟩, e1, ev⟩ := obind ev
  dsimp only at ev
  obtain ⟨x, hx, rx⟩ := S0.val e0
  split at ev
  · split at ev
    · rename_i hi
      cases ev
      exact .inl ⟨rfl, x, hx, tV_of S0 e1 fun v H1 G1 S1 E1 R1 N1 => ⟨_, _, rx.int, (R1.top S1).int, post _ H1 G1 E1.gk (S1.put hi (.int _))⟩⟩
    · cases ev
  · split at ev
    · rename_i hi
      cases ev
      exact .inr ⟨rfl, x, hx, tV_of S0 e1 fun v H1 G1 S1 E1 R1 N1 => ⟨_, _, rx.int, (R1.top S1).int, post _ H1 G1 E1.gk (S1.put hi (.int _))⟩⟩
    · cases ev
  · cases ev
theorem own_at {pa : PA} {H0 G0 G H : Hp} {σ : L2.St} {s : S} (S0 : Sim pa H0 G0 G σ H s) {i : Nat} {d : D} (h : rd s i = some (d, true)) : ∃ a xs ds, σ[i]? = some (some (V.ref a)) ∧ d = .list ds ∧ H a = some (.lst xs) ∧ Rps pa G xs ds := by
  obtain ⟨a, xs, ds, e1, e2, e3, e4, _⟩ := S0.ow i d (rd_at h)
  exact ⟨a, xs, ds, e1, e2, e3, e4⟩
theorem skey_app {i : Nat} {e : IE} (K : PySem.W.Frag) (h : tF (evalS (.app i e)) Ds σ H) : tDrop (tBM K "list" rAppend (tVar i) (tCons (tI e) tNil)) Ds σ H := by
  obtain ⟨pa, H0, G0, G, s, fl, s2, S0, ev, post⟩ := h
  rw [evalS] at ev
  obtain ⟨⟨d0, f0⟩, e0, ev⟩ := obind ev
  obtain ⟨⟨⟨d, t⟩, s1⟩, e1, ev⟩ := obind ev
  dsimp only at ev
  have key : ∃ xs, f0 = true ∧ rd (s1.keep t) i = some (.list xs, true) ∧ (if xs.length < sizeLine then some (Fl.nx, (s1.keep t).put i (.list (xs ++ [d]), true)) else none) = some (fl, s2) := by
    split at ev
    · exact ⟨_, by first | rfl | assumption, by assumption, ev⟩
    · cases ev
  obtain ⟨xs, hf, hr, ev9⟩ := key
  clear ev
  subst hf
  · by_cases hl : xs.length < sizeLine
    · rw [if_pos hl] at ev9
      cases ev9
      obtain ⟨a, ys, ds, ea, rfl, ha, ra⟩ := own_at S0 e0
      refine ⟨.ref a, ea, .inl ⟨rfl, ys, .of ha⟩, tV_of S0 e1 fun v H1 G1 S1 E1 R1 N1 => ?_⟩
      obtain ⟨G', S', E', k, _, rp⟩ := R1.keep S1 E1 N1
      obtain ⟨b, zs, es, eb, ez, hb, rb⟩ := own_at S' hr
      rw [ea] at eb; cases eb
      cases ez
      exact ⟨a, zs, v, rfl, rfl, hb, by rw [rb.len]; exact hl, post _ _ G' E'.gk (S'.ownUpd (rd_at hr) ea (rb.app (.cons rp .nil)))⟩
    · rw [if_neg hl] at ev9; cases ev9
def rInsert : V → List V → Hp → VK → Prop := fun x vs H Q => ∃ (l : Addr) (xs : List V) (i : Int) (y : V), x = .ref l ∧ vs = [.int i, y] ∧ H l = some (.lst xs) ∧ xs.length < sizeLine ∧ 0 ≤ i ∧ i < 2 ^ 63 ∧
    Q .non (upd H l (.lst (xs.take i.toNat ++ [y] ++ xs.drop i.toNat)))
theorem skey_ins {i : Nat} {k e : IE} (K : PySem.W.Frag) (h : tF (evalS (.ins i k e)) Ds σ H) : tDrop (tBM K "list" rInsert (tVar i) (tCons (tI k) (tCons (tI e) tNil))) Ds σ H := by
  obtain ⟨pa, H0, G0, G, s, fl, s2, S0, ev, post⟩ := h
  rw [evalS] at ev
  obtain ⟨⟨d0, f0⟩, e0, ev⟩ := obind ev
  obtain ⟨⟨⟨kd, tk⟩, s0⟩, ek, ev⟩ := obind ev
  obtain ⟨⟨⟨d, t⟩, s1⟩, e1, ev⟩ := obind ev
  dsimp only at ev
  have key : ∃ xs n, f0 = true ∧ rd (s1.keep t) i = some (.list xs, true) ∧ kd = .int n ∧ (if xs.length < sizeLine ∧ 0 ≤ n ∧ n < 2 ^ 63 then some (Fl.nx, (s1.keep t).put i (.list (xs.take n.toNat ++ [d] ++ xs.drop n.toNat), true)) else none) = some (fl, s2) := by
    split at ev
    · exact ⟨_, _, by first | rfl | assumption, by assumption, by first | rfl | assumption, ev⟩
    · cases ev
  obtain ⟨xs, n, hf, hr, hk, ev9⟩ := key
  clear ev
  subst hf hk
  by_cases hl : xs.length < sizeLine ∧ 0 ≤ n ∧ n < 2 ^ 63
  · rw [if_pos hl] at ev9
    cases ev9
    obtain ⟨a, ys, ds, ea, rfl, ha, ra⟩ := own_at S0 e0
    refine ⟨.ref a, ea, .inl ⟨rfl, ys, .of ha⟩, tV_of S0 ek fun w Ha Ga Sa Ea Ra Na => ?_⟩
    refine tV_of Sa e1 fun v H1 G1 S1 E1 R1 N1 => ?_
    obtain ⟨G', S', E', k, _, rp⟩ := R1.keep S1 E1 N1
    obtain ⟨b, zs, es, eb, ez, hb, rb⟩ := own_at S' hr
    rw [ea] at eb; cases eb
    cases ez
    exact ⟨a, zs, n, v, rfl, by rw [(Ra.top Sa).int], hb, by rw [rb.len]; exact hl.1, hl.2.1, hl.2.2, post _ _ G' (Ea.gk.trans E'.gk) (S'.ownUpd (rd_at hr) ea (((rb.take n.toNat).app (.cons rp .nil)).app (rb.drop n.toNat)))⟩
  · rw [if_neg hl] at ev9; cases ev9
theorem Rps.era {pa : PA} {G : Hp} : ∀ {vs : List V} {ds : List D} (n : Nat), Rps pa G vs ds → Rps pa G (vs.eraseIdx n) (ds.eraseIdx n)
  | _, _, _, .nil => .nil
  | _, _, 0, .cons _ t => t
  | _, _, n + 1, .cons r t => .cons r (Rps.era n t)
theorem skey_pop {j i : Nat} {k : IE} (K : PySem.W.Frag) (h : tF (evalS (.pop j i k)) Ds σ H) : tAsg (tBM K "list" rPopAt (tVar i) (tCons (tI k) tNil)) (gName j) Ds σ H := by
  obtain ⟨pa, H0, G0, G, s, fl, s2, S0, ev, post⟩ := h
  rw [evalS] at ev
  obtain ⟨⟨d0, f0⟩, e0, ev⟩ := obind ev
  obtain ⟨⟨⟨kd, tk⟩, s1⟩, ek, ev⟩ := obind ev
  dsimp only at ev
  have key : ∃ xs n, f0 = true ∧ rd s1 i = some (.list xs, true) ∧ kd = .int n ∧ ((ixN xs.length n).bind fun m => (xs[m]?).bind fun d => if j < s1.sl.length ∧ xs.length < 1000 then some (Fl.nx, (s1.put i (.list (xs.eraseIdx m), true)).put j (d, false)) else none) = some (fl, s2) := by
    split at ev
    · exact ⟨_, _, by first | rfl | assumption, by assumption, by first | rfl | assumption, ev⟩
    · cases ev
  obtain ⟨xs, n, hf, hr, hk, ev9⟩ := key
  clear ev
  subst hf hk
  obtain ⟨m, em, ev9⟩ := Option.bind_eq_some_iff.mp ev9
  obtain ⟨d, ed, ev9⟩ := Option.bind_eq_some_iff.mp ev9
  by_cases hl : j < s1.sl.length ∧ xs.length < 1000
  · rw [if_pos hl] at ev9
    cases ev9
    obtain ⟨a, ys, ds, ea, rfl, ha, ra⟩ := own_at S0 e0
    refine ⟨.ref a, ea, .inl ⟨rfl, ys, .of ha⟩, tV_of S0 ek fun w Ha Ga Sa Ea Ra Na => ?_⟩
    obtain ⟨b, zs, es, eb, ez, hb, rb⟩ := own_at Sa hr
    rw [ea] at eb; cases eb
    cases ez
    obtain ⟨y, hy, ry⟩ := rb.get ed
    obtain ⟨hseq, h1, h2, h3⟩ := ixN_seq em
    refine ⟨a, zs, n, m, y, rfl, by rw [(Ra.top Sa).int], hb, by omega, by omega, by rw [rb.len]; exact hseq, hy, post _ _ Ga Ea.gk ?_⟩
    exact (Sa.ownUpd (rd_at hr) ea (rb.era m)).put (by rw [put_len]; exact hl.1) ry
  · rw [if_neg hl] at ev9; cases ev9
theorem skey_ext {i : Nat} {e : IE} (K : PySem.W.Frag) (h : tF (evalS (.ext i e)) Ds σ H) : tDrop (tBM K "list" rExtend (tVar i) (tCons (tI e) tNil)) Ds σ H := by
  obtain ⟨pa, H0, G0, G, s, fl, s2, S0, ev, post⟩ := h
  rw [evalS] at ev
  obtain ⟨⟨d0, f0⟩, e0, ev⟩ := obind ev
  obtain ⟨⟨⟨d, t⟩, s1⟩, e1, ev⟩ := obind ev
  dsimp only at ev
  have key : ∃ xs ys, f0 = true ∧ rd (s1.keep t) i = some (.list xs, true) ∧ d = .list ys ∧ (if xs.length + ys.length ≤ sizeLine then some (Fl.nx, (s1.keep t).put i (.list (xs ++ ys), true)) else none) = some (fl, s2) := by
    split at ev
    · exact ⟨_, _, by first | rfl | assumption, by assumption, by first | rfl | assumption, ev⟩
    · cases ev
  obtain ⟨xs, ys, hf, hr, hd, ev9⟩ := key
  clear ev
  subst hf hd
  · by_cases hl : xs.length + ys.length ≤ sizeLine
    · rw [if_pos hl] at ev9
      cases ev9
      obtain ⟨a, ws, ds, ea, rfl, ha, ra⟩ := own_at S0 e0
      refine ⟨.ref a, ea, .inl ⟨rfl, ws, .of ha⟩, tV_of S0 e1 fun v H1 G1 S1 E1 R1 N1 => ?_⟩
      obtain ⟨G', S', E', k, _, rp⟩ := R1.keep S1 E1 N1
      obtain ⟨b, zs, es, eb, ez, hb, rb⟩ := own_at S' hr
      rw [ea] at eb; cases eb
      cases ez
      cases rp with
      | lst hc rc =>
        exact ⟨a, _, zs, _, rfl, rfl, hb, S'.sub _ _ hc, by rw [rb.len, rc.len]; exact hl, post _ _ G' E'.gk (S'.ownUpd (rd_at hr) ea (rb.app rc))⟩
    · rw [if_neg hl] at ev9; cases ev9
theorem skey_rev {i : Nat} (K : PySem.W.Frag) (h : tF (evalS (.rev i)) Ds σ H) : tDrop (tBM0 K "list" rReverse (tVar i)) Ds σ H := by
  obtain ⟨pa, H0, G0, G, s, fl, s2, S0, ev, post⟩ := h
  rw [evalS] at ev
  split at ev
  · rename_i xs hr
    cases ev
    obtain ⟨a, ys, ds, ea, ez, ha, ra⟩ := own_at S0 hr
    cases ez
    exact ⟨.ref a, ea, .inl ⟨rfl, ys, .of ha⟩, a, ys, rfl, rfl, ha, post _ _ G .refl (S0.ownUpd (rd_at hr) ea ra.rev)⟩
  · cases ev
theorem ixN_len {n m : Nat} {k : Int} {j : Nat} (e : n = m) (h : ixN n k = some j) : ixN m k = some j := e ▸ h
theorem skey_setIx {i : Nat} {k e : IE} (h : tF (evalS (.setIx i k e)) Ds σ H) : tAsg (tI e) (gSub (tVar i) (tI k) rSetL) Ds σ H := by
  obtain ⟨pa, H0, G0, G, s, fl, s2, S0, ev, post⟩ := h
  rw [evalS] at ev
  obtain ⟨⟨d0, f0⟩, e0, ev⟩ := obind ev
  obtain ⟨⟨⟨d, t⟩, s1⟩, e1, ev⟩ := obind ev
  obtain ⟨⟨⟨kd, t2⟩, s3⟩, e2, ev⟩ := obind ev
  dsimp only at ev
  obtain ⟨x, hx, _⟩ := S0.val e0
  split at ev
  · rename_i xs n hr
    obtain ⟨j, hj, ev⟩ := Option.map_eq_some_iff.mp ev
    cases ev
    refine tV_of S0 e1 fun v H1 G1 S1 E1 R1 N1 => ⟨x, hx, ?_⟩
    obtain ⟨G', S', E', k1, _, rp⟩ := R1.keep S1 E1 N1
    refine tV_of S' e2 fun w H2 G2 S2 E2 R2 N2 => ?_
    obtain ⟨a, zs, es, ea, ez, ha, ra⟩ := own_at S2 hr
    rw [hx] at ea; cases ea
    cases ez
    exact ⟨a, zs, n, j, rfl, (R2.top S2).int, ha, ixN_len ra.len.symm hj, post _ _ G2 (E'.gk.trans E2.gk) (S2.ownUpd (rd_at hr) hx ((rp.mono E2.gk) |> fun r => ra.set r j))⟩
  · cases ev
theorem Sim.penUpd {pa : PA} {H0 G0 G : Hp} {s : S} (S0 : Sim pa H0 G0 G σ H s) {a c : Addr} {T : List NdefX.NTab} {q : Pn} (hpa : pa = some (a, c, T)) (hp : s.pn = some q) {m r : Int} : Sim pa H0 G0 G σ (upd H a (.lst [.ref c, .int m, .int r])) { s with pn := some ⟨q.cells, m, r⟩ } := by
  have p := S0.pen
  rw [hp] at p
  subst hpa
  refine ⟨S0.len, fun b u h => ?_, S0.base, S0.new, fun b u h n => ?_, ⟨p.1, upd_same, p.2.2.1, p.2.2.2.1, tabs_upd p.2.2.2.2.1 (fun f z => by rw [p.2.1] at z; cases z) (fun ⟨t, ht, e⟩ => (p.2.2.2.2.2 t ht).2 e), p.2.2.2.2.2⟩, S0.fz, fun i d h => ?_, S0.dis⟩
  · rw [upd_ne]
    · exact S0.sub b u h
    · rintro rfl; rw [p.2.2.2.1] at h; cases h
  · rw [upd_ne]
    · exact S0.kee b u h n
    · rintro rfl; exact n pen1_pen
  · obtain ⟨b, xs, ds, e1, e2, e3, e4, e5, e6, e7⟩ := S0.ow i d h
    refine ⟨b, xs, ds, e1, e2, ?_, e4, e5, e6, e7⟩
    rw [upd_ne]
    · exact e3
    · rintro rfl; exact e7 pen1_pen
theorem isPen_ext {pa : PA} {G G1 H1 : Hp} {s s1 : S} (E : Ext pa G G1 H H1 σ s s1) {i : Nat} (h : isPen (rd s i) = true) : isPen (rd s1 i) = true := by
  obtain ⟨f, e, k⟩ := E.sl i _ _ (isPen_at h)
  have : f = false := by
    cases f with
    | false => rfl
    | true => exact absurd (k rfl) (by decide)
  subst this
  have : rd s1 i = some (.dict [], false) := by unfold rd; rw [e]; rfl
  rw [this]; rfl
theorem skey_pset {i j : Nat} {e : IE} (h : tF (evalS (.pset i j e)) Ds σ H) : tAsg (tI e) (gSub (tVar i) (tC (.int (j : Nat))) rSetL) Ds σ H := by
  obtain ⟨pa, H0, G0, G, s, fl, s2, S0, ev, post⟩ := h
  rw [evalS] at ev
  obtain ⟨⟨⟨d, t⟩, s1⟩, e1, ev⟩ := obind ev
  dsimp only at ev
  have key : ∃ n, isPen (rd s i) = true ∧ d = .int n ∧ ((s1.pn.bind (penSet j n)).map fun q => (Fl.nx, { s1 with pn := some q })) = some (fl, s2) := by
    split at ev
    · exact ⟨_, by assumption, by first | rfl | assumption, ev⟩
    · cases ev
  obtain ⟨n, hi, hd, ev9⟩ := key
  clear ev
  subst hd
  obtain ⟨q2, e2, e3⟩ := Option.map_eq_some_iff.mp ev9
  cases e3
  obtain ⟨q, hq, e9⟩ := Option.bind_eq_some_iff.mp e2
  clear e2 ev9
  refine tV_of S0 e1 fun v H1 G1 S1 E1 R1 N1 => ?_
  obtain ⟨a, c, _, hpa, hσ, ha, hc, _⟩ := pen_val S1 (isPen_ext E1 hi) hq
  have hv : v = .int n := (R1.top S1).int
  subst hv
  refine ⟨_, hσ, a, [.ref c, .int q.a, .int q.r], ((j : Nat) : Int), j, rfl, rfl, ha, ?_⟩
  unfold penSet at e9
  split at e9
  · rename_i hj
    subst hj
    cases e9
    exact ⟨rfl, post _ _ G1 E1.gk (S1.penUpd hpa hq)⟩
  · split at e9
    · rename_i hj
      subst hj
      cases e9
      exact ⟨rfl, post _ _ G1 E1.gk (S1.penUpd hpa hq)⟩
    · cases e9
theorem skey_expr {e : IE} (h : tF (evalS (.expr e)) Ds σ H) : tDrop (tI e) Ds σ H := by
  obtain ⟨pa, H0, G0, G, s, fl, s2, S0, ev, post⟩ := h
  rw [evalS] at ev
  obtain ⟨⟨⟨d, t⟩, s1⟩, e1, ev⟩ := obind ev
  cases ev
  exact tV_of S0 e1 fun v H1 G1 S1 E1 R1 N1 => post σ H1 G1 E1.gk S1
theorem skey_ite {c : IE} {a b : ISs} (h : tF (evalS (.ite c a b)) Ds σ H) : tIfS (tQ fun s => boolD (evalE c s)) (tF (evalSs a)) (tF (evalSs b)) Ds σ H := by
  obtain ⟨pa, H0, G0, G, s, fl, s2, S0, ev, post⟩ := h
  rw [evalS] at ev
  obtain ⟨⟨k, s1⟩, e1, ev⟩ := obind ev
  dsimp only at ev
  refine tQ_of S0 e1 fun H1 G1 S1 E1 => ?_
  cases k with
  | true =>
    rw [if_pos rfl] at ev ⊢
    exact ⟨pa, H0, G0, G1, s1, fl, s2, S1, ev, post.up E1.gk⟩
  | false =>
    rw [if_neg (by decide)] at ev ⊢
    exact ⟨pa, H0, G0, G1, s1, fl, s2, S1, ev, post.up E1.gk⟩
theorem skey_ret {e : IE} (h : tF (evalS (.ret e)) Ds σ H) : tRet (tI e) Ds σ H := by
  obtain ⟨pa, H0, G0, G, s, fl, s2, S0, ev, post⟩ := h
  rw [evalS] at ev
  obtain ⟨⟨⟨d, t⟩, s1⟩, e1, ev⟩ := obind ev
  cases ev
  refine tV_of S0 e1 fun v H1 G1 S1 E1 R1 N1 => post v σ H1 G1 E1.gk S1 ?_
  cases t with
  | fz => exact R1
  | fresh =>
    obtain ⟨a, xs, es, e1, e2, e3, e4, e5, e6, e7, _⟩ := R1
    exact ⟨a, xs, es, e1, e2, e3, e4, e5, e6, e7⟩
  | slot i =>
    obtain ⟨f, h1, h2⟩ := R1
    have hr : rd s2 i = some (d, f) := by unfold rd; rw [h1]; rfl
    dsimp only
    rw [hr]
    cases f with
    | true =>
      obtain ⟨a, xs, es, e1, e2, e3, e4, e5, e6, e7⟩ := S1.ow i d h1
      rw [h2] at e1; cases e1
      exact ⟨a, xs, es, rfl, e2, e3, e4, e5, e6, e7⟩
    | false =>
      obtain ⟨w, e1, r⟩ := S1.fz i d h1
      rw [h2] at e1; cases e1
      exact r
theorem skey_while {n : Nat} {c : IE} {body : ISs} (h : tF (evalS (.while n c body)) Ds σ H) : tWhile (tQ fun s => boolD (evalE c s)) (tF (evalSs body)) Ds σ H := by
  obtain ⟨pa, H0, G0, G, s, fl, sE, S0, ev, post⟩ := h
  rw [evalS] at ev
  refine ⟨fun m σ' H' => ∃ G' s', Sub G G' ∧ Sim pa H0 G0 G' σ' H' s' ∧ wGo (fun s => boolD (evalE c s)) (evalSs body) m s' = some (fl, sE), ⟨n, G, s, .refl, S0, ev⟩, ?_⟩
  rintro m σ' H' ⟨G', s', u, S', e⟩
  cases m with
  | zero => rw [wGo] at e; cases e
  | succ m =>
    rw [wGo] at e
    obtain ⟨⟨b, s1⟩, e1, e⟩ := obind e
    dsimp only at e
    refine tQ_of S' e1 fun H1 G1 S1 E1 => ?_
    have u1 := u.trans E1.gk
    cases b with
    | false =>
      rw [if_neg (by decide)] at e ⊢
      cases e
      exact post σ' H1 G1 u1 S1
    | true =>
      rw [if_pos rfl] at e ⊢
      obtain ⟨⟨f, s2⟩, e2, e⟩ := obind e
      dsimp only at e
      refine ⟨fun σ2 H2 => ∃ G2 s2, Sub G G2 ∧ Sim pa H0 G0 G2 σ2 H2 s2 ∧ wGo (fun s => boolD (evalE c s)) (evalSs body) m s2 = some (fl, sE), fun σ2 H2 q => ⟨m, Nat.lt_succ_self m, q⟩, pa, H0, G0, G1, s1, f, s2, S1, e2, ?_⟩
      cases f with
      | nx => exact fun σ2 H2 G2 k S2 => ⟨G2, s2, u1.trans k, S2, e⟩
      | cont => exact fun σ2 H2 G2 k S2 => ⟨G2, s2, u1.trans k, S2, e⟩
      | brk => cases e; exact fun σ2 H2 G2 k S2 => post σ2 H2 G2 (u1.trans k) S2
      | ret d fr => cases e; exact fun v σ2 H2 G2 k S2 r => post v σ2 H2 G2 (u1.trans k) S2 r
theorem skey_for (K : PySem.W.Frag) {tg : Tr} {src : Sr} {body : ISs} (hb : src.pairs = true → tg.isT = true) (h : tF (evalS (.for tg src body)) Ds σ H) : tFor (tSr src) (tTr K tg) (tF (evalSs body)) Ds σ H := by
  obtain ⟨pa, H0, G0, G, s, fl, sE, S0, ev, post⟩ := h
  rw [evalS] at ev
  obtain ⟨⟨⟨items, t⟩, s1⟩, e1, ev⟩ := obind ev
  dsimp only at ev
  refine ⟨pa, H0, G0, G, s, items, t, s1, S0, e1, fun J H1 G1 v d S1 E1 R1 N1 ok => ?_⟩
  obtain ⟨G', S', E', k1, _, rp⟩ := R1.keep S1 E1 N1
  obtain ⟨Gd, Y, w, hg, hy⟩ := ok.2 G' k1 rp
  refine for_it w (fun i σ' H' => ∃ G2 s2, Sub G' G2 ∧ Sim pa H0 G0 G2 σ' H' s2 ∧ fGo tg (evalSs body) (items.drop i) s2 = some (fl, sE)) ⟨G', s1.keep t, .refl, S', ev⟩ ?_ ?_ ?_
  · rintro i σ' H' _ ⟨G2, s2, u, S2, _⟩
    exact hg H' (u.trans S2.sub)
  · rintro i x σ' H' H'' hi ⟨G2, s2, u, S2, e⟩ y
    obtain ⟨d2, hd, res⟩ := hy i H' x H'' hi (hg H' (u.trans S2.sub)) y
    have edrop : items.drop i = d2 :: items.drop (i + 1) := by
      obtain ⟨hlt, e⟩ := List.getElem?_eq_some_iff.mp hd
      rw [List.drop_eq_getElem_cons hlt, e]
    rw [edrop, fGo] at e
    obtain ⟨sb, eb, e⟩ := obind e
    obtain ⟨⟨f, s3⟩, e2, e⟩ := obind e
    dsimp only at e
    refine item_ok K hb S2 (res.mono u) eb fun Gb σ3 Eb S3 _ _ _ _ => ⟨pa, H0, G0, Gb, sb, f, s3, S3, e2, ?_⟩
    have ub := u.trans Eb.gk
    have uG : ∀ {G2}, Sub Gb G2 → Sub G G2 := fun k => (E'.gk.trans ub).trans k
    cases f with
    | nx => exact fun σ4 H4 G4 k S4 => ⟨G4, s3, ub.trans k, S4, e⟩
    | cont => exact fun σ4 H4 G4 k S4 => ⟨G4, s3, ub.trans k, S4, e⟩
    | brk => cases e; exact fun σ4 H4 G4 k S4 => post σ4 H4 G4 (uG k) S4
    | ret d fr => cases e; exact fun v σ4 H4 G4 k S4 r => post v σ4 H4 G4 (uG k) S4 r
  · rintro σ' H' ⟨G2, s2, u, S2, e⟩
    rw [List.drop_length, fGo] at e
    cases e
    exact post σ' H' G2 (E'.gk.trans u) S2
end
end Fs

set_option Elab.async false
set_option linter.all false
set_option maxRecDepth 100000
set_option maxHeartbeats 8000000
namespace Fs
open PySem L2

def nolcX : Expr → Bool
  | .ListComp _ _ _ _ => false
  | .SetComp _ _ _ _ => false
  | .DictComp _ _ _ _ _ => false
  | _ => true
theorem em_nolc (N : List Str) {e : IE} (E : Em) (h : isLc e = false) : nolcX (emE N e E).1 = true := by
  cases e with
  | lc _ _ _ _ => cases h
  | blt f es => cases f <;> first | rfl | cases h
  | tab m _ _ _ => cases m <;> rfl
  | _ => rfl
theorem sw_nolc {e : Expr} {t : Option Expr} {l : Nat} {env : Env} (h : nolcX e = true) : swapsWith e t l env = pure false := by
  cases e <;> first | rfl | cases h
theorem sw_cell {e : Expr} {y : Str} {p : Pos} {l : Nat} {env : Env} (h : env.scope.names.lookup y = some .cell) : swapsWith e (some (.Name y p)) l env = pure false := by
  have k : env.kindOf y = some .cell := h
  have k2 : (env.kindOf y == some NameKind.local) = false := by rw [k]; rfl
  cases e <;> first | rfl | (unfold swapsWith; simp only [k2, Bool.and_false, Bool.false_and])
theorem sw_tup {e : Expr} {ts : List Expr} {n : Nat} {p : Pos} {l : Nat} {env : Env} : swapsWithSole [.Tuple ts n p] e l env = pure false := by
  cases e <;> rfl
theorem sw_sub {e o k : Expr} {p : Pos} {l : Nat} {env : Env} : swapsWithSole [.Subscript o k p] e l env = pure false := by
  cases e <;> rfl
def notupX : Expr → Bool
  | .Tuple _ _ _ => false
  | _ => true
theorem em_notup (N : List Str) {e : IE} (E : Em) (h : isTup e = false) : notupX (emE N e E).1 = true := by
  cases e with
  | tup _ => cases h
  | blt f es => cases f <;> first | rfl | cases h
  | tab m _ _ _ => cases m <;> rfl
  | _ => rfl
theorem ss_notup {e : Expr} {ts : List Expr} {n : Nat} {p : Pos} {env : Env} (h : notupX e = true) : swappedStores [.Tuple ts n p] e env = pure none := by
  cases e <;> first | rfl | cases h
theorem asg_sub {o k : Expr} {p : Pos} {env : Env} (h : plX k = true) : ∀ v, assign (.Subscript o k p) env v = (do
      let ov ← holding [v] (eval o env)
      let iv ← holding [v, ov] (eval k env)
      standAt p
      holding [v, ov, iv] (setItem ov iv v)
      release [v, ov, iv] []) := by
  cases k <;> first | (intro v; rfl) | cases h

structure Bd (X : Cx) : Prop where
  passes : PassesOwn (model X.prog X.w) X.A X.env X.xe
  fn : ∀ x, X.fn x = true
theorem bd0 {X : Cx} (xe : X.xe = fun _ _ => False) (fn : ∀ x, X.fn x = true) : Bd X := ⟨by rw [xe]; exact PassesOwn.never, fn⟩
theorem tg_of {X : Cx} {sc : Scope} {k : Nat} (C : Cd X X.N sc k) (B : Bd X) {is : List Nat} (h : tgB X.N sc is = true) : ∀ i ∈ is, X.N[i]? = some (nm X.N i) ∧ Loc X.env.scope (nm X.N i) ∧ (X.fn (nm X.N i) = true ∨ X.env.scope.names.lookup (nm X.N i) = some .local) := fun i hi => by
  obtain ⟨l1, l2⟩ := loc_of (List.all_eq_true.mp h i hi)
  exact ⟨l1, by rw [C.hs]; exact l2, .inl (B.fn _)⟩

section
variable {k : Nat}
theorem lc_pairs {N : List Str} {elt : IE} {tg : Tr} {src : Sr} {ifs : IEs} {sc : Scope} {E : Em} (ho : okE N sc (.lc elt tg src ifs) E = true) (hp : src.pairs = true) : tg.isT = true := by
  rw [okE] at ho
  have h := (and1 (and1 (and1 ho).2).1).1
  rw [hp] at h
  cases tg with
  | v i => cases h
  | t is => rfl
  | n i is => rfl
theorem lc_parts (elt : IE) (tg : Tr) (src : Sr) (ifs : IEs) {X : Cx} {sc : Scope} {E : Em} (C : Cd X X.N sc k) (ho : okE X.N sc (.lc elt tg src ifs) E = true) (ha : askE (askOf (wdOf X) k) (.lc elt tg src ifs)) :
    PI X (emTr X.N tg (emE X.N elt E.np.ns).2).1 (emSr X.N src (emTr X.N tg (emE X.N elt E.np.ns).2).2).1 (tSr src) ∧ BlkOk X.N X.env.scope E.s (ownOf X.N tg.slots) ∧
    (∀ (s : Shared) (H : Hp) (A : Addr) (cl : List (Str × Addr)) (fp : List Addr), PG (X.blk s H E.s (compEnvC E.s cl A X.env) fp) (emTr X.N tg (emE X.N elt E.np.ns).2).1 (tTr X.K tg)) ∧
    (∀ (s : Shared) (H : Hp) (A : Addr) (cl : List (Str × Addr)) (fp : List Addr), PTs (X.blk s H E.s (compEnvC E.s cl A X.env) fp) (emEs X.N ifs (emSr X.N src (emTr X.N tg (emE X.N elt E.np.ns).2).2).2).1 (tTs ifs)) ∧
    (∀ (s : Shared) (H : Hp) (A : Addr) (cl : List (Str × Addr)) (fp : List Addr), PE (X.blk s H E.s (compEnvC E.s cl A X.env) fp) (emE X.N elt E.np.ns).1 (tI elt)) := by
  rw [okE] at ho
  rw [askE] at ha
  obtain ⟨h1, ho⟩ := and1 ho
  obtain ⟨h2, ho⟩ := and1 ho
  obtain ⟨h2, h3⟩ := and1 h2
  obtain ⟨h4, h5⟩ := and1 ho
  obtain ⟨h6, h7⟩ := and1 h4
  obtain ⟨h8, h9⟩ := and1 h5
  obtain ⟨h10, h11⟩ := and1 h9
  refine ⟨sSr src C h8 ha.2.1 fun hp => ?_, by rw [C.hs]; exact blkOk_by h3, fun s H A cl fp => ?_, fun s H A cl fp => sTs ifs (C.blk E.s s H A cl fp) h10 ha.2.2 (of_decide_eq_true h11), fun s H A cl fp => (sE elt (C.blk E.s s H A cl fp) h1 ha.1).pe⟩
  · rw [hp] at h2
    cases tg with
    | v i => cases h2
    | t is => exact ⟨_, _, _, rfl⟩
    | n i is => exact ⟨_, _, _, rfl⟩
  · refine pg_tr (X := X.blk s H E.s (compEnvC E.s cl A X.env) fp) C.nd C.calm tg _ fun i hi => ?_
    obtain ⟨l1, l2⟩ := loc_of (List.all_eq_true.mp h6 i hi)
    refine ⟨l1, ?_, ?_⟩
    · rcases l2 with l2 | l2
      · exact .inl (lookup_relS_keep (by decide) l2)
      · exact .inr (lookup_relS_keep (by decide) l2)
    · rcases l2 with l2 | l2
      · exact .inr (lookup_relS_keep (by decide) l2)
      · refine .inl ?_
        show (E.s.names.lookup (nm X.N i) == some .cell) = true
        rw [l2]; rfl
theorem pl_of {N : List Str} {sc : Scope} {i : Nat} (h : plB N sc i = true) : sc.names.lookup (nm N i) = some .local := by
  unfold plB at h
  split at h
  · assumption
  · cases h
theorem cel_of {N : List Str} {sc : Scope} {i : Nat} (h : celB N sc i = true) : sc.names.lookup (nm N i) = some .cell := by
  unfold celB at h
  split at h
  · assumption
  · cases h
theorem kind_of {sc : Scope} (h : kindF sc = true) : sc.kind = .function := by
  unfold kindF at h
  split at h
  · assumption
  · cases h
theorem swC_len {sc : Scope} {ts vs : List Expr} {l : List Str} (h : swC sc ts vs = some (some l)) : vs.length = ts.length := by
  unfold swC at h
  split at h
  · cases h
  · rename_i z
    simp only [Bool.or_eq_true, not_or] at z
    simpa using z.2
theorem em_names_len (N : List Str) : ∀ (is : List Nat) (E : Em), (emNames N is E).1.length = is.length
  | [], _ => rfl
  | i :: is, E => by
    show ((Expr.Name (nm N i) E.p) :: (emNames N is E.np).1).length = _
    rw [List.length_cons, em_names_len N is, List.length_cons]

theorem s_par2 {i j : Nat} {a b : IE} {X : Cx} {sc : Scope} {E : Em} {p1 p2 pt pt2 pos : Pos} {n n2 : Nat} (C : Cd X X.N sc k) (B : Bd X) (h2 : tgB X.N sc [i, j] = true) (h7 : plB X.N sc i = true) (h8 : plB X.N sc j = true) (h9 : i ≠ j)
    (pas : L2.PA X (emEs X.N (.cons a (.cons b .nil)) E).1 (tAs (.cons a (.cons b .nil))))
    (hw : swappedStores [.Tuple [.Name (nm X.N i) p1, .Name (nm X.N j) p2] n pt] (.Tuple (emEs X.N (.cons a (.cons b .nil)) E).1 n2 pt2) X.env = pure (some [nm X.N i, nm X.N j])) :
    PS X (.Assign [.Tuple [.Name (nm X.N i) p1, .Name (nm X.N j) p2] n pt] (.Tuple (emEs X.N (.cons a (.cons b .nil)) E).1 n2 pt2) pos) (tF (evalS (.set2 [i, j] (.cons a (.cons b .nil))))) := by
  have ti := tg_of C B h2 i (by simp)
  have tj := tg_of C B h2 j (by simp)
  refine PS.imp (ps_par C.calm C.nd ti.1 tj.1 h9 (by rw [C.hs]; exact pl_of h7) (by rw [C.hs]; exact pl_of h8) pas hw sw_tup) fun Ds σ H q => ?_
  obtain ⟨pa, H0, G0, G, s, xs, s1, S0, e1, kk⟩ := skey_two q
  refine ⟨pa, H0, G0, G, s, xs, s1, S0, e1, fun vs H1 G1 S1 E1 Rs => ?_⟩
  obtain ⟨l, _, kq⟩ := kk vs H1 G1 S1 E1 Rs
  match vs, l, kq with
  | [v, w], _, kq => exact ⟨v, w, rfl, kq⟩
theorem s_par3 {i j l : Nat} {a b c : IE} {X : Cx} {sc : Scope} {E : Em} {p1 p2 p3 pt pt2 pos : Pos} {n n2 : Nat} (C : Cd X X.N sc k) (B : Bd X) (h2 : tgB X.N sc [i, j, l] = true) (h7 : plB X.N sc i = true) (h8 : plB X.N sc j = true) (h6 : plB X.N sc l = true) (h9 : i ≠ j) (h10 : i ≠ l) (h11 : j ≠ l)
    (pas : L2.PA X (emEs X.N (.cons a (.cons b (.cons c .nil))) E).1 (tAs (.cons a (.cons b (.cons c .nil)))))
    (hw : swappedStores [.Tuple [.Name (nm X.N i) p1, .Name (nm X.N j) p2, .Name (nm X.N l) p3] n pt] (.Tuple (emEs X.N (.cons a (.cons b (.cons c .nil))) E).1 n2 pt2) X.env = pure (some [nm X.N i, nm X.N j, nm X.N l])) :
    PS X (.Assign [.Tuple [.Name (nm X.N i) p1, .Name (nm X.N j) p2, .Name (nm X.N l) p3] n pt] (.Tuple (emEs X.N (.cons a (.cons b (.cons c .nil))) E).1 n2 pt2) pos) (tF (evalS (.set2 [i, j, l] (.cons a (.cons b (.cons c .nil)))))) := by
  have ti := tg_of C B h2 i (by simp)
  have tj := tg_of C B h2 j (by simp)
  have tl := tg_of C B h2 l (by simp)
  refine PS.imp (ps_par3 C.calm C.nd ti.1 tj.1 tl.1 h9 h10 h11 (by rw [C.hs]; exact pl_of h7) (by rw [C.hs]; exact pl_of h8) (by rw [C.hs]; exact pl_of h6) pas hw sw_tup) fun Ds σ H q => ?_
  obtain ⟨pa, H0, G0, G, s, xs, s1, S0, e1, kk⟩ := skey_two q
  refine ⟨pa, H0, G0, G, s, xs, s1, S0, e1, fun vs H1 G1 S1 E1 Rs => ?_⟩
  obtain ⟨l, _, kq⟩ := kk vs H1 G1 S1 E1 Rs
  match vs, l, kq with
  | [u, v, w], _, kq => exact ⟨u, v, w, rfl, kq⟩
theorem s_set2 (is : List Nat) (es : IEs) {X : Cx} {sc : Scope} {E : Em} (C : Cd X X.N sc k) (B : Bd X) (ho : okS X.N sc (.set2 is es) E = true) (ha : askEs (askOf (wdOf X) k) es) : PS X (emS X.N (.set2 is es) E).1 (tF (evalS (.set2 is es))) := by
  rw [okS] at ho
  obtain ⟨h1, ho⟩ := and1 ho
  obtain ⟨h2, ho⟩ := and1 ho
  obtain ⟨h3, ho⟩ := and1 ho
  obtain ⟨h4, h5⟩ := and1 ho
  have pas := sEs es C h1 ha
  cases hsw : swC sc (emNames X.N is E.np.np).1 (emEs X.N es (emTr X.N (.t is) E.np).2.np).1 with
  | none =>
    unfold swB at h5
    rw [hsw] at h5
    cases h5
  | some r =>
    have hw := fun a b p q => swC_ok (a := a) (b := b) (p := p) (q := q) C.hs h4 hsw
    cases r with
    | none =>
      refine PS.imp (ps_asg (pe_tup pas) (pg_tr C.nd C.calm (.t is) E.np (tg_of C B h2)) sw_tup (hw _ _ _ _)) fun Ds σ H q => ?_
      obtain ⟨pa, H0, G0, G, s, xs, s1, S0, e1, kk⟩ := skey_two q
      refine ⟨pa, H0, G0, G, s, xs, s1, S0, e1, fun vs H1 G1 S1 E1 Rs => ⟨?_, fun T hT => ?_⟩⟩
      · rw [Rs.len, ev_len es e1, ← em_len X.N es]; exact line1k (of_decide_eq_true h3)
      · obtain ⟨l, kq, _⟩ := kk vs H1 G1 S1 E1 Rs
        exact ⟨T, vs, rfl, .of upd_same, l.symm, gn_sets l (kq T hT)⟩
    | some l =>
      have hl := swC_len hsw
      rw [em_len, em_names_len] at hl
      unfold swB at h5
      rw [hsw] at h5
      dsimp only at h5
      clear hsw ho h1 h3 ha
      match is, es, hl, h5, pas, hw, h2 with
      | [i, j], .cons a (.cons b .nil), _, h5, pas, hw, h2 =>
        obtain ⟨h6, h5⟩ := and1 h5
        obtain ⟨h7, h5⟩ := and1 h5
        obtain ⟨h8, h9⟩ := and1 h5
        have e6 := of_decide_eq_true h6
        subst e6
        exact s_par2 C B h2 h7 h8 (of_decide_eq_true h9) pas (hw _ _ _ _)
      | [i, j, l2], .cons a (.cons b (.cons c .nil)), _, h5, pas, hw, h2 =>
        obtain ⟨h6, h5⟩ := and1 h5
        obtain ⟨h7, h5⟩ := and1 h5
        obtain ⟨h8, h5⟩ := and1 h5
        obtain ⟨h9, h5⟩ := and1 h5
        obtain ⟨h10, h5⟩ := and1 h5
        obtain ⟨h11, h12⟩ := and1 h5
        have e6 := of_decide_eq_true h6
        subst e6
        exact s_par3 C B h2 h7 h8 h9 (of_decide_eq_true h10) (of_decide_eq_true h11) (of_decide_eq_true h12) pas (hw _ _ _ _)
      | [], _, _, h5, _, _, _ => cases h5
      | [_], _, _, h5, _, _, _ => cases h5
      | _ :: _ :: _ :: _ :: _, _, _, h5, _, _, _ => cases h5
      | [_, _], .nil, hl, _, _, _, _ => simp [IEs.len] at hl
      | [_, _], .cons _ .nil, hl, _, _, _, _ => simp [IEs.len] at hl
      | [_, _], .cons _ (.cons _ (.cons _ _)), hl, _, _, _, _ => simp [IEs.len] at hl
      | [_, _, _], .nil, hl, _, _, _, _ => simp [IEs.len] at hl
      | [_, _, _], .cons _ .nil, hl, _, _, _, _ => simp [IEs.len] at hl
      | [_, _, _], .cons _ (.cons _ .nil), hl, _, _, _, _ => simp [IEs.len] at hl
      | [_, _, _], .cons _ (.cons _ (.cons _ (.cons _ _))), hl, _, _, _, _ => simp [IEs.len] at hl

theorem pv {X : Cx} {sc : Scope} (C : Cd X X.N sc k) {i : Nat} {p : Pos} (h : visB X.N sc i = true) : PE X (.Name (nm X.N i) p) (tVar i) := by
  obtain ⟨h1, h2, h3, h4⟩ := vis_of h
  exact pe_var h1 (by rw [C.hs]; exact h2) h3 h4
theorem few_one {e : Expr} {cpos : Pos} {env : Env} (h : plX e = true) : ((backTo cpos (starEach [e] env)).all (fun x => !x.1) && (backToKw cpos (keywordEach [] env)).all (fun x => x.1.isSome)
      && decide ([e].length + ([] : List Keyword).length + (if ([] : List Keyword).isEmpty then 0 else 1) < 30)) = true := by
  rw [star_pl h]; rfl
theorem mt_ins {X : Cx} : MtM X "list.insert" rInsert := mt_insert
theorem few_two {e e2 : Expr} {cpos : Pos} {env : Env} (h : plX e = true) (h2 : plX e2 = true) : ((backTo cpos (starEach [e, e2] env)).all (fun x => !x.1) && (backToKw cpos (keywordEach [] env)).all (fun x => x.1.isSome)
      && decide ([e, e2].length + ([] : List Keyword).length + (if ([] : List Keyword).isEmpty then 0 else 1) < 30)) = true := by
  rw [star_pl h, star_pl h2]; rfl
mutual
theorem sS : ∀ (st : IS) {X : Cx} {sc : Scope} {E : Em}, Cd X X.N sc k → Bd X → okS X.N sc st E = true → askS (askOf (wdOf X) k) st → PS X (emS X.N st E).1 (tF (evalS st))
  | .set i e, X, sc, E, C, B, ho, ha => by
    rw [okS] at ho
    rw [askS] at ha
    obtain ⟨h1, ho⟩ := and1 ho
    obtain ⟨h2, h3⟩ := and1 ho
    obtain ⟨l1, l2⟩ := loc_of h2
    refine PS.imp (ps_set C.nd l1 (by rw [C.hs]; exact l2) (sE e C h1 ha).pe ?_ (.inl (B.fn _))) fun Ds σ H q => skey_set q
    cases hz : isLc e with
    | false => exact sw_nolc (em_nolc X.N _ hz)
    | true =>
      rw [hz] at h3
      exact sw_cell (by rw [C.hs]; exact cel_of h3)
  | .setLc i elt tg src ifs, X, sc, E, C, B, ho, ha => by
    rw [okS] at ho
    rw [askS] at ha
    obtain ⟨h1, ho⟩ := and1 ho
    obtain ⟨h2, ho⟩ := and1 ho
    obtain ⟨h3, ho⟩ := and1 ho
    obtain ⟨h4, ho⟩ := and1 ho
    obtain ⟨h5, h6⟩ := and1 ho
    obtain ⟨l1, l2⟩ := loc_of h2
    have hy : X.env.scope.names.lookup (nm X.N i) = some .local := by rw [C.hs]; exact pl_of h3
    obtain ⟨p1, p2, p3, p4, p5⟩ := lc_parts elt tg src ifs (E := E.np.np) C h1 ha
    have q := ps_setLc (pos := E.np.np.p) (spos := E.p) (py := E.np.p) C.calm C.nd l1 hy (sw_true (by rw [C.hs]; exact kind_of h4) hy h5 (by simpa using h6)) p1 p2 p3 p4 p5 (fold_sr _ src _)
    rw [own_snd] at q
    exact PS.imp q fun Ds σ H z => skey_lc X.K (lc_pairs h1) z
  | .setT is e, X, sc, E, C, B, ho, ha => by
    rw [okS] at ho
    rw [askS] at ha
    obtain ⟨h1, ho⟩ := and1 ho
    obtain ⟨h2, h3⟩ := and1 ho
    have h3 : isTup e = false := by simpa using h3
    exact PS.imp (ps_asg (sE e C h1 ha).pe (pg_tr C.nd C.calm (.t is) E.np (tg_of C B h2)) sw_tup (ss_notup (em_notup X.N _ h3))) fun Ds σ H q => skey_setT X.K q
  | .set2 is es, X, sc, E, C, B, ho, ha => by
    rw [askS] at ha
    exact s_set2 is es C B ho ha
  | .setIx i kx e, X, sc, E, C, B, ho, ha => by
    rw [okS] at ho
    rw [askS] at ha
    obtain ⟨h1, ho⟩ := and1 ho
    obtain ⟨h2, h3⟩ := and1 ho
    exact PS.imp (ps_asg (sE e C h2 ha.2).pe (pg_sub (pv C h3) (sE kx C h1 ha.1).pe set_list (asg_sub (em_pl X.N kx _))) sw_sub) fun Ds σ H q => skey_setIx q
  | .pset i j e, X, sc, E, C, B, ho, ha => by
    rw [okS] at ho
    rw [askS] at ha
    obtain ⟨h1, h2⟩ := and1 ho
    exact PS.imp (ps_asg (sE e C h1 ha).pe (pg_sub (pv C h2) pe_int set_list (asg_sub (by rfl))) sw_sub) fun Ds σ H q => skey_pset q
  | .aug op i e, X, sc, E, C, B, ho, ha => by
    rw [okS] at ho
    rw [askS] at ha
    obtain ⟨h1, h2⟩ := and1 ho
    obtain ⟨l1, l2⟩ := loc_of h2
    have l2' : Loc X.env.scope (nm X.N i) := by rw [C.hs]; exact l2
    have pe := (sE e C h1 ha).pe
    by_cases hadd : op = .Add
    · subst hadd
      refine PS.imp (ps_aug C.nd l1 l2' pe ip_add (.inl (B.fn _))) fun Ds σ H q => ?_
      rcases skey_aug q with ⟨_, z⟩ | ⟨z, _⟩
      · exact z
      · cases z
    · by_cases hsub : op = .Sub
      · subst hsub
        refine PS.imp (ps_aug C.nd l1 l2' pe ip_sub (.inl (B.fn _))) fun Ds σ H q => ?_
        rcases skey_aug q with ⟨z, _⟩ | ⟨_, z⟩
        · cases z
        · exact z
      · refine PS.imp ps_never fun Ds σ H q => ?_
        rcases skey_aug q with ⟨z, _⟩ | ⟨z, _⟩
        · exact hadd z
        · exact hsub z
  | .app i e, X, sc, E, C, B, ho, ha => by
    rw [okS] at ho
    rw [askS] at ha
    obtain ⟨h1, ho⟩ := and1 ho
    obtain ⟨h2, h3⟩ := and1 ho
    exact PS.imp (ps_expr (pe_bm PySem.F.plainAttrs_list PySem.F.slot_list_append PySem.F.type_list_append mt_append (pv C h2) (pa_cons (sE e C h1 ha).pe pa_nil (star_pl (em_pl X.N e _))) (by rfl) (few_one (em_pl X.N e _)) h3 (star_pl (em_pl X.N e _)) (by rfl))) fun Ds σ H q => skey_app X.K q
  | .ins i kx e, X, sc, E, C, B, ho, ha => by
    rw [okS] at ho
    rw [askS] at ha
    obtain ⟨h0, ho⟩ := and1 ho
    obtain ⟨h1, ho⟩ := and1 ho
    obtain ⟨h2, h3⟩ := and1 ho
    exact PS.imp (ps_expr (pe_bm PySem.F.plainAttrs_list PySem.F.slot_list_insert PySem.F.type_list_insert mt_ins (pv C h2) (pa_cons (sE kx C h0 ha.1).pe (pa_cons (sE e C h1 ha.2).pe pa_nil (star_pl (em_pl X.N e _))) (star_pl (em_pl X.N kx _))) (by rfl) (few_two (em_pl X.N kx _) (em_pl X.N e _)) h3 (star_pl (em_pl X.N kx _)) (plain_one (em_pl X.N e _)))) fun Ds σ H q => skey_ins X.K q
  | .pop j i kx, X, sc, E, C, B, ho, ha => by
    rw [okS] at ho
    rw [askS] at ha
    obtain ⟨h0, ho⟩ := and1 ho
    obtain ⟨h1, ho⟩ := and1 ho
    obtain ⟨h2, h3⟩ := and1 ho
    obtain ⟨l1, l2⟩ := loc_of h1
    exact PS.imp (ps_set C.nd l1 (by rw [C.hs]; exact l2) (pe_bm PySem.F.plainAttrs_list PySem.F.slot_list_pop PySem.F.type_list_pop mt_popAt (pv C h2) (pa_cons (sE kx C h0 ha).pe pa_nil (star_pl (em_pl X.N kx _))) (by rfl) (few_one (em_pl X.N kx _)) h3 (star_pl (em_pl X.N kx _)) (by rfl)) (by rfl) (.inl (B.fn _))) fun Ds σ H q => skey_pop X.K q
  | .ext i e, X, sc, E, C, B, ho, ha => by
    rw [okS] at ho
    rw [askS] at ha
    obtain ⟨h1, ho⟩ := and1 ho
    obtain ⟨h2, h3⟩ := and1 ho
    exact PS.imp (ps_expr (pe_bm PySem.F.plainAttrs_list PySem.F.slot_list_extend PySem.F.type_list_extend mt_extend (pv C h2) (pa_cons (sE e C h1 ha).pe pa_nil (star_pl (em_pl X.N e _))) (by rfl) (few_one (em_pl X.N e _)) h3 (star_pl (em_pl X.N e _)) (by rfl))) fun Ds σ H q => skey_ext X.K q
  | .rev i, X, sc, E, C, B, ho, ha => by
    rw [okS] at ho
    obtain ⟨h2, h3⟩ := and1 ho
    exact PS.imp (ps_expr (pe_bm0 PySem.F.plainAttrs_list PySem.F.slot_list_reverse PySem.F.type_list_reverse mt_reverse (pv C h2) (by rfl) h3)) fun Ds σ H q => skey_rev X.K q
  | .expr e, X, sc, E, C, B, ho, ha => by
    rw [okS] at ho
    rw [askS] at ha
    obtain ⟨h1, h2⟩ := and1 ho
    have h2 : isLc e = false := by simpa using h2
    exact PS.imp (ps_expr (sE e C h1 ha).pe (sw_nolc (em_nolc X.N _ h2))) fun Ds σ H q => skey_expr q
  | .ite c a b, X, sc, E, C, B, ho, ha => by
    rw [okS] at ho
    rw [askS] at ha
    obtain ⟨h1, ho⟩ := and1 ho
    obtain ⟨h2, h3⟩ := and1 ho
    exact PS.imp (ps_if (sE c C h1 ha.1).pt (sSs a C B h2 ha.2.1) (sSs b C B h3 ha.2.2)) fun Ds σ H q => skey_ite q
  | .for tg src body, X, sc, E, C, B, ho, ha => by
    rw [okS] at ho
    rw [askS] at ha
    obtain ⟨h1, ho⟩ := and1 ho
    obtain ⟨h2, ho⟩ := and1 ho
    obtain ⟨h3, h4⟩ := and1 ho
    have pi := sSr src (tgt := (emTr X.N tg E.np).1) C h1 ha.1 fun hp => by
      rw [hp] at h3
      cases tg with
      | v i => cases h3
      | t is => exact ⟨_, _, _, rfl⟩
      | n i is => exact ⟨_, _, _, rfl⟩
    exact PS.imp (ps_for B.passes C.calm pi (pg_tr C.nd C.calm tg E.np (tg_of C B h2)) (sSs body C B h4 ha.2) (fold_sr _ src _)) fun Ds σ H q => skey_for X.K (fun hp => by rw [hp] at h3; cases tg with | v i => cases h3 | t is => rfl | n i is => rfl) q
  | .while n c body, X, sc, E, C, B, ho, ha => by
    rw [okS] at ho
    rw [askS] at ha
    obtain ⟨h1, h2⟩ := and1 ho
    exact PS.imp (ps_while B.passes (sE c C h1 ha.1).pt (sSs body C B h2 ha.2)) fun Ds σ H q => skey_while q
  | .ret e, X, sc, E, C, B, ho, ha => by
    rw [okS] at ho
    rw [askS] at ha
    exact PS.imp (ps_ret (sE e C ho ha).pe) fun Ds σ H q => skey_ret q
  | .retN, X, sc, E, C, B, ho, ha => PS.imp ps_retN fun Ds σ H q => by
    obtain ⟨pa, H0, G0, G, s, fl, s2, S0, ev, post⟩ := q
    rw [evalS] at ev; cases ev
    exact post .non σ H G .refl S0 .non
  | .pass, X, sc, E, C, B, ho, ha => PS.imp ps_pass fun Ds σ H q => by
    obtain ⟨pa, H0, G0, G, s, fl, s2, S0, ev, post⟩ := q
    rw [evalS] at ev; cases ev
    exact post σ H G .refl S0
  | .brk, X, sc, E, C, B, ho, ha => PS.imp ps_break fun Ds σ H q => by
    obtain ⟨pa, H0, G0, G, s, fl, s2, S0, ev, post⟩ := q
    rw [evalS] at ev; cases ev
    exact post σ H G .refl S0
  | .cont, X, sc, E, C, B, ho, ha => PS.imp ps_continue fun Ds σ H q => by
    obtain ⟨pa, H0, G0, G, s, fl, s2, S0, ev, post⟩ := q
    rw [evalS] at ev; cases ev
    exact post σ H G .refl S0
  | .never, X, sc, E, C, B, ho, ha => PS.imp ps_never fun Ds σ H q => by
    obtain ⟨pa, H0, G0, G, s, fl, s2, S0, ev, post⟩ := q
    rw [evalS] at ev; cases ev
theorem sSs : ∀ (ss : ISs) {X : Cx} {sc : Scope} {E : Em}, Cd X X.N sc k → Bd X → okSs X.N sc ss E = true → askSs (askOf (wdOf X) k) ss → PSs X (emSs X.N ss E).1 (tF (evalSs ss))
  | .nil, X, sc, E, C, B, ho, ha => PSs.imp pss_nil fun Ds σ H q => skey_nil q
  | .cons s ss, X, sc, E, C, B, ho, ha => by
    rw [okSs] at ho
    rw [askSs] at ha
    obtain ⟨h1, h2⟩ := and1 ho
    exact PSs.imp (pss_cons (sS s C B h1 ha.1) (sSs ss C B h2 ha.2)) fun Ds σ H q => skey_cons q
end
end

theorem start_at {N : List Str} {vs : List V} {i : Nat} {v : V} (h : vs[i]? = some v) : (L2.start N vs)[i]? = some (some v) := by
  unfold L2.start
  obtain ⟨hi, _⟩ := List.getElem?_eq_some_iff.mp h
  rw [List.getElem?_append_left (by simpa using hi), List.getElem?_map, h]; rfl
theorem sim_start {pa : PA} {G H : Hp} {N : List Str} {vs : List V} {ds : List D} {p : Option Pn} (u : Sub G H) (hp : PenAt pa G H p) (r : Rps pa G vs ds) (hl : ds.length ≤ N.length) : Sim pa H G G (L2.start N vs) H (start N.length ds p) := by
  have sl : ∀ {i : Nat} {d : D} {f : Bool}, (start N.length ds p).sl[i]? = some (some (d, f)) → f = false ∧ ds[i]? = some d := by
    intro i d f h
    have h : (ds.map (fun d => some (d, false)) ++ List.replicate (N.length - ds.length) none)[i]? = some (some (d, f)) := h
    by_cases hi : i < ds.length
    · rw [List.getElem?_append_left (by simpa using hi), List.getElem?_map] at h
      cases q : ds[i]? with
      | none => rw [q] at h; cases h
      | some e => rw [q] at h; cases h; exact ⟨rfl, rfl⟩
    · rw [List.getElem?_append_right (by simpa using hi), List.getElem?_replicate] at h
      split at h <;> cases h
  refine ⟨?_, u, .refl, fun a o h => .inl h, fun a o h _ => h, hp, fun i d h => ?_, fun i d h => ?_, fun i j d e a h => ?_⟩
  · show (L2.start N vs).length = (ds.map (fun d => some (d, false)) ++ List.replicate (N.length - ds.length) none).length
    unfold L2.start
    have := r.len
    simp only [List.length_append, List.length_map, List.length_replicate]
    omega
  · obtain ⟨_, hd⟩ := sl h
    obtain ⟨v, hv, rv⟩ := r.get hd
    exact ⟨v, start_at hv, rv⟩
  · cases (sl h).1
  · cases (sl h).1
/-- a def of the text does what runF says -/
theorem def_of {W : Wd} {k : Nat} {f : Addr} {name qual : Str} {params : Arguments} {body : List Stmt} {scope : Scope} {dV kV doc pm cdv ct oc : Value} {an od : Option Addr} {osl : Array (Option Value)} {N ps : List Str} (ir : ISs) (E : Em)
    (lk : W.K.lookup f = some ⟨oc, od, .func (PySem.W.fnOf name qual params body scope dV kV doc pm an cdv ct), osl⟩)
    (hcd : PySem.W.codeIn W.K cdv qual = true) (sc : FnScope N ps scope) (bl : ∀ x, x ∈ bnames → W.mg x = none)
    (he : (emSs N ir E).1 = body) (ok : okSs N scope ir E = true) (ask : askSs (askOf W k) ir) :
    GFn W (k + 1) f (PySem.W.fnOf name qual params body scope dV kV doc pm an cdv ct) ps (spF (runF N.length ir) ps.length) := by
  subst he
  have hpl : ps.length ≤ N.length := by have := congrArg List.length sc.pre; rw [List.length_take] at this; omega
  refine gfn_of lk hcd sc (fun vs H Q h => ?_) fun A outer s H vs Q room hgd promise => ⟨tF (evalSs ir), ?_, ?_⟩
  · obtain ⟨pa, G, ds, p, d, fr, p1, hl, _, _, r, _⟩ := h
    rw [r.len, hl]
  · exact sSs ir (X := gx W N qual scope f cdv A outer s H) (sc := scope) ⟨rfl, sc.nd, rfl, rfl, room, hgd, bl⟩ (bd0 rfl fun _ => rfl) ok ask
  · obtain ⟨pa, G, ds, p, d, fr, p1, hl, u, hp, r, e, kk⟩ := promise
    have S0 := sim_start (N := N) u hp r (by omega)
    unfold runF at e
    obtain ⟨⟨fl, s1⟩, e1, e2⟩ := Option.bind_eq_some_iff.mp e
    refine ⟨pa, H, G, G, _, fl, s1, S0, e1, ?_⟩
    cases fl with
    | nx =>
      cases e2
      intro σ1 H1 G1 u1 S1
      exact kk .non H1 G1 (fun a o h n => S1.kee a o h n) S1.base S1.sub (fun a o h => S1.new a o h) S1.pen .non
    | brk => cases e2
    | cont => cases e2
    | ret d' fr' =>
      cases e2
      intro v σ1 H1 G1 u1 S1 rt
      refine kk v H1 G1 (fun a o h n => S1.kee a o h n) S1.base S1.sub (fun a o h => S1.new a o h) S1.pen ?_
      cases fr with
      | false => exact rt
      | true =>
        obtain ⟨a, xs, es, e1, e2, e3, e4, e5, e6, e7⟩ := rt
        exact ⟨a, xs, es, e1, e2, e6, e3, e4, e5⟩
end Fs

set_option Elab.async false
set_option linter.all false
set_option maxRecDepth 100000
set_option maxHeartbeats 8000000
namespace Fs
open PySem L2
def ir_spread : ISs := (.cons (.ite (.cmp .GtE (.var 0) (.bin .Pow (.int 10) (.int 18)))
  (.cons (.ret (.var 0))
  .nil)
  .nil)
  (.cons (.set 2 (.lst (.cons (.int 2147483629) (.cons (.int 2147483587) (.cons (.int 2147483579) (.cons (.int 2147483563) (.cons (.int 2147483549) (.cons (.int 2147483543) (.cons (.int 2147483497) .nil)))))))))
  (.cons (.set 2 (.bin .Add (.var 2) (.lst (.cons (.int 2147483489) (.cons (.int 2147483477) (.cons (.int 2147483423) (.cons (.int 2147483399) (.cons (.int 2147483353) (.cons (.int 2147483323) .nil)))))))))
  (.cons (.set 3 (.bin .Add (.bin .Add (.bin .Mult (.bin .Mod (.blt .int (.cons (.var 0) .nil)) (.int 1000000007)) (.bin .Add (.bin .Mult (.int 2) (.var 1)) (.int 69069))) (.bin .Mult (.var 1) (.int 40503))) (.int 977)))
  (.cons (.set 4 (.bin .Mod (.blt .int (.cons (.bin .Pow (.var 3) (.int 3)) .nil)) (.ix (.var 2) (.bin .Mod (.blt .int (.cons (.var 1) .nil)) (.int 13)))))
  (.cons (.set 5 (.bin .Add (.bin .Mod (.blt .int (.cons (.var 0) .nil)) (.int 65537)) (.int 5)))
  (.cons (.set 6 (.bin .Mod (.blt .int (.cons (.bin .Pow (.bin .Add (.bin .Mult (.var 4) (.bin .Add (.var 1) (.int 3))) (.var 5)) (.int 5)) .nil)) (.ix (.var 2) (.bin .Mod (.blt .int (.cons (.bin .Add (.var 1) (.int 5)) .nil)) (.int 13)))))
  (.cons (.set 7 (.bin .Mod (.blt .int (.cons (.bin .Pow (.bin .Add (.bin .Add (.var 6) (.bin .Mod (.blt .int (.cons (.var 4) .nil)) (.int 1009))) (.var 1)) (.int 3)) .nil)) (.ix (.var 2) (.bin .Mod (.blt .int (.cons (.bin .Add (.var 1) (.int 7)) .nil)) (.int 13)))))
  (.cons (.ret (.bin .Add (.bin .Mult (.bin .Add (.bin .Mult (.var 4) (.int 2147483647)) (.var 6)) (.int 2147483647)) (.var 7)))
  .nil)))))))))
def ir_take : ISs := (.cons (.ite (.cmp .Lt (.pix 0 2) (.var 1))
  (.cons (.set 2 (.pix 0 1))
  (.cons (.set 3 (.int 0))
  (.cons (.ite (.cmp .Lt (.var 2) (.blt .len (.cons (.pix 0 0) .nil)))
  (.cons (.set 3 (.ix (.pix 0 0) (.var 2)))
  .nil)
  (.cons (.ite (.cmp .Gt (.blt .len (.cons (.pix 0 0) .nil)) (.int 0))
  (.cons (.set 3 (.bin .Mod (.blt .int (.cons (.ix (.pix 0 0) (.bin .Mod (.blt .int (.cons (.bin .Add (.bin .Mult (.var 2) (.int 5)) (.int 3)) .nil)) (.blt .len (.cons (.pix 0 0) .nil)))) .nil)) (.bin .Add (.bin .Pow (.int 10) (.int 17)) (.var 2))))
  .nil)
  .nil)
  .nil))
  (.cons (.pset 0 1 (.bin .Add (.var 2) (.int 1)))
  (.cons (.pset 0 2 (.call "_law_spread" (runF 8 ir_spread) (.cons (.var 3) (.cons (.var 2) .nil))))
  .nil)))))
  .nil)
  (.cons (.set 4 (.bin .Mod (.blt .int (.cons (.pix 0 2) .nil)) (.var 1)))
  (.cons (.pset 0 2 (.bin .FloorDiv (.pix 0 2) (.var 1)))
  (.cons (.ret (.var 4))
  .nil))))
def ir_one : ISs := .cons (.ret (.ix (.var 1) (.call "_law_take" FTake (.cons (.var 0) (.cons (.blt .len (.cons (.var 1) .nil)) .nil))))) .nil
def ir_turn : ISs := .cons (.setIx 1 (.bin .Mod (.blt .int (.cons (.var 2) .nil)) (.int 12)) (.bin .Add (.ix (.var 1) (.bin .Mod (.blt .int (.cons (.var 2) .nil)) (.int 12))) (.var 3))) .nil
def ir_open : ISs := .cons (.set 1 (.blt .list (.cons (.sl (.var 0) .none (.some (.int 12))) .nil)))
  (.cons (.for (.t [2, 3]) (.enum (.sl (.var 0) (.some (.int 12)) (.some (.int 63)))) ir_turn)
  (.cons (.ret (.lst (.cons (.var 1) (.cons (.int 0) (.cons (.int 0) .nil))))) .nil))

def primD : List D := [.int 2147483629, .int 2147483587, .int 2147483579, .int 2147483563, .int 2147483549, .int 2147483543, .int 2147483497, .int 2147483489, .int 2147483477, .int 2147483423, .int 2147483399, .int 2147483353, .int 2147483323]
theorem prim_cases {i : Int} (h0 : 0 ≤ i) (h1 : i < 13) : i = 0 ∨ i = 1 ∨ i = 2 ∨ i = 3 ∨ i = 4 ∨ i = 5 ∨ i = 6 ∨ i = 7 ∨ i = 8 ∨ i = 9 ∨ i = 10 ∨ i = 11 ∨ i = 12 := by omega
theorem prim_at {i : Int} (h0 : 0 ≤ i) (h1 : i < 13) : L2.atI primD i = some (.int (prim i)) := by
  rcases prim_cases h0 h1 with rfl | rfl | rfl | rfl | rfl | rfl | rfl | rfl | rfl | rfl | rfl | rfl | rfl <;> rfl
theorem prim_pos {i : Int} (h0 : 0 ≤ i) (h1 : i < 13) : 0 < prim i ∧ prim i < 2147483648 := by
  rcases prim_cases h0 h1 with rfl | rfl | rfl | rfl | rfl | rfl | rfl | rfl | rfl | rfl | rfl | rfl | rfl <;> decide
end Fs

set_option Elab.async false
set_option linter.all false
set_option maxRecDepth 100000
set_option maxHeartbeats 8000000
namespace Fs
open PySem L2
abbrev Ev1 (e : IE) (s : S) (d : D) (t : Tg) (s1 : S) : Prop := evalE e s = some ((d, t), s1)
abbrev EvB (e : IE) (s : S) (b : Bool) (s1 : S) : Prop := boolD (evalE e s) = some (b, s1)
abbrev EvS (es : IEs) (s : S) (xs : List (D × Tg)) (s1 : S) : Prop := evalEs es s = some (xs, s1)
abbrev St1 (st : IS) (s : S) (f : Fl) (s1 : S) : Prop := evalS st s = some (f, s1)
abbrev Sts (ss : ISs) (s : S) (f : Fl) (s1 : S) : Prop := evalSs ss s = some (f, s1)
section
variable {s s1 s2 s3 : S} {d d1 d2 d3 : D} {t t1 t2 t3 : Tg} {a b c e : IE} {es : IEs} {i j n : Nat} {fr : Bool}
theorem ev_int {n : Int} : Ev1 (.int n) s (.int n) .fz s := by rw [Ev1, evalE]
theorem ev_bool {n : Bool} : Ev1 (.bool n) s (.bool n) .fz s := by rw [Ev1, evalE]
theorem ev_non : Ev1 .non s .none .fz s := by rw [Ev1, evalE]
theorem ev_str {n : Str} : Ev1 (.str n) s (.str n) .fz s := by rw [Ev1, evalE]
theorem ev_var (h : rd s i = some (d, false)) : Ev1 (.var i) s d .fz s := by rw [Ev1, evalE, h]; rfl
theorem ev_own (h : rd s i = some (d, true)) : Ev1 (.var i) s d (.slot i) s := by rw [Ev1, evalE, h]; rfl
def tagB (fr : Bool) : Tg := if fr = true then .fresh else .fz
theorem ev_binG {op : Operator} (h1 : Ev1 a s d1 t1 s1) (h2 : Ev1 b s1 d2 t2 s2) (h : binD op d1 d2 = some (d, fr)) : Ev1 (.bin op a b) s d (tagB fr) s2 := by
  rw [Ev1, evalE, h1]
  show (evalE b s1 >>= _) = _
  rw [h2]
  show (binD op d1 d2 >>= _) = _
  rw [h]; rfl
theorem ev_bin {op : Operator} (h1 : Ev1 a s d1 t1 s1) (h2 : Ev1 b s1 d2 t2 s2) (h : binD op d1 d2 = some (d, false)) : Ev1 (.bin op a b) s d .fz s2 := ev_binG h1 h2 h
theorem ev_binL {op : Operator} (h1 : Ev1 a s d1 t1 s1) (h2 : Ev1 b s1 d2 t2 s2) (h : binD op d1 d2 = some (d, true)) : Ev1 (.bin op a b) s d .fresh s2 := ev_binG h1 h2 h
theorem bin_add {x y : Int} : binD .Add (.int x) (.int y) = some (.int (x + y), false) := rfl
theorem bin_sub {x y : Int} : binD .Sub (.int x) (.int y) = some (.int (x - y), false) := rfl
theorem bin_mul {x y : Int} (h : (-(2 ^ 64) < x ∧ x < 2 ^ 64) ∨ (-(2 ^ 64) < y ∧ y < 2 ^ 64)) : binD .Mult (.int x) (.int y) = some (.int (x * y), false) := if_pos h
theorem bin_mod {x y : Int} (h : 0 < y) : binD .Mod (.int x) (.int y) = some (.int (x % y), false) := if_pos h
theorem bin_div {x y : Int} (h : 0 < y ∧ y < 1073741824) : binD .FloorDiv (.int x) (.int y) = some (.int (x / y), false) := if_pos h
theorem bin_pow {x y : Int} (h : 0 ≤ y ∧ y ≤ 1000000 ∧ x.natAbs < 2 ^ 64) : binD .Pow (.int x) (.int y) = some (.int (x ^ y.toNat), false) := if_pos h
theorem bin_lst {x y : List D} (h : x.length + y.length ≤ sizeLine) : binD .Add (.list x) (.list y) = some (.list (x ++ y), true) := if_pos h
theorem ev_cmp {op : CmpOp} {k : Bool} (h1 : Ev1 a s d1 t1 s1) (h2 : Ev1 b s1 d2 t2 s2) (h : cmpD op d1 d2 = some k) : Ev1 (.cmp op a b) s (.bool k) .fz s2 := by
  rw [Ev1, evalE, h1]
  show (evalE b s1 >>= _) = _
  rw [h2]
  show (cmpD op d1 d2 >>= _) = _
  rw [h]; rfl
theorem cmp_lt {x y : Int} : cmpD .Lt (.int x) (.int y) = some (decide (x < y)) := rfl
theorem cmp_le {x y : Int} : cmpD .LtE (.int x) (.int y) = some (decide (x ≤ y)) := rfl
theorem cmp_gt {x y : Int} : cmpD .Gt (.int x) (.int y) = some (decide (y < x)) := rfl
theorem cmp_ge {x y : Int} : cmpD .GtE (.int x) (.int y) = some (decide (y ≤ x)) := rfl
theorem cmp_eqI {x y : Int} : cmpD .Eq (.int x) (.int y) = some (decide (x = y)) := by
  show (if okEq (.int x) (.int y) = true then some (PyData.eqv (.int x) (.int y)) else none) = _
  rw [if_pos (show okEq (.int x) (.int y) = true from rfl), ← Bool.beq_eq_decide_eq]; rfl
theorem cmp_neI {x y : Int} : cmpD .NotEq (.int x) (.int y) = some (!decide (x = y)) := by
  show (if okEq (.int x) (.int y) = true then some (!PyData.eqv (.int x) (.int y)) else none) = _
  rw [if_pos (show okEq (.int x) (.int y) = true from rfl), ← Bool.beq_eq_decide_eq]; rfl
theorem evb_of {k : Bool} (h : Ev1 e s (.bool k) t s1) : EvB e s k s1 := by rw [EvB, h]; rfl
theorem ev_ixG (h1 : Ev1 a s d1 t1 s1) (h2 : Ev1 b s1 d2 t2 s2) (h : ixD d1 d2 = some d) : Ev1 (.ix a b) s d .fz s2 := by
  rw [Ev1, evalE, h1]
  show (evalE b s1 >>= _) = _
  rw [h2]
  show (ixD d1 d2 >>= _) = _
  rw [h]; rfl
theorem evs_nil : EvS .nil s [] s := by rw [EvS, evalEs]
theorem evs_cons {xs : List (D × Tg)} (h1 : Ev1 e s d t s1) (h2 : EvS es s1 xs s2) : EvS (.cons e es) s ((d, t) :: xs) s2 := by
  rw [EvS, evalEs, h1]
  show (evalEs es s1 >>= _) = _
  rw [h2]; rfl
theorem ev_bltG {f : Bf} {xs : List (D × Tg)} (h1 : EvS es s xs s1) (h : bltD f (xs.map (·.1)) = some (d, fr)) : Ev1 (.blt f es) s d (tagB fr) s1 := by
  rw [Ev1, evalE, h1]
  show (bltD f (xs.map (·.1)) >>= _) = _
  rw [h]; rfl
theorem ev_int1 {x : Int} (h1 : Ev1 a s (.int x) t1 s1) : Ev1 (.blt .int (.cons a .nil)) s (.int x) .fz s1 := ev_bltG (fr := false) (evs_cons h1 evs_nil) rfl
theorem ev_lenL {x : List D} (h1 : Ev1 a s (.list x) t1 s1) : Ev1 (.blt .len (.cons a .nil)) s (.int x.length) .fz s1 := ev_bltG (fr := false) (evs_cons h1 evs_nil) rfl
theorem ev_tup {xs : List (D × Tg)} (h1 : EvS es s xs s1) : Ev1 (.tup es) s (.tuple (xs.map (·.1))) .fz (s1.keeps (xs.map (·.2))) := by
  rw [Ev1, evalE, h1]; rfl
theorem ev_lst {xs : List (D × Tg)} (h1 : EvS es s xs s1) : Ev1 (.lst es) s (.list (xs.map (·.1))) .fresh (s1.keeps (xs.map (·.2))) := by
  rw [Ev1, evalE, h1]; rfl
theorem ev_pix {q : Pn} (h : isPen (rd s i) = true) (hp : s.pn = some q) (hd : pixD j q = some d) : Ev1 (.pix i j) s d .fz s := by
  rw [Ev1, evalE, if_pos h, hp]
  show ((pixD j q).map _) = _
  rw [hd]; rfl
theorem ev_callS {x : Str} {F : Fn} {xs : List (D × Tg)} {pn : Option Pn} (h1 : EvS es s xs s1) (h : F (xs.map (·.1)) s1.pn = some ((d, fr), pn)) (z : scal d = true) : Ev1 (.call x F es) s d .fz { s1 with pn := pn } := by
  rw [Ev1, evalE, h1]
  show (F (xs.map (·.1)) s1.pn >>= _) = _
  rw [h]
  show (if scal d = true then _ else _) = _
  rw [if_pos z]
theorem ev_call {x : Str} {F : Fn} {xs : List (D × Tg)} {pn : Option Pn} (h1 : EvS es s xs s1) (h : F (xs.map (·.1)) s1.pn = some ((d, fr), pn)) (z : scal d = false) : Ev1 (.call x F es) s d (tagB fr) { (s1.keeps (xs.map (·.2))) with pn := pn } := by
  rw [Ev1, evalE, h1]
  show (F (xs.map (·.1)) s1.pn >>= _) = _
  rw [h]
  show (if scal d = true then _ else _) = _
  rw [if_neg (by rw [z]; decide)]; rfl
theorem st_set (h1 : Ev1 e s d t s1) (h : decide (i < s1.sl.length) = true) : St1 (.set i e) s .nx ((s1.keep t).put i (d, t.own)) := by
  rw [St1, evalS, h1]
  show (if i < s1.sl.length then _ else _) = _
  rw [if_pos (of_decide_eq_true h)]
theorem st_ret (h1 : Ev1 e s d .fz s1) : St1 (.ret e) s (.ret d false) s1 := by
  rw [St1, evalS, h1]; rfl
theorem st_retL (h1 : Ev1 e s d .fresh s1) : St1 (.ret e) s (.ret d true) s1 := by
  rw [St1, evalS, h1]; rfl
theorem st_ite {x y : ISs} {k : Bool} {f : Fl} (h1 : EvB c s k s1) (ht : k = true → Sts x s1 f s2) (hf : k = false → Sts y s1 f s2) : St1 (.ite c x y) s f s2 := by
  rw [St1, evalS, h1]
  cases k with
  | true => exact ht rfl
  | false => exact hf rfl
theorem st_iteT {x y : ISs} {f : Fl} (h1 : EvB c s true s1) (ht : Sts x s1 f s2) : St1 (.ite c x y) s f s2 := st_ite h1 (fun _ => ht) (fun z => by cases z)
theorem st_iteF {x y : ISs} {f : Fl} (h1 : EvB c s false s1) (hf : Sts y s1 f s2) : St1 (.ite c x y) s f s2 := st_ite h1 (fun z => by cases z) (fun _ => hf)
theorem st_pset {m : Int} {q q2 : Pn} (h1 : Ev1 e s (.int m) t s1) (h : isPen (rd s i) = true) (hp : s1.pn = some q) (hq : penSet j m q = some q2) : St1 (.pset i j e) s .nx { s1 with pn := some q2 } := by
  rw [St1, evalS, h1, h]
  show (s1.pn.bind (penSet j m)).map _ = _
  rw [hp]
  show (penSet j m q).map _ = _
  rw [hq]; rfl
theorem ss_nil : Sts .nil s .nx s := by rw [Sts, evalSs]
theorem ss_cons {x : IS} {xs : ISs} {f : Fl} (h1 : St1 x s .nx s1) (h2 : Sts xs s1 f s2) : Sts (.cons x xs) s f s2 := by
  rw [Sts, evalSs, h1]; exact h2
theorem ss_end {x : IS} {xs : ISs} (h1 : St1 x s (.ret d fr) s1) : Sts (.cons x xs) s (.ret d fr) s1 := by
  rw [Sts, evalSs, h1]; rfl
theorem run_of {m : Nat} {ir : ISs} {ds : List D} {pn : Option Pn} (h : Sts ir (start m ds pn) (.ret d fr) s1) : runF m ir ds pn = some ((d, fr), s1.pn) := by
  unfold runF
  rw [h]; rfl
end
theorem sizeL : sizeLine = 16777216 := PySem.sizeLine_eq
def spS (c a : Int) (x3 x4 x5 x6 x7 : Option (D × Bool)) (pn : Option Pn) : S := ⟨[some (.int c, false), some (.int a, false), some (.list primD, true), x3, x4, x5, x6, x7], pn⟩
theorem spread_ok (c a : Int) (h0 : 0 ≤ a) (h1 : a < 1073741824) (pn : Option Pn) : runF 8 ir_spread [.int c, .int a] pn = some ((.int (spreadF c a), false), pn) := by
  have hp18 : Ev1 (.bin .Pow (.int 10) (.int 18)) (start 8 [.int c, .int a] pn) (.int (10 ^ 18)) .fz (start 8 [.int c, .int a] pn) := ev_bin ev_int ev_int (bin_pow (by decide))
  unfold spreadF
  by_cases hc : 10 ^ 18 ≤ c
  · rw [if_pos hc]
    refine run_of (ss_end (st_iteT (evb_of (ev_cmp (ev_var rfl) hp18 ?_)) (ss_end (st_ret (ev_var rfl)))))
    rw [cmp_ge, decide_eq_true hc]
  · rw [if_neg hc]
    have e0 : cmpD .GtE (.int c) (.int (10 ^ 18)) = some false := by rw [cmp_ge, decide_eq_false hc]
    have p1 := prim_pos (i := a % 13) (by omega) (by omega)
    have p2 := prim_pos (i := (a + 5) % 13) (by omega) (by omega)
    have p3 := prim_pos (i := (a + 7) % 13) (by omega) (by omega)
    have q1 : ixD (.list primD) (.int (a % 13)) = some (.int (prim (a % 13))) := prim_at (by omega) (by omega)
    have q2 : ixD (.list primD) (.int ((a + 5) % 13)) = some (.int (prim ((a + 5) % 13))) := prim_at (by omega) (by omega)
    have q3 : ixD (.list primD) (.int ((a + 7) % 13)) = some (.int (prim ((a + 7) % 13))) := prim_at (by omega) (by omega)
    have m1 : 0 ≤ c % 1000000007 * (2 * a + 69069) ∧ c % 1000000007 * (2 * a + 69069) ≤ 1000000007 * 2147552717 :=
      ⟨Int.mul_nonneg (by omega) (by omega), Int.mul_le_mul (by omega) (by omega) (by omega) (by omega)⟩
    generalize hx : c % 1000000007 * (2 * a + 69069) + a * 40503 + 977 = x
    have bx : 0 ≤ x ∧ x < 2 ^ 63 := by omega
    generalize hu : x ^ 3 % prim (a % 13) = u
    have bu : 0 ≤ u ∧ u < 2147483648 := by
      have z1 := Int.emod_nonneg (x ^ 3) (show prim (a % 13) ≠ 0 by omega)
      have z2 := Int.emod_lt_of_pos (x ^ 3) p1.1
      omega
    have m2 : 0 ≤ u * (a + 3) ∧ u * (a + 3) ≤ 2147483648 * 1073741827 :=
      ⟨Int.mul_nonneg (by omega) (by omega), Int.mul_le_mul (by omega) (by omega) (by omega) (by omega)⟩
    generalize hv : (u * (a + 3) + (c % 65537 + 5)) ^ 5 % prim ((a + 5) % 13) = v
    have bv : 0 ≤ v ∧ v < 2147483648 := by
      have z1 := Int.emod_nonneg ((u * (a + 3) + (c % 65537 + 5)) ^ 5) (show prim ((a + 5) % 13) ≠ 0 by omega)
      have z2 := Int.emod_lt_of_pos ((u * (a + 3) + (c % 65537 + 5)) ^ 5) p2.1
      omega
    have s1 : Sts ir_spread (start 8 [.int c, .int a] pn) (.ret (.int ((u * 2147483647 + v) * 2147483647 + (v + u % 1009 + a) ^ 3 % prim ((a + 7) % 13))) false)
        (spS c a (some (.int x, false)) (some (.int u, false)) (some (.int (c % 65537 + 5), false)) (some (.int v, false)) (some (.int ((v + u % 1009 + a) ^ 3 % prim ((a + 7) % 13)), false)) pn) := by
      refine ss_cons (s1 := start 8 [.int c, .int a] pn) (st_iteF (evb_of (ev_cmp (ev_var rfl) hp18 e0)) ss_nil) ?_
      refine ss_cons (s1 := ⟨[some (.int c, false), some (.int a, false), some (.list (primD.take 7), true), none, none, none, none, none], pn⟩) ?_ ?_
      · refine st_set (ev_lst (s1 := start 8 [.int c, .int a] pn) (xs := (primD.take 7).map fun d => (d, .fz)) ?_) rfl
        repeat' (first | exact ev_int | exact ev_bool | exact ev_non | exact ev_str | exact evs_nil | exact ev_var rfl | exact ev_own rfl | exact bin_add | exact bin_sub | refine' evs_cons ?_ ?_ | refine' ev_int1 ?_ | refine' ev_bin ?_ ?_ ?_ | refine' ev_ixG ?_ ?_ ?_ | refine' bin_mul ?_ | refine' bin_mod ?_ | refine' bin_div ?_ | refine' bin_pow ?_)
      refine ss_cons (s1 := spS c a none none none none none pn) ?_ ?_
      · refine st_set (d := .list primD) (t := .fresh) (s1 := ⟨[some (.int c, false), some (.int a, false), some (.list (primD.take 7), true), none, none, none, none, none], pn⟩) (ev_binL (d2 := .list (primD.drop 7)) (ev_own rfl) (ev_lst (s1 := ⟨[some (.int c, false), some (.int a, false), some (.list (primD.take 7), true), none, none, none, none, none], pn⟩) (xs := (primD.drop 7).map fun d => (d, .fz)) ?_) (bin_lst (by decide))) rfl
        repeat' (first | exact ev_int | exact ev_bool | exact ev_non | exact ev_str | exact evs_nil | exact ev_var rfl | exact ev_own rfl | exact bin_add | exact bin_sub | refine' evs_cons ?_ ?_ | refine' ev_int1 ?_ | refine' ev_bin ?_ ?_ ?_ | refine' ev_ixG ?_ ?_ ?_ | refine' bin_mul ?_ | refine' bin_mod ?_ | refine' bin_div ?_ | refine' bin_pow ?_)
      refine ss_cons (s1 := spS c a (some (.int x, false)) none none none none pn) ?_ ?_
      · refine st_set (d := .int x) (t := .fz) (s1 := spS c a none none none none none pn) ?_ rfl
        rw [← hx]
        repeat' (first | exact ev_int | exact ev_bool | exact ev_non | exact ev_str | exact evs_nil | exact ev_var rfl | exact ev_own rfl | exact bin_add | exact bin_sub | refine' evs_cons ?_ ?_ | refine' ev_int1 ?_ | refine' ev_bin ?_ ?_ ?_ | refine' ev_ixG ?_ ?_ ?_ | refine' bin_mul ?_ | refine' bin_mod ?_ | refine' bin_div ?_ | refine' bin_pow ?_)
        all_goals omega
      refine ss_cons (s1 := spS c a (some (.int x, false)) (some (.int u, false)) none none none pn) ?_ ?_
      · refine st_set (d := .int u) (t := .fz) (s1 := spS c a (some (.int x, false)) none none none none pn) ?_ rfl
        rw [← hu]
        repeat' (first | exact ev_int | exact ev_bool | exact ev_non | exact ev_str | exact evs_nil | exact ev_var rfl | exact ev_own rfl | exact bin_add | exact bin_sub | refine' evs_cons ?_ ?_ | refine' ev_int1 ?_ | refine' ev_bin ?_ ?_ ?_ | refine' ev_ixG ?_ ?_ ?_ | refine' bin_mul ?_ | refine' bin_mod ?_ | refine' bin_div ?_ | refine' bin_pow ?_)
        all_goals first | exact q1 | omega
      refine ss_cons (s1 := spS c a (some (.int x, false)) (some (.int u, false)) (some (.int (c % 65537 + 5), false)) none none pn) ?_ ?_
      · refine st_set (d := .int (c % 65537 + 5)) (t := .fz) (s1 := spS c a (some (.int x, false)) (some (.int u, false)) none none none pn) ?_ rfl
        repeat' (first | exact ev_int | exact ev_bool | exact ev_non | exact ev_str | exact evs_nil | exact ev_var rfl | exact ev_own rfl | exact bin_add | exact bin_sub | refine' evs_cons ?_ ?_ | refine' ev_int1 ?_ | refine' ev_bin ?_ ?_ ?_ | refine' ev_ixG ?_ ?_ ?_ | refine' bin_mul ?_ | refine' bin_mod ?_ | refine' bin_div ?_ | refine' bin_pow ?_)
        all_goals omega
      refine ss_cons (s1 := spS c a (some (.int x, false)) (some (.int u, false)) (some (.int (c % 65537 + 5), false)) (some (.int v, false)) none pn) ?_ ?_
      · refine st_set (d := .int v) (t := .fz) (s1 := spS c a (some (.int x, false)) (some (.int u, false)) (some (.int (c % 65537 + 5), false)) none none pn) ?_ rfl
        rw [← hv]
        repeat' (first | exact ev_int | exact ev_bool | exact ev_non | exact ev_str | exact evs_nil | exact ev_var rfl | exact ev_own rfl | exact bin_add | exact bin_sub | refine' evs_cons ?_ ?_ | refine' ev_int1 ?_ | refine' ev_bin ?_ ?_ ?_ | refine' ev_ixG ?_ ?_ ?_ | refine' bin_mul ?_ | refine' bin_mod ?_ | refine' bin_div ?_ | refine' bin_pow ?_)
        all_goals first | exact q2 | omega
      refine ss_cons (s1 := spS c a (some (.int x, false)) (some (.int u, false)) (some (.int (c % 65537 + 5), false)) (some (.int v, false)) (some (.int ((v + u % 1009 + a) ^ 3 % prim ((a + 7) % 13)), false)) pn) ?_ ?_
      · refine st_set (d := .int ((v + u % 1009 + a) ^ 3 % prim ((a + 7) % 13))) (t := .fz) (s1 := spS c a (some (.int x, false)) (some (.int u, false)) (some (.int (c % 65537 + 5), false)) (some (.int v, false)) none pn) ?_ rfl
        repeat' (first | exact ev_int | exact ev_bool | exact ev_non | exact ev_str | exact evs_nil | exact ev_var rfl | exact ev_own rfl | exact bin_add | exact bin_sub | refine' evs_cons ?_ ?_ | refine' ev_int1 ?_ | refine' ev_bin ?_ ?_ ?_ | refine' ev_ixG ?_ ?_ ?_ | refine' bin_mul ?_ | refine' bin_mod ?_ | refine' bin_div ?_ | refine' bin_pow ?_)
        all_goals first | exact q3 | omega
      refine ss_end (st_ret ?_)
      repeat' (first | exact ev_int | exact ev_bool | exact ev_non | exact ev_str | exact evs_nil | exact ev_var rfl | exact ev_own rfl | exact bin_add | exact bin_sub | refine' evs_cons ?_ ?_ | refine' ev_int1 ?_ | refine' ev_bin ?_ ?_ ?_ | refine' ev_ixG ?_ ?_ ?_ | refine' bin_mul ?_ | refine' bin_mod ?_ | refine' bin_div ?_ | refine' bin_pow ?_)
      all_goals omega
    subst hv
    exact run_of s1
end Fs

set_option Elab.async false
set_option linter.all false
set_option maxRecDepth 100000
set_option maxHeartbeats 8000000
namespace Fs
open PySem L2
theorem ix_cells {cells : List Int} {i : Int} (h0 : 0 ≤ i) (h1 : i < cells.length) : ixD (.list (cells.map .int)) (.int i) = some (.int (cells.getD i.toNat 0)) := by
  have hl : i.toNat < cells.length := by omega
  have e : (cells.map PyData.int)[i.toNat]? = some (.int (cells.getD i.toNat 0)) := by
    rw [List.getElem?_map, List.getElem?_eq_getElem hl, List.getD_eq_getElem?_getD, List.getElem?_eq_getElem hl]; rfl
  have q := L2.atI_nat e
  have e2 : ((i.toNat : Nat) : Int) = i := by omega
  rw [e2] at q
  exact q
def tkS (n : Int) (x2 x3 x4 : Option (D × Bool)) (p : Pn) : S := ⟨[some (.dict [], false), some (.int n, false), x2, x3, x4], some p⟩
theorem tail_ok {n : Int} {x2 x3 : Option (D × Bool)} {q : Pn} (h0 : 0 < n) (h1 : n < 1073741824) :
    Sts (.cons (.set 4 (.bin .Mod (.blt .int (.cons (.pix 0 2) .nil)) (.var 1))) (.cons (.pset 0 2 (.bin .FloorDiv (.pix 0 2) (.var 1))) (.cons (.ret (.var 4)) .nil))) (tkS n x2 x3 none q) (.ret (.int (q.r % n)) false) (tkS n x2 x3 (some (.int (q.r % n), false)) ⟨q.cells, q.a, q.r / n⟩) := by
  refine ss_cons (s1 := tkS n x2 x3 (some (.int (q.r % n), false)) q) ?_ (ss_cons (s1 := tkS n x2 x3 (some (.int (q.r % n), false)) ⟨q.cells, q.a, q.r / n⟩) ?_ (ss_end (st_ret (ev_var rfl))))
  · refine st_set (d := .int (q.r % n)) (t := .fz) (s1 := tkS n x2 x3 none q) ?_ rfl
    repeat' (first | exact ev_int | exact ev_bool | exact ev_non | exact ev_str | exact evs_nil | exact ev_var rfl | exact ev_own rfl | exact ev_pix rfl rfl rfl | exact bin_add | exact bin_sub | refine' evs_cons ?_ ?_ | refine' ev_int1 ?_ | refine' ev_lenL ?_ | refine' ev_bin ?_ ?_ ?_ | refine' ev_ixG ?_ ?_ ?_ | refine' bin_mul ?_ | refine' bin_mod ?_ | refine' bin_div ?_ | refine' bin_pow ?_)
    all_goals omega
  · refine st_pset (m := q.r / n) (t := .fz) (s1 := tkS n x2 x3 (some (.int (q.r % n), false)) q) (q := q) ?_ rfl rfl rfl
    repeat' (first | exact ev_int | exact ev_bool | exact ev_non | exact ev_str | exact evs_nil | exact ev_var rfl | exact ev_own rfl | exact ev_pix rfl rfl rfl | exact bin_add | exact bin_sub | refine' evs_cons ?_ ?_ | refine' ev_int1 ?_ | refine' ev_lenL ?_ | refine' ev_bin ?_ ?_ ?_ | refine' ev_ixG ?_ ?_ ?_ | refine' bin_mul ?_ | refine' bin_mod ?_ | refine' bin_div ?_ | refine' bin_pow ?_)
    all_goals omega
theorem take_ok {n : Int} {p : Pn} {r : Int × Pn} (h : takeF n p = some r) : runF 5 ir_take [.dict [], .int n] (some p) = some ((.int r.1, false), some r.2) := by
  unfold takeF at h
  split at h
  case isFalse => cases h
  rename_i hh
  obtain ⟨h0, h1, h2, h3⟩ := hh
  by_cases hr : p.r < n
  · rw [if_pos hr] at h
    cases h
    have pre : ∀ {x : Int}, cellF p = x → St1 (.ite (.cmp .Lt (.var 2) (.blt .len (.cons (.pix 0 0) .nil))) (.cons (.set 3 (.ix (.pix 0 0) (.var 2))) .nil)
        (.cons (.ite (.cmp .Gt (.blt .len (.cons (.pix 0 0) .nil)) (.int 0)) (.cons (.set 3 (.bin .Mod (.blt .int (.cons (.ix (.pix 0 0) (.bin .Mod (.blt .int (.cons (.bin .Add (.bin .Mult (.var 2) (.int 5)) (.int 3)) .nil)) (.blt .len (.cons (.pix 0 0) .nil)))) .nil)) (.bin .Add (.bin .Pow (.int 10) (.int 17)) (.var 2)))) .nil) .nil) .nil))
        (tkS n (some (.int p.a, false)) (some (.int 0, false)) none p) .nx (tkS n (some (.int p.a, false)) (some (.int x, false)) none p) := by
      intro x hx
      unfold cellF at hx
      have el : ((p.cells.map PyData.int).length : Int) = (p.cells.length : Int) := by rw [List.length_map]
      by_cases ha : p.a < p.cells.length
      · rw [if_pos ha] at hx
        refine (st_iteT (s1 := tkS n (some (.int p.a, false)) (some (.int 0, false)) none p) (evb_of (ev_cmp (k := true) (ev_var rfl) (ev_lenL (ev_pix rfl rfl rfl)) ?_)) (ss_cons (s1 := tkS n (some (.int p.a, false)) (some (.int x, false)) none p) ?_ ss_nil))
        · rw [cmp_lt, el, decide_eq_true ha]
        · refine st_set (d := .int x) (t := .fz) (s1 := tkS n (some (.int p.a, false)) (some (.int 0, false)) none p) ?_ rfl
          rw [← hx]
          exact ev_ixG (ev_pix rfl rfl rfl) (ev_var rfl) (ix_cells h2 ha)
      · rw [if_neg ha] at hx
        refine (st_iteF (s1 := tkS n (some (.int p.a, false)) (some (.int 0, false)) none p) (evb_of (ev_cmp (k := false) (ev_var rfl) (ev_lenL (ev_pix rfl rfl rfl)) ?_)) (ss_cons (s1 := tkS n (some (.int p.a, false)) (some (.int x, false)) none p) ?_ ss_nil))
        · rw [cmp_lt, el, decide_eq_false ha]
        · by_cases hz : 0 < p.cells.length
          · rw [if_pos hz] at hx
            refine st_iteT (s1 := tkS n (some (.int p.a, false)) (some (.int 0, false)) none p) (evb_of (ev_cmp (k := true) (ev_lenL (ev_pix rfl rfl rfl)) ev_int ?_)) (ss_cons (s1 := tkS n (some (.int p.a, false)) (some (.int x, false)) none p) ?_ ss_nil)
            · rw [cmp_gt, el, decide_eq_true (by omega)]
            · refine st_set (d := .int x) (t := .fz) (s1 := tkS n (some (.int p.a, false)) (some (.int 0, false)) none p) ?_ rfl
              rw [← hx]
              have z1 := Int.emod_nonneg (p.a * 5 + 3) (show (p.cells.length : Int) ≠ 0 by omega)
              have z2 := Int.emod_lt_of_pos (p.a * 5 + 3) (show (0 : Int) < (p.cells.length : Int) by omega)
              have e0 : Ev1 (.blt .len (.cons (.pix 0 0) .nil)) (tkS n (some (.int p.a, false)) (some (.int 0, false)) none p) (.int (p.cells.length : Int)) .fz (tkS n (some (.int p.a, false)) (some (.int 0, false)) none p) := by
                rw [← el]; exact ev_lenL (ev_pix rfl rfl rfl)
              have e1 : Ev1 (.bin .Add (.bin .Mult (.var 2) (.int 5)) (.int 3)) (tkS n (some (.int p.a, false)) (some (.int 0, false)) none p) (.int (p.a * 5 + 3)) .fz (tkS n (some (.int p.a, false)) (some (.int 0, false)) none p) :=
                ev_bin (ev_bin (ev_var rfl) ev_int (bin_mul (by omega))) ev_int bin_add
              have e2 : Ev1 (.bin .Add (.bin .Pow (.int 10) (.int 17)) (.var 2)) (tkS n (some (.int p.a, false)) (some (.int 0, false)) none p) (.int (10 ^ 17 + p.a)) .fz (tkS n (some (.int p.a, false)) (some (.int 0, false)) none p) :=
                ev_bin (ev_bin ev_int ev_int (bin_pow (by decide))) (ev_var rfl) bin_add
              exact ev_bin (ev_int1 (ev_ixG (ev_pix rfl rfl rfl) (ev_bin (ev_int1 e1) e0 (bin_mod (by omega))) (ix_cells z1 z2))) e2 (bin_mod (by omega))
          · rw [if_neg hz] at hx
            subst hx
            refine st_iteF (s1 := tkS n (some (.int p.a, false)) (some (.int 0, false)) none p) (evb_of (ev_cmp (k := false) (ev_lenL (ev_pix rfl rfl rfl)) ev_int ?_)) ss_nil
            rw [cmp_gt, el, decide_eq_false (by omega)]
    refine Eq.trans (run_of (d := .int (spreadF (cellF p) p.a % n)) (fr := false) (s1 := tkS n (some (.int p.a, false)) (some (.int (cellF p), false)) (some (.int (spreadF (cellF p) p.a % n), false)) ⟨p.cells, p.a + 1, spreadF (cellF p) p.a / n⟩)
      (ss_cons (s1 := tkS n (some (.int p.a, false)) (some (.int (cellF p), false)) none ⟨p.cells, p.a + 1, spreadF (cellF p) p.a⟩) (st_iteT (s1 := tkS n none none none p) (evb_of (ev_cmp (k := true) (ev_pix rfl rfl rfl) (ev_var rfl) ?_)) ?_) (tail_ok h0 h1))) rfl
    · rw [cmp_lt, decide_eq_true hr]
    · refine ss_cons (s1 := tkS n (some (.int p.a, false)) none none p) (st_set (d := .int p.a) (t := .fz) (s1 := tkS n none none none p) (ev_pix rfl rfl rfl) rfl) ?_
      refine ss_cons (s1 := tkS n (some (.int p.a, false)) (some (.int 0, false)) none p) (st_set (d := .int 0) (t := .fz) (s1 := tkS n (some (.int p.a, false)) none none p) ev_int rfl) ?_
      refine ss_cons (s1 := tkS n (some (.int p.a, false)) (some (.int (cellF p), false)) none p) (pre rfl) ?_
      refine ss_cons (s1 := tkS n (some (.int p.a, false)) (some (.int (cellF p), false)) none ⟨p.cells, p.a + 1, p.r⟩) (st_pset (m := p.a + 1) (t := .fz) (s1 := tkS n (some (.int p.a, false)) (some (.int (cellF p), false)) none p) (q := p) (ev_bin (ev_var rfl) ev_int bin_add) rfl rfl rfl) ?_
      refine ss_cons (s1 := tkS n (some (.int p.a, false)) (some (.int (cellF p), false)) none ⟨p.cells, p.a + 1, spreadF (cellF p) p.a⟩) ?_ ss_nil
      exact st_pset (m := spreadF (cellF p) p.a) (t := .fz) (s1 := tkS n (some (.int p.a, false)) (some (.int (cellF p), false)) none ⟨p.cells, p.a + 1, p.r⟩) (q := ⟨p.cells, p.a + 1, p.r⟩)
        (ev_callS (evs_cons (ev_var rfl) (evs_cons (ev_var rfl) evs_nil)) (spread_ok (cellF p) p.a h2 h3 (some ⟨p.cells, p.a + 1, p.r⟩)) rfl) rfl rfl rfl
  · rw [if_neg hr] at h
    cases h
    refine run_of (s1 := tkS n none none (some (.int (p.r % n), false)) ⟨p.cells, p.a, p.r / n⟩) (ss_cons (s1 := tkS n none none none p) (st_iteF (s1 := tkS n none none none p) (evb_of (ev_cmp (k := false) (ev_pix rfl rfl rfl) (ev_var rfl) ?_)) ss_nil) (tail_ok h0 h1))
    rw [cmp_lt, decide_eq_false hr]
end Fs

set_option Elab.async false
set_option linter.all false
set_option maxRecDepth 100000
set_option maxHeartbeats 8000000
namespace Fs
open PySem L2
theorem spF_imp {F F' : Fn} {n : Nat} (h : ∀ ds p r, F ds p = some r → F' ds p = some r) {vs : List V} {H : Hp} {Q : VK} (q : spF F n vs H Q) : spF F' n vs H Q := by
  obtain ⟨pa, G, ds, p, d, fr, p1, h1, h2, h3, h4, h5, h6⟩ := q
  exact ⟨pa, G, ds, p, d, fr, p1, h1, h2, h3, h4, h _ _ _ h5, h6⟩
theorem FTake_run : ∀ ds p r, FTake ds p = some r → runF 5 ir_take ds p = some r := by
  intro ds p r h
  unfold FTake at h
  split at h
  · obtain ⟨x, h1, h2⟩ := Option.map_eq_some_iff.mp h
    cases h2
    exact take_ok h1
  · cases h
theorem takeF_in {n : Int} {p : Pn} {r : Int × Pn} (h : takeF n p = some r) : 0 ≤ r.1 ∧ r.1 < n := by
  unfold takeF at h
  split at h
  · rename_i hh
    cases h
    exact ⟨Int.emod_nonneg _ (by omega), Int.emod_lt_of_pos _ hh.1⟩
  · cases h
theorem one_out {x y : D} {p : Option Pn} {d : D} {p1 : Option Pn} (h : oneF x y p = some (d, p1)) : ∃ q ys r, x = .dict [] ∧ p = some q ∧ itemsD y = some ys ∧ takeF ys.length q = some r ∧ ys[r.1.toNat]? = some d ∧ p1 = some r.2 := by
  unfold oneF at h
  split at h
  · obtain ⟨ys, h1, h⟩ := Option.bind_eq_some_iff.mp h
    obtain ⟨r, h2, h⟩ := Option.bind_eq_some_iff.mp h
    obtain ⟨d', h3, h⟩ := Option.map_eq_some_iff.mp h
    cases h
    exact ⟨_, ys, r, rfl, rfl, h1, h2, h3, rfl⟩
  · cases h
abbrev nOne (y : Str) : List Str := ["_law_pen", y]
theorem gfn_one {yn : Str} {W : Wd} {k : Nat} {f : Addr} {name qual : Str} {params : Arguments} {body : List Stmt} {scope : Scope} {dV kV doc pm cdv ct oc : Value} {an od : Option Addr} {osl : Array (Option Value)} (E : Em)
    (lk : W.K.lookup f = some ⟨oc, od, .func (PySem.W.fnOf name qual params body scope dV kV doc pm an cdv ct), osl⟩)
    (hcd : PySem.W.codeIn W.K cdv qual = true) (sc : FnScope (nOne yn) (nOne yn) scope) (bl : ∀ x, x ∈ bnames → W.mg x = none)
    (he : (emSs (nOne yn) ir_one E).1 = body) (ok : okSs (nOne yn) scope ir_one E = true) (tk : Call1 W k "_law_take" 2 (spF FTake 2)) :
    GFn W (k + 1) f (PySem.W.fnOf name qual params body scope dV kV doc pm an cdv ct) (nOne yn) spOne := by
  subst he
  refine gfn_of lk hcd sc (fun vs H Q h => ?_) fun A outer s H vs Q room hgd promise => ?_
  · obtain ⟨pa, G, v, w, x, y, p, d, p1, rfl, _⟩ := h
    rfl
  · have C : Cd (gx W (nOne yn) qual scope f cdv A outer s H) (nOne yn) scope k := ⟨rfl, sc.nd, rfl, rfl, room, hgd, bl⟩
    have C' : Cd (gx W (nOne yn) qual scope f cdv A outer s H) (gx W (nOne yn) qual scope f cdv A outer s H).N scope k := C
    unfold ir_one at ok
    rw [okSs, okS, okE, okE, okE] at ok
    obtain ⟨ok, _⟩ := and1 ok
    obtain ⟨o1, ok⟩ := and1 ok
    obtain ⟨o2, ok⟩ := and1 ok
    obtain ⟨o3, _⟩ := and1 ok
    rw [okEs, okE, okEs] at o2
    obtain ⟨o4, o2⟩ := and1 o2
    obtain ⟨o2, _⟩ := and1 o2
    rw [okE] at o2
    · obtain ⟨o5, o6⟩ := and1 o2
      rw [okEs] at o5
      obtain ⟨o5, _⟩ := and1 o5
      rw [okE] at o5
      obtain ⟨ft, fdt, pst, Gt, hm, hk, hb⟩ := tk
      have pl : ∀ p1 p2 p3 : Pos, PE (gx W (nOne yn) qual scope f cdv A outer s H) (.Call (.Name "len" p1) [.Name (nm (nOne yn) 1) p2] [] p3) (tCB (rBlt .len) (tCons (tVar 1) tNil)) := fun p1 p2 p3 =>
        pe_callB b_len (gl_of C o6).1 (C.no _) PySem.boot_len (pa_cons (pv C' o5) pa_nil (by rfl)) (by decide) (gl_of C o6).2 (by rfl) (by rfl)
      have pt : ∀ p1 p2 p3 p4 p5 p6 : Pos, PE (gx W (nOne yn) qual scope f cdv A outer s H) (.Call (.Name "_law_take" p1) [.Name (nm (nOne yn) 0) p2, .Call (.Name "len" p3) [.Name (nm (nOne yn) 1) p4] [] p5] [] p6)
          (fun σ H Q => tCons (tVar 0) (tCons (tCB (rBlt .len) (tCons (tVar 1) tNil)) tNil) σ H fun vs H1 => spF FTake 2 vs H1 Q) := fun p1 p2 p3 p4 p5 p6 =>
        pe_gcall Gt C.room C.gd (gl_of C o3).1 hm hk hb (pa_cons (pv C' o4) (pa_cons (pl _ _ _) pa_nil (by rfl)) (by rfl)) (gl_of C o3).2 (by rfl) (by rfl)
      refine ⟨_, pss_cons (ps_ret (pe_ix ix_D (pv C' o1) (pt _ _ _ _ _ _) (fun _ _ => rfl))) pss_nil, ?_⟩
      obtain ⟨pa, G, v, w, x, y, p, d, p1, rfl, gh, hp, rx, ry, np, ho, kk⟩ := promise
      obtain ⟨q, ys, r, rfl, rfl, hi, ht, hd, rfl⟩ := one_out ho
      have hl : bltD .len [y] = some (.int ys.length, false) := by
        cases y <;> first | (cases hi; rfl) | cases hi
      refine ⟨w, rfl, v, rfl, w, rfl, pa, G, [y], .int ys.length, false, gh, ⟨ry, trivial⟩, hl, fun u H1 res => ?_⟩
      obtain ⟨k1, res⟩ := res
      have hu : u = .int ys.length := by
        rcases res with ⟨_, r | ⟨_, _, _, _, e, _⟩⟩ | ⟨z, _⟩
        · cases r; rfl
        · cases e
        · cases z
      subst hu
      have hv : Rp pa G v (.dict []) := rx
      refine ⟨pa, G, [.dict [], .int ys.length], some q, .int r.1, false, some r.2, rfl, gh.trans k1, hp.heap k1, .cons hv (.cons (.int _) .nil), ?_, fun u H2 G1 kept g1 g2 nw hp2 res2 => ?_⟩
      · show (takeF ys.length q).map _ = _
        rw [ht]; rfl
      · rw [if_neg (by decide)] at res2
        have hu2 : u = .int r.1 := by cases res2; rfl
        subst hu2
        have gH2 : Sub G H2 := g1.trans g2
        have ry2 : RpT pa G H2 w y := by
          cases y with
          | list ds =>
            obtain ⟨b, xs, rfl, hb2, rb⟩ := ry.lst
            exact ⟨b, xs, rfl, kept b _ (k1 b _ hb2) (np b rfl), rb⟩
          | tuple ds => exact ry
          | _ => cases hi
        have ri := takeF_in ht
        have hix : ixD y (.int r.1) = some d := by
          have e1 := L2.atI_nat hd
          have e2 : ((r.1.toNat : Nat) : Int) = r.1 := by omega
          rw [e2] at e1
          cases y <;> first | (cases hi; exact e1) | cases hi
        refine ⟨pa, G, y, .int r.1, d, gH2, ry2, (show Rp pa G (.int r.1) (.int r.1) from .int _), hix, fun z rz => ?_⟩
        exact kk z H2 (fun a o h n => kept a o (k1 a o h) n) (hp2.back (hp.heap k1) g1) rz
    all_goals first | (intro z; cases z; done) | (intro m z; cases z; done)
end Fs

set_option Elab.async false
set_option linter.all false
set_option maxRecDepth 100000
set_option maxHeartbeats 8000000
namespace Fs
open PySem L2
theorem for_core (K : PySem.W.Frag) {pr : Bool} {tg : Tr} (hb : pr = true → tg.isT = true) {body : ISs} {J : It} {items : List D} {pa : PA} {H0 G0 G' H1 : Hp} {σ : L2.St} {s1 sE : S} {fl : Fl} {Ds : Ends} (S' : Sim pa H0 G0 G' σ H1 s1) (ok : SrF pr pa G' items J)
    (ev : fGo tg (evalSs body) items s1 = some (fl, sE)) (post : SPost pa H0 G0 G' fl sE Ds) :
    ∃ W : Nat → Nat → L2.St → Hp → Prop, (∃ m, W 0 m σ H1) ∧ ∀ i m σ H, W i m σ H →
      (J.stop i H ∧ Ds.nx σ H) ∨ (J.go i H ∧ ∃ Nn : L2.St → Hp → Prop, (∀ σ' H', Nn σ' H' → ∃ m', m' < m ∧ W (i + 1) m' σ' H') ∧ ∀ x H', J.yld i H x H' → tTr K tg x σ H' fun σ2 H2 => tF (evalSs body) { Ds with nx := Nn, ct := Nn, bk := Ds.nx } σ2 H2) := by
  obtain ⟨Gd, Y, w, hg, hy⟩ := ok
  refine for_it w (fun i σ' H' => ∃ G2 s2, Sub G' G2 ∧ Sim pa H0 G0 G2 σ' H' s2 ∧ fGo tg (evalSs body) (items.drop i) s2 = some (fl, sE)) ⟨G', s1, .refl, S', ev⟩ ?_ ?_ ?_
  · rintro i σ' H' _ ⟨G2, s2, u, S2, _⟩
    exact hg H' (u.trans S2.sub)
  · rintro i x σ' H' H'' hi ⟨G2, s2, u, S2, e⟩ y
    obtain ⟨d2, hd, res⟩ := hy i H' x H'' hi (hg H' (u.trans S2.sub)) y
    have edrop : items.drop i = d2 :: items.drop (i + 1) := by
      obtain ⟨hlt, e⟩ := List.getElem?_eq_some_iff.mp hd
      rw [List.drop_eq_getElem_cons hlt, e]
    rw [edrop, fGo] at e
    obtain ⟨sb, eb, e⟩ := obind e
    obtain ⟨⟨f, s3⟩, e2, e⟩ := obind e
    dsimp only at e
    refine item_ok K hb S2 (res.mono u) eb fun Gb σ3 Eb S3 _ _ _ _ => ⟨pa, H0, G0, Gb, sb, f, s3, S3, e2, ?_⟩
    have ub := u.trans Eb.gk
    cases f with
    | nx => exact fun σ4 H4 G4 k S4 => ⟨G4, s3, ub.trans k, S4, e⟩
    | cont => exact fun σ4 H4 G4 k S4 => ⟨G4, s3, ub.trans k, S4, e⟩
    | brk => cases e; exact fun σ4 H4 G4 k S4 => post σ4 H4 G4 (ub.trans k) S4
    | ret d fr => cases e; exact fun v σ4 H4 G4 k S4 r => post v σ4 H4 G4 (ub.trans k) S4 r
  · rintro σ' H' ⟨G2, s2, u, S2, e⟩
    rw [List.drop_length, fGo] at e
    cases e
    exact post σ' H' G2 u S2

def spOpen (K : PySem.W.Frag) : GSp := fun vs H Q => ∃ (a : Addr) (ns : List Int), vs = [.ref a] ∧ SqL K H a (ns.map V.int) ∧
  ∀ (H1 : Hp) (p c : Addr) (cells : List Int), Sub H H1 → H1 p = some (.lst [.ref c, .int 0, .int 0]) → H1 c = some (.lst (cells.map V.int)) → c ≠ p → Q (.ref p) H1
def spLaw (K : PySem.W.Frag) : GSp := fun vs H Q => ∃ (a : Addr) (ns : List Int), vs = [.ref a] ∧ SqL K H a (ns.map V.int) ∧ TabsL lawTabs H ∧ ∀ H', Q (.bl true) H'
def FNo : Fn := fun _ _ => none
def lawS (n : Nat) (p : Pn) : S := ⟨none :: some (.dict [], false) :: List.replicate (n - 2) none, some p⟩
theorem tab_apart {T : List NdefX.NTab} {H1 : Hp} {t : NdefX.NTab} {p c : Addr} {xs ys : List V} (hT : TabsL T H1) (ht : t ∈ T) (hp : H1 p = some (.lst xs)) (hc : H1 c = some (.lst ys)) : upd (fun _ => none) c (HO.lst ys) t.1 = none ∧ t.1 ≠ p := by
  obtain ⟨ps, e, _⟩ := hT.2 t ht
  have n1 : t.1 ≠ c := fun z => by rw [z, hc] at e; cases e
  refine ⟨by rw [upd_ne n1], fun z => ?_⟩
  rw [z, hp] at e; cases e
theorem gfn_law {W : Wd} {k : Nat} {f : Addr} {name qual : Str} {params : Arguments} {body : List Stmt} {scope : Scope} {dV kV doc pm cdv ct oc : Value} {an od : Option Addr} {osl : Array (Option Value)} {N : List Str} {x0 : Str} (rest : ISs) (E : Em)
    (lk : W.K.lookup f = some ⟨oc, od, .func (PySem.W.fnOf name qual params body scope dV kV doc pm an cdv ct), osl⟩)
    (hcd : PySem.W.codeIn W.K cdv qual = true) (sc : FnScope N [x0] scope) (bl : ∀ x, x ∈ bnames → W.mg x = none) (h2 : 2 ≤ N.length)
    (he : (emSs N (.cons (.set 1 (.call "_law_open" FNo (.cons (.var 0) .nil))) rest) E).1 = body)
    (ok : okSs N scope (.cons (.set 1 (.call "_law_open" FNo (.cons (.var 0) .nil))) rest) E = true)
    (opn : Call1 W k "_law_open" 1 (spOpen W.K)) (ask : askSs (askOf W k) rest)
    (hlaw : ∀ cells : List Int, ∃ s1, evalSs rest (lawS N.length ⟨cells, 0, 0⟩) = some (.ret (.bool true) false, s1)) :
    GFn W (k + 1) f (PySem.W.fnOf name qual params body scope dV kV doc pm an cdv ct) [x0] (spLaw W.K) := by
  subst he
  refine gfn_of lk hcd sc (fun vs H Q h => ?_) fun A outer s H vs Q room hgd promise => ?_
  · obtain ⟨a, ns, rfl, _⟩ := h
    rfl
  · have C : Cd (gx W N qual scope f cdv A outer s H) (gx W N qual scope f cdv A outer s H).N scope k := ⟨rfl, sc.nd, rfl, rfl, room, hgd, bl⟩
    have B : Bd (gx W N qual scope f cdv A outer s H) := bd0 rfl fun _ => rfl
    rw [okSs, okS, okE, okEs, okE] at ok
    obtain ⟨ok, okr⟩ := and1 ok
    obtain ⟨ok, o2⟩ := and1 ok
    obtain ⟨o2, _⟩ := and1 o2
    obtain ⟨ok, o3⟩ := and1 ok
    obtain ⟨o3, _⟩ := and1 o3
    obtain ⟨o1, _⟩ := and1 ok
    obtain ⟨l1, l2⟩ := loc_of o2
    obtain ⟨ft, fdt, pst, Gt, hm, hk, hb⟩ := opn
    have pt : ∀ p1 p2 p3 : Pos, PE (gx W N qual scope f cdv A outer s H) (.Call (.Name "_law_open" p1) [.Name (nm N 0) p2] [] p3) (fun σ H Q => tCons (tVar 0) tNil σ H fun vs H1 => spOpen W.K vs H1 Q) := fun p1 p2 p3 =>
      pe_gcall Gt C.room C.gd (gl_of C o3).1 hm hk hb (pa_cons (pv C o1) pa_nil (by rfl)) (gl_of C o3).2 (by rfl) (by rfl)
    refine ⟨_, pss_cons (ps_set C.nd l1 l2 (pt _ _ _) (by rfl) (.inl rfl)) (sSs rest C B okr ask), ?_⟩
    obtain ⟨a, ns, rfl, hS, hT, kk⟩ := promise
    refine ⟨.ref a, rfl, a, ns, rfl, hS, fun H1 p c cells u hp hc hne => ?_⟩
    have hT := tabs_sub hT u
    obtain ⟨s1, hev⟩ := hlaw cells
    refine ⟨some (p, c, lawTabs), H1, upd (fun _ => none) c (.lst (cells.map V.int)), upd (fun _ => none) c (.lst (cells.map V.int)), lawS N.length ⟨cells, 0, 0⟩, _, s1, ?_, hev, ?_⟩
    · have gp : upd (fun _ => none) c (HO.lst (cells.map V.int)) p = none := by rw [upd_ne (Ne.symm hne)]
      have sl : ∀ {i : Nat} {d : D} {fl : Bool}, (lawS N.length ⟨cells, 0, 0⟩).sl[i]? = some (some (d, fl)) → i = 1 ∧ d = .dict [] ∧ fl = false := by
        intro i d fl h
        have h : (none :: some (PyData.dict [], false) :: List.replicate (N.length - 2) none)[i]? = some (some (d, fl)) := h
        match i, h with
        | 0, h => cases h
        | 1, h => cases h; exact ⟨rfl, rfl, rfl⟩
        | i + 2, h =>
          rw [List.getElem?_cons_succ, List.getElem?_cons_succ, List.getElem?_replicate] at h
          split at h <;> cases h
      refine ⟨?_, fun b o h => ?_, .refl, fun b o h => .inl h, fun b o h _ => h, ⟨hne, hp, upd_same, gp, hT, fun t ht => tab_apart hT ht hp hc⟩, fun i d h => ?_, fun i d h => ?_, fun i j d e b h => ?_⟩
      · show ((L2.start N [.ref a]).set 1 _).length = (none :: some (PyData.dict [], false) :: List.replicate (N.length - 2) none).length
        unfold L2.start
        simp only [List.length_set, List.length_append, List.length_map, List.length_replicate, List.length_cons, List.length_nil]
        omega
      · by_cases z : b = c
        · subst z; rw [upd_same] at h; cases h; exact hc
        · rw [upd_ne z] at h; cases h
      · obtain ⟨rfl, rfl, _⟩ := sl h
        refine ⟨.ref p, ?_, .pen rfl⟩
        rw [List.getElem?_set_self]
        unfold L2.start
        simp only [List.length_append, List.length_map, List.length_replicate, List.length_cons, List.length_nil]
        omega
      · obtain ⟨_, _, z⟩ := sl h
        cases z
      · obtain ⟨_, _, z⟩ := sl h
        cases z
    · intro v σ1 H2 G1 _ _ r
      have r : Rp _ G1 v (.bool true) := r
      cases r
      exact kk H2
end Fs

set_option Elab.async false
set_option linter.all false
set_option maxRecDepth 100000
set_option maxHeartbeats 8000000
namespace Fs
open PySem L2
abbrev nOpen : List Str := ["_law_script", "_law_cells", "_law_k", "_law_cell"]
def opS (cs : List Int) (x2 x3 : Option (D × Bool)) : S := ⟨[none, some (.list (cs.map .int), true), x2, x3], none⟩
theorem ixN_small {n : Nat} {i : Int} (h0 : 0 ≤ i) (h1 : i < n) : ixN n i = some i.toNat := by
  unfold ixN
  rw [if_pos h0, if_pos h1]
theorem st_setIx {s s1 s2 : S} {d : D} {t t2 : Tg} {i j : Nat} {kx e : IE} {n : Int} {xs : List D} {p0 : D × Bool} (h0 : rd s i = some p0) (h1 : Ev1 e s d t s1) (h2 : Ev1 kx (s1.keep t) (.int n) t2 s2)
    (h3 : rd s2 i = some (.list xs, true)) (h4 : ixN xs.length n = some j) : St1 (.setIx i kx e) s .nx (s2.put i (.list (xs.set j d), true)) := by
  rw [St1, evalS, h0]
  show (evalE e s >>= _) = _
  rw [h1]
  show (evalE kx (s1.keep t) >>= _) = _
  rw [h2]
  show (match rd s2 i, PyData.int n with
    | some (.list xs, true), .int n => (ixN xs.length n).map fun j => (Fl.nx, s2.put i (.list (xs.set j d), true))
    | _, _ => none) = _
  rw [h3]
  show (ixN xs.length n).map _ = _
  rw [h4]; rfl
theorem turn_ev (cs : List Int) (h : cs.length = 12) (k : Nat) (z : Int) :
    ∃ cs' : List Int, cs'.length = 12 ∧ evalSs ir_turn (opS cs (some (.int k, false)) (some (.int z, false))) = some (.nx, opS cs' (some (.int k, false)) (some (.int z, false))) := by
  have m0 := Int.emod_nonneg (k : Int) (show (12 : Int) ≠ 0 by decide)
  have m1 := Int.emod_lt_of_pos (k : Int) (show (0 : Int) < 12 by decide)
  have hl : (((k : Int) % 12) : Int) < cs.length := by omega
  have e1 : ixD (.list (cs.map .int)) (.int ((k : Int) % 12)) = some (.int (cs.getD ((k : Int) % 12).toNat 0)) := ix_cells m0 hl
  have ek : Ev1 (.bin .Mod (.blt .int (.cons (.var 2) .nil)) (.int 12)) (opS cs (some (.int k, false)) (some (.int z, false))) (.int ((k : Int) % 12)) .fz (opS cs (some (.int k, false)) (some (.int z, false))) :=
    ev_bin (ev_int1 (ev_var rfl)) ev_int (bin_mod (by decide))
  have ee : Ev1 (.bin .Add (.ix (.var 1) (.bin .Mod (.blt .int (.cons (.var 2) .nil)) (.int 12))) (.var 3)) (opS cs (some (.int k, false)) (some (.int z, false))) (.int (cs.getD ((k : Int) % 12).toNat 0 + z)) .fz (opS cs (some (.int k, false)) (some (.int z, false))) :=
    ev_bin (ev_ixG (ev_own rfl) ek e1) (ev_var rfl) bin_add
  refine ⟨cs.set ((k : Int) % 12).toNat (cs.getD ((k : Int) % 12).toNat 0 + z), by rw [List.length_set]; exact h, ?_⟩
  refine ss_cons (s1 := opS (cs.set ((k : Int) % 12).toNat (cs.getD ((k : Int) % 12).toNat 0 + z)) (some (.int k, false)) (some (.int z, false))) ?_ ss_nil
  have q := st_setIx (i := 1) (s := opS cs (some (.int k, false)) (some (.int z, false))) (xs := cs.map .int) (j := ((k : Int) % 12).toNat) rfl ee ek rfl (by rw [List.length_map]; exact ixN_small m0 hl)
  rw [show (cs.map PyData.int).set ((k : Int) % 12).toNat (.int (cs.getD ((k : Int) % 12).toNat 0 + z)) = (cs.set ((k : Int) % 12).toNat (cs.getD ((k : Int) % 12).toNat 0 + z)).map PyData.int from List.map_set.symm] at q
  exact q
theorem turns_ev : ∀ (zs : List Int) (j : Nat) (cs : List Int) (x2 x3 : Option (D × Bool)), (zs = [] ∨ cs.length = 12) →
    ∃ (cs' : List Int) (y2 y3 : Option (D × Bool)), fGo (.t [2, 3]) (evalSs ir_turn) ((zs.map PyData.int).zipIdx j |>.map fun p => .tuple [.int (p.2 : Nat), p.1]) (opS cs x2 x3) = some (.nx, opS cs' y2 y3)
  | [], j, cs, x2, x3, _ => ⟨cs, x2, x3, by rw [List.map_nil, List.zipIdx_nil, List.map_nil, fGo]⟩
  | z :: zs, j, cs, x2, x3, h => by
    have h : cs.length = 12 := h.resolve_left (by simp)
    obtain ⟨cs1, h1, e1⟩ := turn_ev cs h j z
    obtain ⟨cs', y2, y3, e2⟩ := turns_ev zs (j + 1) cs1 (some (.int j, false)) (some (.int z, false)) (.inr h1)
    refine ⟨cs', y2, y3, ?_⟩
    rw [List.map_cons, List.zipIdx_cons, List.map_cons, fGo]
    show (S.bindT (opS cs x2 x3) (.t [2, 3]) (.tuple [.int (j : Nat), .int z]) >>= _) = _
    rw [show S.bindT (opS cs x2 x3) (.t [2, 3]) (.tuple [.int (j : Nat), .int z]) = some (opS cs (some (.int j, false)) (some (.int z, false))) from rfl]
    show (evalSs ir_turn (opS cs (some (.int j, false)) (some (.int z, false))) >>= _) = _
    rw [e1]
    exact e2
theorem cutV_ints (xs : List Int) (lo hi : Option Int) : cutV (xs.map V.int) lo hi = ((xs.drop (HT.sIx xs.length 0 lo)).take (HT.sIx xs.length xs.length hi - HT.sIx xs.length 0 lo)).map V.int := by
  unfold cutV
  rw [List.length_map, ← List.map_drop, ← List.map_take]
theorem sq_up {K : PySem.W.Frag} {H H' : Hp} {a : Addr} {xs : List V} (u : Sub H H') (h : SqL K H a xs) : SqL K H' a xs := by
  rcases h with (h | ⟨o, h⟩) | h
  · exact .inl (.inl (u _ _ h))
  · exact .inl (.inr ⟨o, u _ _ h⟩)
  · exact .inr h
theorem intsOf_map : ∀ l : List Int, intsOf (l.map .int) = some l
  | [] => rfl
  | n :: r => by
    show (intsOf (r.map .int)).map (n :: ·) = _
    rw [intsOf_map r]; rfl
theorem gfn_open {W : Wd} {k : Nat} {f : Addr} {name qual : Str} {params : Arguments} {body : List Stmt} {scope : Scope} {dV kV doc pm cdv ct oc : Value} {an od : Option Addr} {osl : Array (Option Value)} (E : Em)
    (lk : W.K.lookup f = some ⟨oc, od, .func (PySem.W.fnOf name qual params body scope dV kV doc pm an cdv ct), osl⟩)
    (hcd : PySem.W.codeIn W.K cdv qual = true) (sc : FnScope nOpen ["_law_script"] scope) (bl : ∀ x, x ∈ bnames → W.mg x = none)
    (he : (emSs nOpen ir_open E).1 = body) (ok : okSs nOpen scope ir_open E = true) :
    GFn W (k + 1) f (PySem.W.fnOf name qual params body scope dV kV doc pm an cdv ct) ["_law_script"] (spOpen W.K) := by
  subst he
  refine gfn_of lk hcd sc (fun vs H Q h => ?_) fun A outer s H vs Q room hgd promise => ?_
  · obtain ⟨a, ns, rfl, _⟩ := h
    rfl
  · have C : Cd (gx W nOpen qual scope f cdv A outer s H) (gx W nOpen qual scope f cdv A outer s H).N scope k := ⟨rfl, sc.nd, rfl, rfl, room, hgd, bl⟩
    have B : Bd (gx W nOpen qual scope f cdv A outer s H) := bd0 rfl fun _ => rfl
    unfold ir_open at ok
    rw [okSs, okSs, okSs] at ok
    obtain ⟨k1, ok⟩ := and1 ok
    obtain ⟨k2, ok⟩ := and1 ok
    obtain ⟨k3, _⟩ := and1 ok
    rw [okS] at k1
    rw [okS] at k2
    obtain ⟨k1, k4⟩ := and1 k1
    obtain ⟨k4, _⟩ := and1 k4
    obtain ⟨l1, l2⟩ := loc_of k4
    obtain ⟨k5, k2⟩ := and1 k2
    obtain ⟨k6, k2⟩ := and1 k2
    obtain ⟨_, k7⟩ := and1 k2
    rw [okSr] at k5
    obtain ⟨k5, k8⟩ := and1 k5
    rw [okE] at k5
    obtain ⟨k5, _⟩ := and1 k5
    rw [okE] at k5
    have glist : glB scope "list" = true := by
      rw [okE] at k1
      · exact (and1 k1).2
      all_goals first | (intro z; cases z; done) | (intro m z; cases z; done)
    have psl : ∀ (lo hi : Option Expr) (tl th : TO) (p1 p2 p3 : Pos), PO (gx W nOpen qual scope f cdv A outer s H) lo tl → PO (gx W nOpen qual scope f cdv A outer s H) hi th →
        PE (gx W nOpen qual scope f cdv A outer s H) (.Subscript (.Name (nm nOpen 0) p1) (.Slice lo hi none p2) p3) (tSl (rSlL W.K) (tVar 0) tl th) := fun lo hi tl th p1 p2 p3 h1 h2 =>
      pe_slice sl_list (pv C k5) h1 h2
    have ps1 : ∀ p1 p2 p3 p4 p5 p6 : Pos, PE (gx W nOpen qual scope f cdv A outer s H) (.Call (.Name "list" p1) [.Subscript (.Name (nm nOpen 0) p2) (.Slice none (some (.Constant (.int 12) 0 p3)) none p4) p5] [] p6) (tCB _ (tCons (tSl (rSlL W.K) (tVar 0) tNoPart (tPart (tC (.int 12)))) tNil)) := fun p1 p2 p3 p4 p5 p6 =>
      pe_callTy call_list_of (gl_of C glist).1 (C.no _) PyProof.Rows.boot_list (pa_cons (psl _ _ _ _ _ _ _ po_none (po_some pe_int)) pa_nil (by rfl)) (by decide) (gl_of C glist).2 (by rfl) (by rfl)
    have ps2 : ∀ (tgE : List Expr) (n : Nat) (p0 p1 p2 p3 p4 p5 p6 p7 : Pos), PI (gx W nOpen qual scope f cdv A outer s H) (.Tuple tgE n p0) (.Call (.Name "enumerate" p1) [.Subscript (.Name (nm nOpen 0) p2) (.Slice (some (.Constant (.int 12) 0 p3)) (some (.Constant (.int 63) 0 p4)) none p5) p6] [] p7)
        (iEnA W.K (tCons (tSl (rSlL W.K) (tVar 0) (tPart (tC (.int 12))) (tPart (tC (.int 63)))) tNil)) := fun tgE n p0 p1 p2 p3 p4 p5 p6 p7 =>
      pi_enA (gl_of C k8).1 (C.no _) (pa_cons (psl _ _ _ _ _ _ _ (po_some pe_int) (po_some pe_int)) pa_nil (by rfl)) (by rfl)
    refine ⟨_, pss_cons (ps_set C.nd l1 l2 (ps1 _ _ _ _ _ _) (by rfl) (.inl rfl)) (pss_cons (ps_for B.passes C.calm (ps2 _ _ _ _ _ _ _ _ _ _) (pg_tr C.nd C.calm (.t [2, 3]) _ (tg_of C B k6)) (sSs ir_turn C B k7 (by simp [ir_turn, askSs, askS, askE, askEs])) (by intro _; rfl)) (pss_cons (sS (.ret (.lst (.cons (.var 1) (.cons (.int 0) (.cons (.int 0) .nil))))) C B k3 (by simp [askS, askE, askEs])) pss_nil)), ?_⟩
    obtain ⟨a, ns, rfl, hS, kk⟩ := promise
    obtain ⟨c1, hc1⟩ : ∃ c1 : List Int, cutV (ns.map V.int) none (some 12) = c1.map V.int := ⟨_, cutV_ints _ _ _⟩
    obtain ⟨c2, hc2⟩ : ∃ c2 : List Int, cutV (ns.map V.int) (some 12) (some 63) = c2.map V.int := ⟨_, cutV_ints _ _ _⟩
    have hcase : c2 = [] ∨ c1.length = 12 := by
      have e1 := congrArg List.length hc1
      have e2 := congrArg List.length hc2
      rw [cutV_ints] at e1 e2
      simp only [List.length_map, List.length_take, List.length_drop] at e1 e2
      rw [show (12 : Int) = ((12 : Nat) : Int) from rfl, HT.sIx_nat, HT.sIx_none] at e1
      rw [show (12 : Int) = ((12 : Nat) : Int) from rfl, show (63 : Int) = ((63 : Nat) : Int) from rfl, HT.sIx_nat, HT.sIx_nat] at e2
      by_cases hz : c2.length = 0
      · exact .inl (List.length_eq_zero_iff.mp hz)
      · right; omega
    refine ⟨.ref a, rfl, 12, rfl, a, ns.map V.int, rfl, hS, fun p1 hp1 => ?_⟩
    rw [hc1]
    refine ⟨p1, c1.map V.int, rfl, .inl (.of upd_same), fun p2 hp2 => ?_⟩
    have u1 : Sub H (upd H p1 (.lst (c1.map V.int))) := .upd hp1
    have u2 : Sub H (upd (upd H p1 (.lst (c1.map V.int))) p2 (.lst (c1.map V.int))) := u1.trans (.upd hp2)
    refine ⟨.ref a, rfl, 12, rfl, 63, rfl, a, ns.map V.int, rfl, sq_up u2 hS, fun p3 hp3 => ?_⟩
    rw [hc2]
    refine ⟨p3, c2.map V.int, rfl, .inl ⟨.of upd_same, ?_⟩⟩
    have u3 := u2.trans (Sub.upd (o := .lst (c2.map V.int)) hp3)
    have n32 : p2 ≠ p3 := ne_of_none upd_same hp3
    have h3n : H p3 = none := by
      cases z : H p3 with
      | none => rfl
      | some o => rw [u2 _ _ z] at hp3; cases hp3
    have h2n : H p2 = none := by
      cases z : H p2 with
      | none => rfl
      | some o => rw [u1 _ _ z] at hp2; cases hp2
    obtain ⟨cs', y2, y3, hev⟩ := turns_ev c2 0 c1 none none hcase
    have sl : ∀ {i : Nat} {d : D} {fl : Bool}, (opS c1 none none).sl[i]? = some (some (d, fl)) → i = 1 ∧ d = .list (c1.map .int) ∧ fl = true := by
      intro i d fl h
      match i, h with
      | 0, h => cases h
      | 1, h => cases h; exact ⟨rfl, rfl, rfl⟩
      | 2, h => cases h
      | 3, h => cases h
      | i + 4, h => cases h
    have np : ∀ b, ¬ pen1 none b := fun b => pen1_no
    have S' : Sim none H (fun _ => none) (upd (fun _ => none) p3 (.lst (c2.map V.int))) ((L2.start nOpen [.ref a]).set 1 (some (.ref p2))) (upd (upd (upd H p1 (.lst (c1.map V.int))) p2 (.lst (c1.map V.int))) p3 (.lst (c2.map V.int))) (opS c1 none none) := by
      refine ⟨rfl, fun b o h => ?_, fun b o h => (by cases h), fun b o h => ?_, fun b o h _ => u3 b o h, trivial, fun i d h => ?_, fun i d h => ?_, fun i j d e b h h' _ _ => ?_⟩
      · by_cases z : b = p3
        · subst z; rw [upd_same] at h ⊢; exact h
        · rw [upd_ne z] at h; cases h
      · by_cases z : b = p3
        · subst z; exact .inr h3n
        · rw [upd_ne z] at h; cases h
      · obtain ⟨_, _, z⟩ := sl h
        cases z
      · obtain ⟨rfl, rfl, _⟩ := sl h
        exact ⟨p2, c1.map V.int, c1.map .int, rfl, rfl, by rw [upd_ne n32, upd_same], Rps.ofInts _, by rw [upd_ne n32], h2n, np _⟩
      · rw [(sl h).1, (sl h').1]
    refine for_core W.K (fun _ => rfl) S' (fsr_en W.K upd_same (Rps.ofInts c2)) hev ?_
    intro σ1 H1 G1 u S1
    refine ⟨none, H, _, G1, opS cs' y2 y3, .ret (.list [.list (cs'.map .int), .int 0, .int 0]) true, _, S1, st_retL (ev_lst (evs_cons (ev_own rfl) (evs_cons ev_int (evs_cons ev_int evs_nil)))), ?_⟩
    intro v σ2 H4 G4 _ S4 r
    obtain ⟨b, xs, es, rfl, e, hb, rb, gb, _, _⟩ := r
    cases e
    match xs, rb with
    | [x, y, z], .cons r1 (.cons r2 (.cons r3 .nil)) =>
      cases r1 with
      | lst hc rc =>
        rename_i c zs
        cases r2
        cases r3
        have ez : zs = cs'.map V.int := rc.ints (intsOf_map cs')
        subst ez
        exact kk H4 b c cs' (fun d o h => S4.kee d o h (np d)) hb (S4.sub _ _ hc) (fun z => by rw [z, gb] at hc; cases hc)
end Fs

set_option Elab.async false
set_option linter.all false
set_option maxRecDepth 100000
set_option maxHeartbeats 8000000
namespace Fs
open PySem L2
structure DefAt (K : PySem.W.Frag) (mg : Str → Option Value) (x : Str) (st : Stmt) : Prop where
  of : ∃ f fd, mg x = some (.ref f) ∧ L2.Fun K x x st f fd
theorem defAt_mk {K : PySem.W.Frag} {h : Heap} {mg : Str → Option Value} (X : K.In h) (G : h.Ns mainGlobals mg) {x : Str} {st : Stmt} {f : Addr} {oc : Value} {od an : Option Addr} {osl : Array (Option Value)} {kV doc pm cdv ct : Value}
    (a : PySem.W.nsIn K mainGlobals x = some (some (.ref f))) (l : K.lookup f = some ⟨oc, od, .func (PySem.W.fnOf x x (defArgs st) (defBody st) (defScope st) .none kV doc pm an cdv ct), osl⟩)
    (c : PySem.W.codeIn K cdv x = true) (k : PySem.W.keepIn K (.ref f) = true) : DefAt K mg x st := ⟨f, _, PySem.W.mg_of X G a, fun_mk l c k⟩
theorem Call1.mono {W : Wd} {j k : Nat} {x : Str} {n : Nat} {sp : GSp} (c : Call1 W j x n sp) (h : j ≤ k) : Call1 W k x n sp := by
  obtain ⟨⟨f, fd, ps, F, r⟩⟩ := c
  exact ⟨f, fd, ps, F.mono h, r⟩
abbrev BindsAt (x : Str) (st : Stmt) (ps : List Str) : Prop := ∀ (kV doc pm : Value) (an : Option Addr) (cdv ct : Value) (us : List Value), us.length = ps.length →
  bindArgs (PySem.W.fnOf x x (defArgs st) (defBody st) (defScope st) .none kV doc pm an cdv ct) ⟨us, []⟩ = pure (ps.zip us)
section
variable {W : Wd} {k : Nat} {x : Str} {st : Stmt} {N ps : List Str}
theorem def_at (d : DefAt W.K W.mg x st) (ir : ISs) (E : Em) (sc : FnScope N ps (defScope st)) (bl : ∀ x, x ∈ bnames → W.mg x = none) (he : (emSs N ir E).1 = defBody st) (ok : okSs N (defScope st) ir E = true)
    (ask : askSs (askOf W k) ir) (hb : BindsAt x st ps) : Call1 W (k + 1) x ps.length (spF (runF N.length ir) ps.length) := by
  obtain ⟨f, fd, hm, F⟩ := d.of
  have b := F.binds hb
  obtain ⟨oc, od, kV, doc, pm, an, cdv, ct, osl, rfl, lk, hcd⟩ := F.ex
  exact ⟨f, _, ps, def_of ir E lk hcd sc bl he ok ask, hm, F.kp, b⟩
theorem def_imp {n : Nat} {F F' : Fn} (h : ∀ ds p r, F ds p = some r → F' ds p = some r) (c : Call1 W k x n (spF F' n)) : Call1 W k x n (spF F n) := by
  obtain ⟨⟨f, fd, ps, G, r⟩⟩ := c
  exact ⟨f, fd, ps, G.imp fun vs H Q q => spF_imp h q, r⟩
theorem one_at {yn : Str} (d : DefAt W.K W.mg x st) (E : Em) (sc : FnScope (nOne yn) (nOne yn) (defScope st)) (bl : ∀ x, x ∈ bnames → W.mg x = none) (he : (emSs (nOne yn) ir_one E).1 = defBody st) (ok : okSs (nOne yn) (defScope st) ir_one E = true)
    (tk : Call1 W k "_law_take" 2 (spF FTake 2)) (hb : BindsAt x st (nOne yn)) : Call1 W (k + 1) x 2 spOne := by
  obtain ⟨f, fd, hm, F⟩ := d.of
  have b := F.binds hb
  obtain ⟨oc, od, kV, doc, pm, an, cdv, ct, osl, rfl, lk, hcd⟩ := F.ex
  exact ⟨f, _, (nOne yn), gfn_one E lk hcd sc bl he ok tk, hm, F.kp, b⟩
theorem open_at (d : DefAt W.K W.mg x st) (E : Em) (sc : FnScope nOpen ["_law_script"] (defScope st)) (bl : ∀ x, x ∈ bnames → W.mg x = none) (he : (emSs nOpen ir_open E).1 = defBody st) (ok : okSs nOpen (defScope st) ir_open E = true)
    (hb : BindsAt x st ["_law_script"]) : Call1 W (k + 1) x 1 (spOpen W.K) := by
  obtain ⟨f, fd, hm, F⟩ := d.of
  have b := F.binds hb
  obtain ⟨oc, od, kV, doc, pm, an, cdv, ct, osl, rfl, lk, hcd⟩ := F.ex
  exact ⟨f, _, ["_law_script"], gfn_open E lk hcd sc bl he ok, hm, F.kp, b⟩
end
theorem law_at {l : PySem.W.OpenLaw} {w : World} {K : PySem.W.Frag} {mg : Str → Option Value} {fa : Addr} {k : Nat} {st : Stmt} {N : List Str} {x0 : Str} (rest : ISs) (E : Em) (d : DefAt K mg "law" st) (hfa : mg "law" = some (.ref fa))
    (sc : FnScope N [x0] (defScope st)) (bl : ∀ x, x ∈ bnames → mg x = none) (h2 : 2 ≤ N.length)
    (he : (emSs N (.cons (.set 1 (.call "_law_open" FNo (.cons (.var 0) .nil))) rest) E).1 = defBody st)
    (ok : okSs N (defScope st) (.cons (.set 1 (.call "_law_open" FNo (.cons (.var 0) .nil))) rest) E = true)
    (parts : ∀ base : Heap, K.In base → base.Ns mainGlobals mg → Call1 ⟨l.prog, w, K, mg, base⟩ k "_law_open" 1 (spOpen K) ∧ askSs (askOf ⟨l.prog, w, K, mg, base⟩ k) rest)
    (hlaw : ∀ cells : List Int, ∃ s1, evalSs rest (lawS N.length ⟨cells, 0, 0⟩) = some (.ret (.bool true) false, s1))
    (hbind : ∀ (kV doc pm : Value) (an : Option Addr) (cdv ct u : Value), bindArgs (PySem.W.fnOf "law" "law" (defArgs st) (defBody st) (defScope st) .none kV doc pm an cdv ct) ⟨[u], []⟩ = pure [(x0, u)]) :
    ∃ fd : FuncData, (∀ (s : Shared) (u : Value), BindsTo s fd ⟨[u], []⟩ [(x0, u)]) ∧ ∀ base : Heap, K.In base → base.Ns mainGlobals mg → GFn ⟨l.prog, w, K, mg, base⟩ (k + 1) fa fd [x0] (spLaw K) := by
  obtain ⟨f, fd, hm, F⟩ := d.of
  rw [hfa] at hm
  cases hm
  obtain ⟨oc, od, kV, doc, pm, an, cdv, ct, osl, rfl, lk, hcd⟩ := F.ex
  refine ⟨PySem.W.fnOf "law" "law" (defArgs st) (defBody st) (defScope st) .none kV doc pm an cdv ct, fun s u => .of_eq (hbind kV doc pm an cdv ct u), fun base hK hN => ?_⟩
  obtain ⟨p1, p2⟩ := parts base hK hN
  exact gfn_law (W := ⟨l.prog, w, K, mg, base⟩) rest E lk hcd sc bl h2 he ok p1 p2 hlaw
theorem walk_law {l : PySem.W.OpenLaw} {k : Nat} {x0 : Str} {q : Program} {loose : List Str} {XP : (Str → Option Value) → Heap → Prop} {YP : World → Heap → Prop} {d : DefRec} {K : Params → PySem.W.Frag}
    (hn : l.most = some 63) (hdf : d.params.defaults = []) (room : Room k callerA) (hY : ∀ (w : World) (h : Heap), YP w h → (K w.params).In h)
    (F : ∀ (w : World) (mg : Str → Option Value) (fa : Addr) (h : Heap), (K w.params).In h → h.Ns mainGlobals mg → mg d.name = some (.ref fa) →
      ∃ fd : FuncData, (∀ (s : Shared) (u : Value), BindsTo s fd ⟨[u], []⟩ [(x0, u)]) ∧ ∀ base : Heap, (K w.params).In base → base.Ns mainGlobals mg → GFn ⟨l.prog, w, K w.params, mg, base⟩ k fa fd [x0] (spLaw (K w.params))) (h0 : lawTabs = [] := by unfold Fs.lawTabs; rfl) :
    PySem.W.WalkO q loose XP YP l.row.toRowW d [] (fun f vs => PySem.call f vs) :=
  gwalk_of (n := 63) (sp := fun w => spLaw (K w.params)) hn (by decide) hdf room rfl hY F fun w H a ns hl _ hS => ⟨a, ns, rfl, hS, ⟨rfl, by rw [h0]; exact fun t ht => absurd ht (by simp)⟩, fun _ => rfl⟩
theorem bl_mk {mg : Str → Option Value} (z_len : mg "len" = none) (z_all : mg "all" = none) (z_any : mg "any" = none) (z_sum : mg "sum" = none) (z_max : mg "max" = none) (z_min : mg "min" = none) (z_tuple : mg "tuple" = none) (z_list : mg "list" = none) (z_repr : mg "repr" = none) (z_int : mg "int" = none) (z_sorted : mg "sorted" = none) (z_set : mg "set" = none) (z_range : mg "range" = none) (z_enumerate : mg "enumerate" = none) (z_zip : mg "zip" = none) (z_isinstance : mg "isinstance" = none) (z_bool : mg "bool" = none) (z_str : mg "str" = none) : ∀ x, x ∈ bnames → mg x = none := by
  intro x hx
  unfold bnames at hx
  simp only [List.mem_cons, List.not_mem_nil, or_false] at hx
  rcases hx with rfl | rfl | rfl | rfl | rfl | rfl | rfl | rfl | rfl | rfl | rfl | rfl | rfl | rfl | rfl | rfl | rfl | rfl <;> assumption
end Fs

set_option Elab.async false
set_option linter.all false
set_option maxRecDepth 100000
set_option maxHeartbeats 8000000
namespace Fs
open PySem L2
/-- b draws are still allowed -/
def Bud (b : Int) (p : Pn) : Prop := 0 ≤ p.a ∧ 0 ≤ b ∧ p.a + b ≤ 1073741824
theorem Bud.less {b c : Int} {p : Pn} (h : Bud b p) (h0 : 0 ≤ c) (hc : c ≤ b) : Bud c p := ⟨h.1, h0, by have := h.2.2; omega⟩
section
variable {s s1 s2 : S} {d d1 d2 : D} {t t1 t2 : Tg} {a b e : IE}
theorem ev_one {x : Str} {pn : Option Pn} (h1 : Ev1 a s d1 t1 s1) (h2 : Ev1 b s1 d2 t2 s2) (h : oneF d1 d2 s2.pn = some (d, pn)) : Ev1 (.one x a b) s d .fz { s2 with pn := pn } := by
  rw [Ev1, evalE, h1]
  show (evalE b s1 >>= _) = _
  rw [h2]
  show (oneF d1 d2 s2.pn >>= _) = _
  rw [h]; rfl
theorem st_app {i : Nat} {xs : List D} {d0 : D} (h0 : rd s i = some (d0, true)) (h1 : Ev1 e s d t s1) (h2 : rd (s1.keep t) i = some (.list xs, true)) (h3 : xs.length < sizeLine) : St1 (.app i e) s .nx ((s1.keep t).put i (.list (xs ++ [d]), true)) := by
  rw [St1, evalS, h0]
  show (evalE e s >>= _) = _
  rw [h1]
  show (match true, rd (s1.keep t) i with
    | true, some (.list xs, true) => if xs.length < sizeLine then some (Fl.nx, (s1.keep t).put i (.list (xs ++ [d]), true)) else none
    | _, _ => none) = _
  rw [h2]
  show (if xs.length < sizeLine then _ else _) = _
  rw [if_pos h3]
end
end Fs

set_option Elab.async false
set_option linter.all false
set_option maxRecDepth 100000
set_option maxHeartbeats 8000000
namespace Fs
open PySem L2
theorem lcGo_by {fi : S → Option (Bool × S)} {fe : S → Option ((D × Tg) × S)} {tg : Tr} (P : Nat → List D → S → Prop) : ∀ (items : List D) (j : Nat) (acc : List D) (s : S), P j acc s →
    (∀ i x acc s, items[i]? = some x → P (j + i) acc s → ∃ sb b sc, s.bindT tg x = some sb ∧ fi sb = some (b, sc) ∧ (b = false → P (j + i + 1) acc (sc.wipe tg.slots)) ∧
      (b = true → ∃ d t sd, fe sc = some ((d, t), sd) ∧ P (j + i + 1) (acc ++ [d]) ((sd.keep t).wipe tg.slots))) → ∃ ds s2, lcGo fi fe tg items s = some (ds, s2) ∧ P (j + items.length) (acc ++ ds) s2
  | [], j, acc, s, h, _ => ⟨[], s, by rw [lcGo], by rw [List.append_nil]; exact h⟩
  | x :: xs, j, acc, s, h, step => by
    obtain ⟨sb, b, sc, e1, e2, hf, ht⟩ := step 0 x acc s rfl h
    have next : ∀ i y acc s, xs[i]? = some y → P (j + 1 + i) acc s → ∃ sb b sc, s.bindT tg y = some sb ∧ fi sb = some (b, sc) ∧ (b = false → P (j + 1 + i + 1) acc (sc.wipe tg.slots)) ∧
        (b = true → ∃ d t sd, fe sc = some ((d, t), sd) ∧ P (j + 1 + i + 1) (acc ++ [d]) ((sd.keep t).wipe tg.slots)) := fun i y acc s hy hp => by
      have q := step (i + 1) y acc s hy (by rw [show j + (i + 1) = j + 1 + i by omega]; exact hp)
      rw [show j + (i + 1) + 1 = j + 1 + i + 1 by omega] at q
      exact q
    cases b with
    | false =>
      obtain ⟨ds, s2, e3, h2⟩ := lcGo_by P xs (j + 1) acc _ (hf rfl) next
      refine ⟨ds, s2, ?_, by rw [List.length_cons, show j + (xs.length + 1) = j + 1 + xs.length by omega]; exact h2⟩
      rw [lcGo, e1]
      show (fi sb >>= _) = _
      rw [e2]
      exact e3
    | true =>
      obtain ⟨d, t, sd, e4, h3⟩ := ht rfl
      obtain ⟨ds, s2, e3, h2⟩ := lcGo_by P xs (j + 1) (acc ++ [d]) _ h3 next
      refine ⟨d :: ds, s2, ?_, by rw [List.length_cons, show j + (xs.length + 1) = j + 1 + xs.length by omega]; rw [List.append_assoc] at h2; exact h2⟩
      rw [lcGo, e1]
      show (fi sb >>= _) = _
      rw [e2]
      show (fe sc >>= _) = _
      rw [e4]
      show (lcGo fi fe tg xs ((sd.keep t).wipe tg.slots) >>= _) = _
      rw [e3]; rfl
end Fs

set_option Elab.async false
set_option linter.all false
set_option maxRecDepth 100000
set_option maxHeartbeats 8000000
namespace Fs
open PySem L2
section
variable {s s1 s2 s3 : S} {d d1 d2 d3 : D} {t t1 t2 t3 : Tg} {a b c e : IE} {es : IEs} {i j n : Nat} {fr : Bool}
theorem ev_iteT (h1 : EvB c s true s1) (h2 : Ev1 a s1 d t s2) : Ev1 (.ite c a b) s d t s2 := by
  rw [Ev1, evalE, h1]
  show (if true = true then evalE a s1 else evalE b s1) = _
  rw [if_pos rfl]; exact h2
theorem ev_iteF (h1 : EvB c s false s1) (h2 : Ev1 b s1 d t s2) : Ev1 (.ite c a b) s d t s2 := by
  rw [Ev1, evalE, h1]
  show (if false = true then evalE a s1 else evalE b s1) = _
  rw [if_neg (by decide)]; exact h2
theorem ev_not {k : Bool} (h1 : EvB a s k s1) : Ev1 (.not a) s (.bool (!k)) .fz s1 := by
  rw [Ev1, evalE, h1]; rfl
theorem ev_isN (h1 : Ev1 a s d t s1) : Ev1 (.isN a) s (.bool (isn d)) .fz s1 := by
  rw [Ev1, evalE, h1]
  cases d <;> rfl
theorem ev_notN (h1 : Ev1 a s d t s1) : Ev1 (.notN a) s (.bool (!isn d)) .fz s1 := by
  rw [Ev1, evalE, h1]
  cases d <;> rfl
theorem ev_isi {ty : Ty5} {k : Bool} (h1 : Ev1 a s d t s1) (h : isiD ty d = some k) : Ev1 (.isi a ty) s (.bool k) .fz s1 := by
  rw [Ev1, evalE, h1]
  show (isiD ty d >>= _) = _
  rw [h]; rfl
theorem sr_rngE {m : Int} (h1 : Ev1 a s (.int m) t1 s1) (h0 : -(2 ^ 62) ≤ m) (h2 : m < 2 ^ 62) : evalSr (.rng a) s = some (((List.range m.toNat).map fun i => .int (i : Nat), .fz), s1) := by
  rw [evalSr, h1]
  show (if -(2 ^ 62) ≤ m ∧ m < 2 ^ 62 then _ else _) = _
  rw [if_pos ⟨h0, h2⟩]
theorem and_one (h1 : EvB e s fr s1) : Ev1 (.and (.cons e .nil)) s (.bool fr) .fz s1 := by
  rw [Ev1, evalE, evalAnd, h1]; rfl
theorem and_F {e2 : IE} (h1 : EvB e s false s1) : Ev1 (.and (.cons e (.cons e2 es))) s (.bool false) .fz s1 := by
  rw [Ev1, evalE, evalAnd, h1]; rfl
theorem tupR_B {e : IE} {s s1 : S} {b : Bool} (h1 : EvB e s b s1) : tupR (evalE e s) = none := by
  have h1 : boolD (evalE e s) = some (b, s1) := h1
  cases hz : evalE e s with
  | none => rfl
  | some r =>
    rw [hz] at h1
    obtain ⟨⟨d, t⟩, s2⟩ := r
    cases d <;> first | rfl | cases h1
theorem or_one (h1 : EvB e s fr s1) : Ev1 (.or (.cons e .nil)) s (.bool fr) .fz s1 := by
  rw [Ev1, evalE, evalOr, tupR_B h1]
  dsimp only
  rw [h1]; rfl
theorem or_T {e2 : IE} (h1 : EvB e s true s1) : Ev1 (.or (.cons e (.cons e2 es))) s (.bool true) .fz s1 := by
  rw [Ev1, evalE, evalOr, tupR_B h1]
  dsimp only
  rw [h1]; rfl
theorem cmp_eq {x y : D} (h : okEq x y = true) : cmpD .Eq x y = some (PyData.eqv x y) := if_pos h
theorem st_set2 {is : List Nat} {xs : List (D × Tg)} (h1 : EvS es s xs s1) (h2 : is.length = xs.length ∧ (is.all fun i => decide (i < s1.sl.length)) = true) : St1 (.set2 is es) s .nx ((s1.keeps (xs.map (·.2))).puts is xs) := by
  rw [St1, evalS, h1]
  show (if is.length = xs.length ∧ (is.all fun i => decide (i < s1.sl.length)) = true then _ else _) = _
  rw [if_pos h2]
theorem st_setT {is : List Nat} (h1 : Ev1 e s d t s1) (h2 : s1.bindT (.t is) d = some s2) : St1 (.setT is e) s .nx s2 := by
  rw [St1, evalS, h1]
  show (s1.bindT (.t is) d >>= _) = _
  rw [h2]; rfl
end
end Fs

set_option Elab.async false
set_option linter.all false
set_option maxRecDepth 100000
set_option maxHeartbeats 8000000
namespace Fs
open PySem L2
structure WE (e : IE) (s : S) (Q : D → Tg → S → Prop) : Prop where
  ex : ∃ d t s1, evalE e s = some ((d, t), s1) ∧ Q d t s1
structure WL (es : IEs) (s : S) (Q : List D → List Tg → S → Prop) : Prop where
  ex : ∃ xs s1, evalEs es s = some (xs, s1) ∧ Q (xs.map (·.1)) (xs.map (·.2)) s1
structure WB (e : IE) (s : S) (Q : Bool → S → Prop) : Prop where
  ex : ∃ b s1, boolD (evalE e s) = some (b, s1) ∧ Q b s1
structure WAl (es : IEs) (s : S) (Q : Bool → S → Prop) : Prop where
  ex : ∃ b s1, evalAll es s = some (b, s1) ∧ Q b s1
structure WR (src : Sr) (s : S) (Q : List D → Tg → S → Prop) : Prop where
  ex : ∃ xs t s1, evalSr src s = some ((xs, t), s1) ∧ Q xs t s1
structure WO (o : IO) (s : S) (Q : Option D → S → Prop) : Prop where
  ex : ∃ d s1, evalO o s = some (d, s1) ∧ Q d s1
structure WC (F : Fn) (ds : List D) (pn : Option Pn) (Q : D → Bool → Option Pn → Prop) : Prop where
  ex : ∃ d fr p1, F ds pn = some ((d, fr), p1) ∧ Q d fr p1
structure WT (tg : Tr) (s : S) (x : D) (Q : S → Prop) : Prop where
  ex : ∃ sb, s.bindT tg x = some sb ∧ Q sb
/-- a statement: N behind it, Q where it leaves -/
structure W1 (st : IS) (s : S) (N : S → Prop) (Q : Fl → S → Prop) : Prop where
  ex : ∃ f s1, evalS st s = some (f, s1) ∧ (match f with | .nx => N s1 | f => Q f s1)
structure WS (ss : ISs) (s : S) (N : S → Prop) (Q : Fl → S → Prop) : Prop where
  ex : ∃ f s1, evalSs ss s = some (f, s1) ∧ (match f with | .nx => N s1 | f => Q f s1)
/-- steps on data -/
structure WD (op : Operator) (x y : D) (Q : D → Tg → Prop) : Prop where
  ex : ∃ r, binD op x y = some r ∧ Q r.1 (tagB r.2)
structure WK (op : CmpOp) (x y : D) (Q : Bool → Prop) : Prop where
  ex : ∃ k, cmpD op x y = some k ∧ Q k
structure WI (x y : D) (Q : D → Prop) : Prop where
  ex : ∃ d, ixD x y = some d ∧ Q d
structure WF (f : Bf) (xs : List D) (Q : D → Tg → Prop) : Prop where
  ex : ∃ r, bltD f xs = some r ∧ Q r.1 (tagB r.2)
structure WV (d : D) (Q : Bool → Prop) : Prop where
  ex : ∃ b, d = .bool b ∧ Q b
structure WSl (x : D) (l m : Option D) (Q : D → Tg → Prop) : Prop where
  ex : ∃ r, slD x l m = some r ∧ Q r.1 (tagB r.2)
structure WZ (x y : D) (Q : List D → List D → Prop) : Prop where
  ex : ∃ xs ys, itemsD x = some xs ∧ itemsD y = some ys ∧ kin x y = true ∧ Q xs ys
structure W1n (x y : D) (pn : Option Pn) (Q : D → Option Pn → Prop) : Prop where
  ex : ∃ d p1, oneF x y pn = some (d, p1) ∧ Q d p1
section
variable {s : S} {Q : D → Tg → S → Prop} {a b c e : IE} {es : IEs} {i j n : Nat}
theorem w_int {n : Int} (h : Q (.int n) .fz s) : WE (.int n) s Q := ⟨_, _, _, by rw [evalE], h⟩
theorem w_bool {n : Bool} (h : Q (.bool n) .fz s) : WE (.bool n) s Q := ⟨_, _, _, by rw [evalE], h⟩
theorem w_non (h : Q .none .fz s) : WE .non s Q := ⟨_, _, _, by rw [evalE], h⟩
theorem w_str {n : Str} (h : Q (.str n) .fz s) : WE (.str n) s Q := ⟨_, _, _, by rw [evalE], h⟩
theorem w_glob {x : Str} {d : D} (h : Q d .fz s) : WE (.glob x d) s Q := ⟨_, _, _, by rw [evalE], h⟩
theorem w_var {d : D} (hd : rd s i = some (d, false)) (h : Q d .fz s) : WE (.var i) s Q := ⟨_, _, _, ev_var hd, h⟩
theorem w_own {d : D} (hd : rd s i = some (d, true)) (h : Q d (.slot i) s) : WE (.var i) s Q := ⟨_, _, _, ev_own hd, h⟩
theorem w_bin {op : Operator} (h : WE a s fun x _ s1 => WE b s1 fun y _ s2 => WD op x y fun d t => Q d t s2) : WE (.bin op a b) s Q := by
  obtain ⟨x, t, s1, e1, ⟨y, t2, s2, e2, ⟨⟨d, fr⟩, e3, h⟩⟩⟩ := h
  exact ⟨_, _, _, ev_binG e1 e2 e3, h⟩
theorem w_neg {n : Int} (h : WE a s fun x _ s1 => x = .int n ∧ Q (.int (-n)) .fz s1) : WE (.neg a) s Q := by
  obtain ⟨x, t, s1, e1, rfl, h⟩ := h
  exact ⟨_, _, _, by rw [evalE, e1]; rfl, h⟩
theorem w_not (h : WB a s fun k s1 => Q (.bool (!k)) .fz s1) : WE (.not a) s Q := by
  obtain ⟨k, s1, e1, h⟩ := h
  exact ⟨_, _, _, ev_not e1, h⟩
theorem w_cmp {op : CmpOp} (h : WE a s fun x _ s1 => WE b s1 fun y _ s2 => WK op x y fun k => Q (.bool k) .fz s2) : WE (.cmp op a b) s Q := by
  obtain ⟨x, t, s1, e1, ⟨y, t2, s2, e2, ⟨d, e3, h⟩⟩⟩ := h
  exact ⟨_, _, _, ev_cmp e1 e2 e3, h⟩
theorem w_isN (h : WE a s fun x _ s1 => Q (.bool (isn x)) .fz s1) : WE (.isN a) s Q := by
  obtain ⟨x, t, s1, e1, h⟩ := h
  exact ⟨_, _, _, ev_isN e1, h⟩
theorem w_notN (h : WE a s fun x _ s1 => Q (.bool (!isn x)) .fz s1) : WE (.notN a) s Q := by
  obtain ⟨x, t, s1, e1, h⟩ := h
  exact ⟨_, _, _, ev_notN e1, h⟩
/-- both steps leave the state alone: one answer -/
theorem w_cmp2P {o p : CmpOp} {K M : Bool} {s2 : S} (h : WE a s fun x _ s1 => WE b s1 fun y _ s2' => s2' = s2 ∧ WK o x y fun k => k = K ∧ (K = true → WE c s2 fun z _ s3 => s3 = s2 ∧ WK p y z fun m => m = M)) (q : Q (.bool (K && M)) .fz s2) : WE (.cmp2 o p a b c) s Q := by
  obtain ⟨x, t, s1, e1, ⟨y, t2, s2', e2, rfl, ⟨k, e3, rfl, hT⟩⟩⟩ := h
  cases k with
  | true =>
    obtain ⟨z, t3, s3, e4, rfl, ⟨m, e5, rfl⟩⟩ := hT rfl
    refine ⟨_, _, _, ?_, q⟩
    rw [evalE, e1]; show (evalE b s1 >>= _) = _
    rw [e2]; show (cmpD o x y >>= _) = _
    rw [e3]; show (evalE c s3 >>= _) = _
    rw [e4]; show (cmpD p y z >>= _) = _
    rw [e5]; rfl
  | false =>
    refine ⟨_, _, _, ?_, q⟩
    rw [evalE, e1]; show (evalE b s1 >>= _) = _
    rw [e2]; show (cmpD o x y >>= _) = _
    rw [e3]; rfl
theorem w_ite (h : WB c s fun k s1 => (k = true → WE a s1 Q) ∧ (k = false → WE b s1 Q)) : WE (.ite c a b) s Q := by
  obtain ⟨k, s1, e1, hT, hF⟩ := h
  cases k with
  | true => obtain ⟨d, t, s2, e2, h⟩ := hT rfl; exact ⟨_, _, _, ev_iteT e1 e2, h⟩
  | false => obtain ⟨d, t, s2, e2, h⟩ := hF rfl; exact ⟨_, _, _, ev_iteF e1 e2, h⟩
theorem w_tup (h : WL es s fun ds ts s1 => Q (.tuple ds) .fz (s1.keeps ts)) : WE (.tup es) s Q := by
  obtain ⟨xs, s1, e1, h⟩ := h
  exact ⟨_, _, _, ev_tup e1, h⟩
theorem w_lst (h : WL es s fun ds ts s1 => Q (.list ds) .fresh (s1.keeps ts)) : WE (.lst es) s Q := by
  obtain ⟨xs, s1, e1, h⟩ := h
  exact ⟨_, _, _, ev_lst e1, h⟩
theorem w_ix (h : WE a s fun x _ s1 => WE b s1 fun y _ s2 => WI x y fun d => Q d .fz s2) : WE (.ix a b) s Q := by
  obtain ⟨x, t, s1, e1, ⟨y, t2, s2, e2, ⟨d, e3, h⟩⟩⟩ := h
  exact ⟨_, _, _, ev_ixG e1 e2 e3, h⟩
theorem w_sl {lo hi : IO} (h : WE a s fun x _ s1 => WO lo s1 fun l s2 => WO hi s2 fun m s3 => WSl x l m fun d t => Q d t s3) : WE (.sl a lo hi) s Q := by
  obtain ⟨x, t, s1, e1, ⟨l, s2, e2, ⟨m, s3, e3, ⟨⟨d, fr⟩, e4, h⟩⟩⟩⟩ := h
  refine ⟨_, _, _, ?_, h⟩
  rw [evalE, e1]; show (evalO lo s1 >>= _) = _
  rw [e2]; show (evalO hi s2 >>= _) = _
  rw [e3]; show (slD x l m >>= _) = _
  rw [e4]; rfl
theorem w_isi {ty : Ty5} (h : WE a s fun x _ s1 => ∃ k, isiD ty x = some k ∧ Q (.bool k) .fz s1) : WE (.isi a ty) s Q := by
  obtain ⟨x, t, s1, e1, k, e2, h⟩ := h
  exact ⟨_, _, _, ev_isi e1 e2, h⟩
theorem w_blt {f : Bf} (h : WL es s fun ds _ s1 => WF f ds fun d t => Q d t s1) : WE (.blt f es) s Q := by
  obtain ⟨xs, s1, e1, ⟨⟨d, fr⟩, e2, h⟩⟩ := h
  exact ⟨_, _, _, ev_bltG e1 e2, h⟩
def cst (s1 : S) (ts : List Tg) (d : D) (pn : Option Pn) : S := if scal d = true then { s1 with pn := pn } else { (s1.keeps ts) with pn := pn }
def ctg (d : D) (fr : Bool) : Tg := if scal d = true then .fz else tagB fr
theorem w_call {x : Str} {F : Fn} (h : WL es s fun ds ts s1 => WC F ds s1.pn fun d fr pn => Q d (ctg d fr) (cst s1 ts d pn)) : WE (.call x F es) s Q := by
  obtain ⟨xs, s1, e1, ⟨d, fr, pn, e2, h⟩⟩ := h
  cases z : scal d with
  | true =>
    refine ⟨_, _, _, ev_callS e1 e2 z, ?_⟩
    unfold ctg cst at h
    rw [if_pos z, if_pos z] at h; exact h
  | false =>
    refine ⟨_, _, _, ev_call e1 e2 z, ?_⟩
    unfold ctg cst at h
    rw [if_neg (by rw [z]; decide), if_neg (by rw [z]; decide)] at h; exact h
theorem w_one {x : Str} (h : WE a s fun x _ s1 => WE b s1 fun y _ s2 => W1n x y s2.pn fun d pn => Q d .fz { s2 with pn := pn }) : WE (.one x a b) s Q := by
  obtain ⟨x, t, s1, e1, ⟨y, t2, s2, e2, ⟨d, pn, e3, h⟩⟩⟩ := h
  exact ⟨_, _, _, ev_one e1 e2 e3, h⟩
theorem w_and (h : WB (.and es) s fun k s1 => Q (.bool k) .fz s1) : WE (.and es) s Q := by
  obtain ⟨k, s1, e1, h⟩ := h
  obtain ⟨⟨⟨d, t⟩, s2⟩, e2, h2⟩ := Option.bind_eq_some_iff.mp e1
  have key : ∀ (es : IEs) (s : S) r, evalAnd es s = some r → r.1.2 = .fz := by
    intro es
    induction es using IEs.rec (motive_1 := fun _ => True) (motive_3 := fun _ => True) (motive_4 := fun _ => True) with
    | nil => intro s r h; rw [evalAnd] at h; cases h
    | cons e es _ ih =>
      intro s r h
      rw [evalAnd] at h
      obtain ⟨⟨b, s1⟩, h1, h⟩ := Option.bind_eq_some_iff.mp h
      cases es with
      | nil => cases h; rfl
      | cons _ _ =>
        dsimp only at h
        split at h
        · exact ih _ _ h
        · cases h; rfl
    | _ => trivial
  have ht : t = .fz := by
    have e3 := e2
    rw [evalE] at e3
    exact key es s _ e3
  subst ht
  dsimp only at h2
  cases d <;> cases h2
  exact ⟨_, _, _, e2, h⟩
theorem w_or (h : WB (.or es) s fun k s1 => Q (.bool k) .fz s1) : WE (.or es) s Q := by
  obtain ⟨k, s1, e1, h⟩ := h
  obtain ⟨⟨⟨d, t⟩, s2⟩, e2, h2⟩ := Option.bind_eq_some_iff.mp e1
  have key : ∀ (es : IEs) (s : S) r, evalOr es s = some r → r.1.2 = .fz := by
    intro es
    induction es using IEs.rec (motive_1 := fun _ => True) (motive_3 := fun _ => True) (motive_4 := fun _ => True) with
    | nil => intro s r h; rw [evalOr] at h; cases h
    | cons e es _ ih =>
      intro s r h
      rw [evalOr] at h
      cases hz : tupR (evalE _ s) with
      | some q =>
        rw [hz] at h
        cases es with
        | nil => cases h; rfl
        | cons _ _ =>
          dsimp only at h
          split at h
          · unfold tupV at h
            obtain ⟨q2, _, h⟩ := Option.map_eq_some_iff.mp h
            cases h; rfl
          · cases h; rfl
      | none =>
      rw [hz] at h
      dsimp only at h
      obtain ⟨⟨b, s1⟩, h1, h⟩ := Option.bind_eq_some_iff.mp h
      cases es with
      | nil => cases h; rfl
      | cons _ _ =>
        dsimp only at h
        split at h
        · cases h; rfl
        · exact ih _ _ h
    | _ => trivial
  have ht : t = .fz := by
    have e3 := e2
    rw [evalE] at e3
    exact key es s _ e3
  subst ht
  dsimp only at h2
  cases d <;> cases h2
  exact ⟨_, _, _, e2, h⟩
end
section
variable {s : S} {Q : Bool → S → Prop} {a b c e : IE} {es : IEs}
theorem wb_of (h : WE e s fun d _ s1 => WV d fun k => Q k s1) : WB e s Q := by
  obtain ⟨d, t, s1, e1, ⟨k, rfl, h⟩⟩ := h
  exact ⟨_, _, evb_of e1, h⟩
theorem wv {k : Bool} {Q : Bool → Prop} (h : Q k) : WV (.bool k) Q := ⟨_, rfl, h⟩
theorem wb_and1 (h : WB e s Q) : WB (.and (.cons e .nil)) s Q := by
  obtain ⟨k, s1, e1, h⟩ := h
  exact ⟨_, _, evb_of (and_one e1), h⟩
theorem wb_or1 (h : WB e s Q) : WB (.or (.cons e .nil)) s Q := by
  obtain ⟨k, s1, e1, h⟩ := h
  exact ⟨_, _, evb_of (or_one e1), h⟩
theorem wb_and {e2 : IE} (h : WB e s fun k s1 => (k = true → WB (.and (.cons e2 es)) s1 Q) ∧ (k = false → Q false s1)) : WB (.and (.cons e (.cons e2 es))) s Q := by
  obtain ⟨k, s1, e1, hT, hF⟩ := h
  cases k with
  | true =>
    obtain ⟨m, s2, e2, h⟩ := hT rfl
    refine ⟨_, _, ?_, h⟩
    rw [evalE] at e2 ⊢
    rw [evalAnd, e1]; exact e2
  | false => exact ⟨_, _, evb_of (and_F e1), hF rfl⟩
theorem wb_or {e2 : IE} (h : WB e s fun k s1 => (k = true → Q true s1) ∧ (k = false → WB (.or (.cons e2 es)) s1 Q)) : WB (.or (.cons e (.cons e2 es))) s Q := by
  obtain ⟨k, s1, e1, hT, hF⟩ := h
  cases k with
  | true => exact ⟨_, _, evb_of (or_T e1), hT rfl⟩
  | false =>
    obtain ⟨m, s2, e2, h⟩ := hF rfl
    refine ⟨_, _, ?_, h⟩
    rw [evalE] at e2 ⊢
    rw [evalOr, tupR_B e1]
    dsimp only
    rw [e1]; exact e2
theorem wb_andP {e2 : IE} {K M : Bool} (h1 : WB e s fun k s1 => s1 = s ∧ k = K) (h2 : K = true → WB (.and (.cons e2 es)) s fun m s2 => s2 = s ∧ m = M) (q : Q (K && M) s) : WB (.and (.cons e (.cons e2 es))) s Q := by
  obtain ⟨k, s1, e1, rfl, rfl⟩ := h1
  refine wb_and ⟨_, _, e1, fun z => ?_, fun z => by subst z; exact q⟩
  subst z
  obtain ⟨m, s2, e2, rfl, rfl⟩ := h2 rfl
  exact ⟨_, _, e2, q⟩
theorem wb_orP {e2 : IE} {K M : Bool} (h1 : WB e s fun k s1 => s1 = s ∧ k = K) (h2 : K = false → WB (.or (.cons e2 es)) s fun m s2 => s2 = s ∧ m = M) (q : Q (K || M) s) : WB (.or (.cons e (.cons e2 es))) s Q := by
  obtain ⟨k, s1, e1, rfl, rfl⟩ := h1
  refine wb_or ⟨_, _, e1, fun z => by subst z; exact q, fun z => ?_⟩
  subst z
  obtain ⟨m, s2, e2, rfl, rfl⟩ := h2 rfl
  exact ⟨_, _, e2, q⟩
theorem wal_nil (h : Q true s) : WAl .nil s Q := ⟨_, _, by rw [evalAll], h⟩
theorem wal_one {es : IEs} (h : WB e s Q) : WAl (.cons e es) s Q := by
  obtain ⟨k, s1, e1, h⟩ := h
  exact ⟨_, _, by rw [evalAll, e1], h⟩
end
section
variable {s : S} {a b c e : IE} {es : IEs}
theorem wl_nil {Q : List D → List Tg → S → Prop} (h : Q [] [] s) : WL .nil s Q := ⟨_, _, evs_nil, h⟩
theorem wl_cons {Q : List D → List Tg → S → Prop} (h : WE e s fun d t s1 => WL es s1 fun ds ts s2 => Q (d :: ds) (t :: ts) s2) : WL (.cons e es) s Q := by
  obtain ⟨d, t, s1, e1, ⟨xs, s2, e2, h⟩⟩ := h
  exact ⟨_, _, evs_cons e1 e2, h⟩
theorem wo_none {Q : Option D → S → Prop} (h : Q none s) : WO .none s Q := ⟨_, _, by rw [evalO], h⟩
theorem wo_some {Q : Option D → S → Prop} (h : WE e s fun d _ s1 => Q (some d) s1) : WO (.some e) s Q := by
  obtain ⟨d, t, s1, e1, h⟩ := h
  exact ⟨_, _, by rw [evalO, e1]; rfl, h⟩
theorem wr_seq {Q : List D → Tg → S → Prop} (h : WE e s fun d t s1 => ∃ xs, itemsD d = some xs ∧ Q xs t s1) : WR (.seq e) s Q := by
  obtain ⟨d, t, s1, e1, xs, e2, h⟩ := h
  refine ⟨_, _, _, ?_, h⟩
  rw [evalSr, e1]; show (itemsD d >>= _) = _
  rw [e2]; rfl
theorem wr_enum {Q : List D → Tg → S → Prop} (h : WE e s fun d t s1 => ∃ xs, itemsD d = some xs ∧ Q (xs.zipIdx.map fun p => .tuple [.int (p.2 : Nat), p.1]) t s1) : WR (.enum e) s Q := by
  obtain ⟨d, t, s1, e1, xs, e2, h⟩ := h
  refine ⟨_, _, _, ?_, h⟩
  rw [evalSr, e1]; show (itemsD d >>= _) = _
  rw [e2]; rfl
theorem wr_zip {Q : List D → Tg → S → Prop} (h : WE a s fun x t s1 => WE b s1 fun y u s2 => WZ x y fun xs ys => Q (List.zipWith (fun u v => .tuple [u, v]) xs ys) .fz ((s2.keep t).keep u)) : WR (.zip a b) s Q := by
  obtain ⟨x, t, s1, e1, ⟨y, u, s2, e2, ⟨xs, ys, e3, e4, e5, h⟩⟩⟩ := h
  refine ⟨_, _, _, ?_, h⟩
  rw [evalSr, e1]; show (evalE b s1 >>= _) = _
  rw [e2]; show (itemsD x >>= _) = _
  rw [e3]; show (itemsD y >>= _) = _
  rw [e4]; show (if kin x y = true then _ else _) = _
  rw [if_pos e5]
theorem wr_rng {Q : List D → Tg → S → Prop} (h : WE a s fun x _ s1 => ∃ n : Int, x = .int n ∧ (-(2 ^ 62) ≤ n ∧ n < 2 ^ 62) ∧ Q ((List.range n.toNat).map fun i => .int (i : Nat)) .fz s1) : WR (.rng a) s Q := by
  obtain ⟨x, t, s1, e1, n, rfl, z, h⟩ := h
  exact ⟨_, _, _, sr_rngE e1 z.1 z.2, h⟩
theorem wr_rng2 {Q : List D → Tg → S → Prop} (h : WE a s fun x _ s1 => WE b s1 fun y _ s2 => ∃ m n : Int, x = .int m ∧ y = .int n ∧ (-(2 ^ 62) ≤ m ∧ m < 2 ^ 62 ∧ -(2 ^ 62) ≤ n ∧ n < 2 ^ 62) ∧ Q ((List.range (n - m).toNat).map fun i => .int (m + (i : Nat))) .fz s2) : WR (.rng2 a b) s Q := by
  obtain ⟨x, t, s1, e1, ⟨y, t2, s2, e2, m, n, rfl, rfl, z, h⟩⟩ := h
  refine ⟨_, _, _, ?_, h⟩
  rw [evalSr, e1]; show (evalE b s1 >>= _) = _
  rw [e2]; show (if _ then _ else _) = _
  rw [if_pos z]
end
section
variable {Q : D → Tg → Prop}
theorem d_add {x y : Int} (h : Q (.int (x + y)) .fz) : WD .Add (.int x) (.int y) Q := ⟨_, rfl, h⟩
theorem d_sub {x y : Int} (h : Q (.int (x - y)) .fz) : WD .Sub (.int x) (.int y) Q := ⟨_, rfl, h⟩
end
section
variable {Q : Bool → Prop}
theorem k_lt {x y : Int} (h : Q (decide (x < y))) : WK .Lt (.int x) (.int y) Q := ⟨_, cmp_lt, h⟩
theorem k_le {x y : Int} (h : Q (decide (x ≤ y))) : WK .LtE (.int x) (.int y) Q := ⟨_, cmp_le, h⟩
theorem k_gt {x y : Int} (h : Q (decide (y < x))) : WK .Gt (.int x) (.int y) Q := ⟨_, cmp_gt, h⟩
theorem k_ge {x y : Int} (h : Q (decide (y ≤ x))) : WK .GtE (.int x) (.int y) Q := ⟨_, cmp_ge, h⟩
theorem k_eqI {x y : Int} (h : Q (decide (x = y))) : WK .Eq (.int x) (.int y) Q := ⟨_, cmp_eqI, h⟩
theorem k_neI {x y : Int} (h : Q (!decide (x = y))) : WK .NotEq (.int x) (.int y) Q := ⟨_, cmp_neI, h⟩
theorem k_eq {x y : D} (z : okEq x y = true) (h : Q (PyData.eqv x y)) : WK .Eq x y Q := ⟨_, cmp_eq z, h⟩
theorem eqv_int {x y : Int} : PyData.eqv (.int x) (.int y) = decide (x = y) := by rw [← Bool.beq_eq_decide_eq]; rfl
theorem any_ints {x : Int} : ∀ {ns : List Int}, (ns.map PyData.int).any (fun z => PyData.eqv z (.int x)) = decide (x ∈ ns)
  | [] => rfl
  | n :: ns => by
    rw [List.map_cons, List.any_cons, any_ints, eqv_int]
    by_cases h : n = x
    · subst h; simp
    · rw [decide_eq_false h, Bool.false_or]
      have : x ∈ n :: ns ↔ x ∈ ns := by
        constructor
        · intro z; rcases List.mem_cons.mp z with z | z
          · exact absurd z.symm h
          · exact z
        · exact List.mem_cons_of_mem _
      exact (decide_eq_decide.mpr this).symm
theorem goods_ints {k : Nat} : ∀ {ns : List Int}, goods k (ns.map PyData.int) = true
  | [] => by rw [List.map_nil, goods]
  | n :: ns => by
    rw [List.map_cons, goods, goods_ints (ns := ns)]
    cases k <;> rfl
theorem okEq_inT {x : Int} {ns : List Int} : okEq (.int x) (.tuple (ns.map .int)) = true := by
  show (good 60 (.int x) && good 60 (.tuple (ns.map .int))) = true
  rw [good, good, goods_ints]; rfl
theorem okEq_inL {x : Int} {ns : List Int} : okEq (.int x) (.list (ns.map .int)) = true := by
  show (good 60 (.int x) && good 60 (.list (ns.map .int))) = true
  rw [good, good, goods_ints]; rfl
theorem k_inT {x : Int} {ns : List Int} (h : Q (decide (x ∈ ns))) : WK .In (.int x) (.tuple (ns.map .int)) Q := by
  refine ⟨decide (x ∈ ns), ?_, h⟩
  show (if okEq (.int x) (.tuple (ns.map .int)) = true then some ((ns.map PyData.int).any fun z => PyData.eqv z (.int x)) else none) = _
  rw [if_pos okEq_inT, any_ints]
theorem k_inL {x : Int} {ns : List Int} (h : Q (decide (x ∈ ns))) : WK .In (.int x) (.list (ns.map .int)) Q := by
  refine ⟨decide (x ∈ ns), ?_, h⟩
  show (if okEq (.int x) (.list (ns.map .int)) = true then some ((ns.map PyData.int).any fun z => PyData.eqv z (.int x)) else none) = _
  rw [if_pos okEq_inL, any_ints]
theorem k_ninT {x : Int} {ns : List Int} (h : Q (!decide (x ∈ ns))) : WK .NotIn (.int x) (.tuple (ns.map .int)) Q := by
  refine ⟨!decide (x ∈ ns), ?_, h⟩
  show (if okEq (.int x) (.tuple (ns.map .int)) = true then some (!(ns.map PyData.int).any fun z => PyData.eqv z (.int x)) else none) = _
  rw [if_pos okEq_inT, any_ints]
theorem k_ninL {x : Int} {ns : List Int} (h : Q (!decide (x ∈ ns))) : WK .NotIn (.int x) (.list (ns.map .int)) Q := by
  refine ⟨!decide (x ∈ ns), ?_, h⟩
  show (if okEq (.int x) (.list (ns.map .int)) = true then some (!(ns.map PyData.int).any fun z => PyData.eqv z (.int x)) else none) = _
  rw [if_pos okEq_inL, any_ints]
end
section
variable {Q : D → Tg → Prop}
theorem f_lenL {xs : List D} (h : Q (.int xs.length) .fz) : WF .len [.list xs] Q := ⟨_, rfl, h⟩
theorem f_lenT {xs : List D} (h : Q (.int xs.length) .fz) : WF .len [.tuple xs] Q := ⟨_, rfl, h⟩
theorem f_max2 {a b : Int} (h : Q (.int (if b > a then b else a)) .fz) : WF .max [.int a, .int b] Q := ⟨_, rfl, h⟩
theorem f_min2 {a b : Int} (h : Q (.int (if b < a then b else a)) .fz) : WF .min [.int a, .int b] Q := ⟨_, rfl, h⟩
theorem f_tupL {xs : List D} (h : Q (.tuple xs) .fz) : WF .tuple [.list xs] Q := ⟨_, rfl, h⟩
theorem f_tupT {xs : List D} (h : Q (.tuple xs) .fz) : WF .tuple [.tuple xs] Q := ⟨_, rfl, h⟩
theorem f_listL {xs : List D} (h : Q (.list xs) .fresh) : WF .list [.list xs] Q := ⟨_, rfl, h⟩
theorem f_listT {xs : List D} (h : Q (.list xs) .fresh) : WF .list [.tuple xs] Q := ⟨_, rfl, h⟩
theorem f_int {x : Int} (h : Q (.int x) .fz) : WF .int [.int x] Q := ⟨_, rfl, h⟩
theorem f_repr {d : D} (z : (good 60 d && d.showable && decide (d.shown.length ≤ sizeLine)) = true) (h : Q (.str d.shown) .fz) : WF .repr [d] Q := ⟨(.str d.shown, false), if_pos z, h⟩
end
theorem wi {x y d : D} {Q : D → Prop} (z : ixD x y = some d) (h : Q d) : WI x y Q := ⟨_, z, h⟩
theorem atI_in {xs : List D} {i : Int} {d : D} (h0 : 0 ≤ i) (h : xs[i.toNat]? = some d) : L2.atI xs i = some d := by
  have e1 := L2.atI_nat h
  have e2 : ((i.toNat : Nat) : Int) = i := by omega
  rw [e2] at e1; exact e1
theorem z_TT {xs ys : List D} {Q : List D → List D → Prop} (h : Q xs ys) : WZ (.tuple xs) (.tuple ys) Q := ⟨_, _, rfl, rfl, rfl, h⟩
theorem z_TL {xs ys : List D} {Q : List D → List D → Prop} (h : Q xs ys) : WZ (.tuple xs) (.list ys) Q := ⟨_, _, rfl, rfl, rfl, h⟩
theorem z_LL {xs ys : List D} {Q : List D → List D → Prop} (h : Q xs ys) : WZ (.list xs) (.list ys) Q := ⟨_, _, rfl, rfl, rfl, h⟩
theorem cutF {xs : List D} {k : Nat} : cutD xs (some (k : Int)) none = xs.drop k := by
  unfold cutD
  rw [HT.sIx_none, HT.sIx_nat]
  by_cases h : k ≤ xs.length
  · rw [Nat.min_eq_left h, List.take_of_length_le (by rw [List.length_drop]; exact Nat.le_refl _)]
  · rw [Nat.min_eq_right (by omega), List.drop_eq_nil_of_le (Nat.le_refl _), List.drop_eq_nil_of_le (by omega), List.take_nil]
theorem cutT {xs : List D} {k : Nat} : cutD xs none (some (k : Int)) = xs.take k := by
  unfold cutD
  rw [HT.sIx_none, HT.sIx_nat, List.drop_zero, Nat.sub_zero]
  by_cases h : k ≤ xs.length
  · rw [Nat.min_eq_left h]
  · rw [Nat.min_eq_right (by omega), List.take_length, List.take_of_length_le (by omega)]
theorem nat_of {k : Int} (z : decide (0 ≤ k) = true) : ((k.toNat : Nat) : Int) = k := by have := of_decide_eq_true z; omega
theorem slF_T {xs : List D} {k : Int} {Q : D → Tg → Prop} (z : decide (0 ≤ k) = true) (h : Q (.tuple (xs.drop k.toNat)) .fz) : WSl (.tuple xs) (some (.int k)) none Q := by
  refine ⟨(.tuple (xs.drop k.toNat), false), ?_, h⟩
  rw [← cutF, nat_of z]; rfl
theorem slT_T {xs : List D} {k : Int} {Q : D → Tg → Prop} (z : decide (0 ≤ k) = true) (h : Q (.tuple (xs.take k.toNat)) .fz) : WSl (.tuple xs) none (some (.int k)) Q := by
  refine ⟨(.tuple (xs.take k.toNat), false), ?_, h⟩
  rw [← cutT, nat_of z]; rfl
theorem slF_L {xs : List D} {k : Int} {Q : D → Tg → Prop} (z : decide (0 ≤ k) = true) (h : Q (.list (xs.drop k.toNat)) .fresh) : WSl (.list xs) (some (.int k)) none Q := by
  refine ⟨(.list (xs.drop k.toNat), true), ?_, h⟩
  rw [← cutF, nat_of z]; rfl
theorem slT_L {xs : List D} {k : Int} {Q : D → Tg → Prop} (z : decide (0 ≤ k) = true) (h : Q (.list (xs.take k.toNat)) .fresh) : WSl (.list xs) none (some (.int k)) Q := by
  refine ⟨(.list (xs.take k.toNat), true), ?_, h⟩
  rw [← cutT, nat_of z]; rfl
theorem wt_v {i : Nat} {s : S} {x : D} {Q : S → Prop} (z : decide (i < s.sl.length) = true) (h : Q (s.put i (x, false))) : WT (.v i) s x Q := ⟨_, if_pos (of_decide_eq_true z), h⟩
theorem wt {tg : Tr} {s sb : S} {x : D} {Q : S → Prop} (z : s.bindT tg x = some sb) (h : Q sb) : WT tg s x Q := ⟨_, z, h⟩
end Fs

set_option Elab.async false
set_option linter.all false
set_option maxRecDepth 100000
set_option maxHeartbeats 8000000
namespace Fs
open PySem L2
def flQ (N : S → Prop) (Q : Fl → S → Prop) : Fl → S → Prop
  | .nx, s => N s
  | .ret d fr, s => Q (.ret d fr) s
  | .brk, s => Q .brk s
  | .cont, s => Q .cont s
def loopQ (C N : S → Prop) (Q : Fl → S → Prop) : Fl → S → Prop
  | .nx, s => C s
  | .cont, s => C s
  | .brk, s => N s
  | .ret d fr, s => Q (.ret d fr) s
theorem W1.of {st : IS} {s s1 : S} {N : S → Prop} {Q : Fl → S → Prop} {f : Fl} (e : evalS st s = some (f, s1)) (h : flQ N Q f s1) : W1 st s N Q := by
  refine ⟨f, s1, e, ?_⟩
  cases f <;> exact h
theorem W1.out {st : IS} {s : S} {N : S → Prop} {Q : Fl → S → Prop} (h : W1 st s N Q) : ∃ f s1, evalS st s = some (f, s1) ∧ flQ N Q f s1 := by
  obtain ⟨f, s1, e, h⟩ := h
  refine ⟨f, s1, e, ?_⟩
  cases f <;> exact h
theorem WS.of {st : ISs} {s s1 : S} {N : S → Prop} {Q : Fl → S → Prop} {f : Fl} (e : evalSs st s = some (f, s1)) (h : flQ N Q f s1) : WS st s N Q := by
  refine ⟨f, s1, e, ?_⟩
  cases f <;> exact h
theorem WS.out {st : ISs} {s : S} {N : S → Prop} {Q : Fl → S → Prop} (h : WS st s N Q) : ∃ f s1, evalSs st s = some (f, s1) ∧ flQ N Q f s1 := by
  obtain ⟨f, s1, e, h⟩ := h
  refine ⟨f, s1, e, ?_⟩
  cases f <;> exact h
structure WLc (elt : IE) (tg : Tr) (ifs : IEs) (items : List D) (s : S) (Q : List D → S → Prop) : Prop where
  ex : ∃ ds s1, lcRun (evalAll ifs) (evalE elt) tg items s = some (ds, s1) ∧ Q ds s1
structure WFor (items : List D) (tg : Tr) (body : ISs) (s : S) (N : S → Prop) (Q : Fl → S → Prop) : Prop where
  ex : ∃ f s2, fGo tg (evalSs body) items s = some (f, s2) ∧ flQ N Q f s2
structure WRet (f : Fl) (K : D → Bool → Prop) : Prop where
  ex : ∃ d fr, f = .ret d fr ∧ K d fr
theorem wret {d : D} {fr : Bool} {K : D → Bool → Prop} (h : K d fr) : WRet (.ret d fr) K := ⟨_, _, rfl, h⟩
def rfr (t : Tg) (s : S) : Bool := match t with | .fz => false | .fresh => true | .slot i => match rd s i with | some (_, true) => true | _ => false
section
variable {s : S} {N : S → Prop} {Q : Fl → S → Prop} {e c k elt : IE} {es ifs : IEs} {i j n : Nat} {tg : Tr} {src : Sr} {x y body : ISs} {st : IS}
theorem ws_nil (h : N s) : WS .nil s N Q := .of ss_nil h
theorem ws_cons {ss : ISs} (h : W1 st s (fun s1 => WS ss s1 N Q) Q) : WS (.cons st ss) s N Q := by
  obtain ⟨f, s1, e, h⟩ := h.out
  cases f with
  | nx =>
    obtain ⟨f2, s2, e2, h⟩ := WS.out (show WS ss s1 N Q from h)
    exact .of (ss_cons e e2) h
  | ret d fr => exact .of (ss_end e) h
  | brk => exact .of (f := .brk) (s1 := s1) (by rw [evalSs, e]; rfl) h
  | cont => exact .of (f := .cont) (s1 := s1) (by rw [evalSs, e]; rfl) h
theorem w1_set (h : WE e s fun d t s1 => decide (i < s1.sl.length) = true ∧ N ((s1.keep t).put i (d, t.own))) : W1 (.set i e) s N Q := by
  obtain ⟨d, t, s1, e1, z, h⟩ := h
  exact .of (st_set e1 z) h
theorem w1_setLc (h : WR src s fun items _ s1 => WLc elt tg ifs items s1 fun ds s2 => decide (i < s2.sl.length) = true ∧ N (s2.put i (.list ds, true))) : W1 (.setLc i elt tg src ifs) s N Q := by
  obtain ⟨items, t, s1, e1, ⟨ds, s2, e2, z, h⟩⟩ := h
  refine .of (f := .nx) ?_ h
  rw [evalS, e1]; show (lcRun (evalAll ifs) (evalE elt) tg items s1 >>= _) = _
  rw [e2]; show (if i < s2.sl.length then _ else _) = _
  rw [if_pos (of_decide_eq_true z)]
theorem w1_setT {is : List Nat} (h : WE e s fun d _ s1 => WT (.t is) s1 d N) : W1 (.setT is e) s N Q := by
  obtain ⟨d, t, s1, e1, ⟨sb, e2, h⟩⟩ := h
  exact .of (st_setT e1 e2) h
theorem w1_set2 {is : List Nat} (h : WL es s fun ds ts s1 => (decide (is.length = ds.length) && (is.all fun i => decide (i < s1.sl.length))) = true ∧ N ((s1.keeps ts).puts is (ds.zip ts))) : W1 (.set2 is es) s N Q := by
  obtain ⟨xs, s1, e1, z, h⟩ := h
  rw [Bool.and_eq_true, decide_eq_true_iff, List.length_map] at z
  rw [show (xs.map (·.1)).zip (xs.map (·.2)) = xs by rw [List.zip_map']; simp] at h
  exact .of (st_set2 e1 z) h
theorem w1_ins {d0 : D} {kx : IE} (h0 : rd s i = some (d0, true)) (h : WE kx s fun kd _ s0 => WE e s0 fun d t s1 => ∃ xs n, rd (s1.keep t) i = some (.list xs, true) ∧ kd = .int n ∧ (xs.length < sizeLine ∧ 0 ≤ n ∧ n < 2 ^ 63) ∧ N ((s1.keep t).put i (.list (xs.take n.toNat ++ [d] ++ xs.drop n.toNat), true))) : W1 (.ins i kx e) s N Q := by
  obtain ⟨kd, tk, s0, ek, ⟨d, t, s1, e1, xs, n, h1, rfl, h2, h⟩⟩ := h
  refine .of (f := .nx) ?_ h
  rw [evalS, h0]
  show (evalE kx s >>= _) = _
  rw [ek]
  show (evalE e s0 >>= _) = _
  rw [e1]
  show (match true, rd (s1.keep t) i, (PyData.int n) with
    | true, some (.list xs, true), .int n => if xs.length < sizeLine ∧ 0 ≤ n ∧ n < 2 ^ 63 then some (Fl.nx, (s1.keep t).put i (.list (xs.take n.toNat ++ [d] ++ xs.drop n.toNat), true)) else none
    | _, _, _ => none) = _
  rw [h1]
  show (if xs.length < sizeLine ∧ 0 ≤ n ∧ n < 2 ^ 63 then _ else _) = _
  rw [if_pos h2]
theorem w1_app {d0 : D} (h0 : rd s i = some (d0, true)) (h : WE e s fun d t s1 => ∃ xs, rd (s1.keep t) i = some (.list xs, true) ∧ xs.length < sizeLine ∧ N ((s1.keep t).put i (.list (xs ++ [d]), true))) : W1 (.app i e) s N Q := by
  obtain ⟨d, t, s1, e1, xs, h1, h2, h⟩ := h
  exact .of (st_app h0 e1 h1 h2) h
theorem w1_ext {d0 : D} (h0 : rd s i = some (d0, true)) (h : WE e s fun d t s1 => ∃ xs ys, d = .list ys ∧ rd (s1.keep t) i = some (.list xs, true) ∧ xs.length + ys.length ≤ sizeLine ∧ N ((s1.keep t).put i (.list (xs ++ ys), true))) : W1 (.ext i e) s N Q := by
  obtain ⟨d, t, s1, e1, xs, ys, rfl, h1, h2, h⟩ := h
  refine .of (f := .nx) ?_ h
  rw [evalS, h0]; show (evalE e s >>= _) = _
  rw [e1]
  show (match true, rd (s1.keep t) i, (PyData.list ys) with
    | true, some (.list xs, true), .list ys => if xs.length + ys.length ≤ sizeLine then some (Fl.nx, (s1.keep t).put i (.list (xs ++ ys), true)) else none
    | _, _, _ => none) = _
  rw [h1]; show (if xs.length + ys.length ≤ sizeLine then _ else _) = _
  rw [if_pos h2]
theorem w1_rev {xs : List D} (h0 : rd s i = some (.list xs, true)) (h : N (s.put i (.list xs.reverse, true))) : W1 (.rev i) s N Q := .of (f := .nx) (by rw [evalS, h0]) h
theorem w1_expr (h : WE e s fun _ _ s1 => N s1) : W1 (.expr e) s N Q := by
  obtain ⟨d, t, s1, e1, h⟩ := h
  exact .of (f := .nx) (by rw [evalS, e1]; rfl) h
theorem w1_ite (h : WB c s fun b s1 => (b = true → WS x s1 N Q) ∧ (b = false → WS y s1 N Q)) : W1 (.ite c x y) s N Q := by
  obtain ⟨b, s1, e1, hT, hF⟩ := h
  cases b with
  | true => obtain ⟨f, s2, e2, h⟩ := (hT rfl).out; exact .of (st_iteT e1 e2) h
  | false => obtain ⟨f, s2, e2, h⟩ := (hF rfl).out; exact .of (st_iteF e1 e2) h
theorem w1_iteF (h : WB c s fun b s1 => b = false ∧ WS y s1 N Q) : W1 (.ite c x y) s N Q := by
  obtain ⟨b, s1, e1, rfl, h⟩ := h
  exact w1_ite ⟨_, _, e1, fun z => by (cases z), fun _ => h⟩
theorem wb_orF {Q : Bool → S → Prop} {e2 : IE} (h : WB e s fun k s1 => k = false ∧ WB (.or (.cons e2 es)) s1 Q) : WB (.or (.cons e (.cons e2 es))) s Q := by
  obtain ⟨b, s1, e1, rfl, h⟩ := h
  exact wb_or ⟨_, _, e1, fun z => by (cases z), fun _ => h⟩
theorem wb_andT {Q : Bool → S → Prop} {e2 : IE} (h : WB e s fun k s1 => k = true ∧ WB (.and (.cons e2 es)) s1 Q) : WB (.and (.cons e (.cons e2 es))) s Q := by
  obtain ⟨b, s1, e1, rfl, h⟩ := h
  exact wb_and ⟨_, _, e1, fun _ => h, fun z => by (cases z)⟩
theorem w_iteT {Q : D → Tg → S → Prop} {a b : IE} (h : WB c s fun k s1 => k = true ∧ WE a s1 Q) : WE (.ite c a b) s Q := by
  obtain ⟨b, s1, e1, rfl, h⟩ := h
  exact w_ite ⟨_, _, e1, fun _ => h, fun z => by (cases z)⟩
theorem w_iteF {Q : D → Tg → S → Prop} {a b : IE} (h : WB c s fun k s1 => k = false ∧ WE b s1 Q) : WE (.ite c a b) s Q := by
  obtain ⟨b, s1, e1, rfl, h⟩ := h
  exact w_ite ⟨_, _, e1, fun z => by (cases z), fun _ => h⟩
theorem w1_ret (h : WE e s fun d t s1 => Q (.ret d (rfr t s1)) s1) : W1 (.ret e) s N Q := by
  obtain ⟨d, t, s1, e1, h⟩ := h
  exact .of (f := .ret d (rfr t s1)) (by rw [evalS, e1]; rfl) h
theorem w1_retN (h : Q (.ret .none false) s) : W1 .retN s N Q := .of (f := .ret .none false) (by rw [evalS]) h
theorem w1_pass (h : N s) : W1 .pass s N Q := .of (f := .nx) (by rw [evalS]) h
theorem w1_brk (h : Q .brk s) : W1 .brk s N Q := .of (f := .brk) (by rw [evalS]) h
theorem w1_cont (h : Q .cont s) : W1 .cont s N Q := .of (f := .cont) (by rw [evalS]) h
theorem fGo_w (P : Nat → S → Prop) : ∀ (items : List D) (j : Nat) (s : S), P j s →
    (∀ i x s, items[i]? = some x → P (j + i) s → WT tg s x fun sb => WS body sb (P (j + i + 1)) (loopQ (P (j + i + 1)) N Q)) → (∀ s, P (j + items.length) s → N s) → ∃ f s2, fGo tg (evalSs body) items s = some (f, s2) ∧ flQ N Q f s2
  | [], j, s, h, _, fin => ⟨.nx, s, by rw [fGo], fin s h⟩
  | z :: zs, j, s, h, step, fin => by
    obtain ⟨sb, e1, h1⟩ := step 0 z s rfl h
    obtain ⟨f, s', e2, h1⟩ := h1.out
    have go : P (j + 1) s' → ∃ f s2, fGo tg (evalSs body) zs s' = some (f, s2) ∧ flQ N Q f s2 := fun hp =>
      fGo_w P zs (j + 1) s' hp (fun i y s hy hp => by
        have q := step (i + 1) y s hy (by rw [show j + (i + 1) = j + 1 + i by omega]; exact hp)
        rw [show j + (i + 1) + 1 = j + 1 + i + 1 by omega] at q
        exact q) (fun s hp => fin s (by rw [List.length_cons, show j + (zs.length + 1) = j + 1 + zs.length by omega]; exact hp))
    rw [fGo, e1]
    show ∃ f s2, (evalSs body sb >>= _) = _ ∧ _
    rw [e2]
    cases f with
    | nx => exact go h1
    | cont => exact go h1
    | brk => exact ⟨.nx, s', rfl, h1⟩
    | ret d fr => exact ⟨.ret d fr, s', rfl, h1⟩
theorem w1_for (h : WR src s fun items t s1 => WFor items tg body (s1.keep t) N Q) : W1 (.for tg src body) s N Q := by
  obtain ⟨items, t, s1, e1, ⟨f, s2, e2, h⟩⟩ := h
  refine .of ?_ h
  rw [evalS, e1]; exact e2
theorem wfor {items : List D} (P : Nat → S → Prop) (h0 : P 0 s) (step : ∀ i x s, items[i]? = some x → P i s → WT tg s x fun sb => WS body sb (P (i + 1)) (loopQ (P (i + 1)) N Q)) (fin : ∀ s, P items.length s → N s) : WFor items tg body s N Q :=
  ⟨fGo_w (N := N) (Q := Q) P items 0 s h0 (fun i x s hx hp => by
    have q := step i x s hx (by simpa using hp)
    simpa using q) (fun s hp => fin s (by simpa using hp))⟩
/-- over the numbers below m -/
theorem wfor_rng {m : Int} (P : Nat → S → Prop) (h0 : P 0 s) (step : ∀ (i : Nat) s, (i : Int) < m → P i s → WT tg s (.int (i : Nat)) fun sb => WS body sb (P (i + 1)) (loopQ (P (i + 1)) N Q)) (fin : ∀ s, P m.toNat s → N s) :
    WFor ((List.range m.toNat).map fun i => .int (i : Nat)) tg body s N Q := by
  refine wfor P h0 (fun i x s hx hp => ?_) fun s hp => fin s (by simpa using hp)
  have hi : i < m.toNat := by simpa using (List.getElem?_eq_some_iff.mp hx).1
  rw [List.getElem?_map, List.getElem?_range hi] at hx
  cases hx
  exact step i s (by omega) hp
/-- over typed items -/
theorem wfor_M {α : Type} {xs : List α} {g : α → D} {items : List D} (P : Nat → S → Prop) (he : items = xs.map g) (h0 : P 0 s) (step : ∀ i y s, xs[i]? = some y → P i s → WT tg s (g y) fun sb => WS body sb (P (i + 1)) (loopQ (P (i + 1)) N Q)) (fin : ∀ s, P xs.length s → N s) :
    WFor items tg body s N Q := by
  subst he
  refine wfor P h0 (fun i x s hx hp => ?_) fun s hp => fin s (by simpa using hp)
  rw [List.getElem?_map] at hx
  obtain ⟨y, hy, rfl⟩ := Option.map_eq_some_iff.mp hx
  exact step i y s hy hp
end
section
variable {s : S} {e elt : IE} {ifs : IEs} {tg : Tr} {src : Sr}
theorem w_lc {Q : D → Tg → S → Prop} (h : WR src s fun items _ s1 => WLc elt tg ifs items s1 fun ds s2 => Q (.list ds) .fresh s2) : WE (.lc elt tg src ifs) s Q := by
  obtain ⟨items, t, s1, e1, ⟨ds, s2, e2, h⟩⟩ := h
  refine ⟨_, _, _, ?_, h⟩
  rw [evalE, e1]; show (lcRun (evalAll ifs) (evalE elt) tg items s1 >>= _) = _
  rw [e2]; rfl
theorem wlc_inv {items : List D} {Q : List D → S → Prop} (P : Nat → List D → S → Prop) (un : s.unowned tg.slots = true) (hl : items.length ≤ sizeLine) (h0 : P 0 [] (s.wipe tg.slots))
    (step : ∀ i x acc s, items[i]? = some x → P i acc s → WT tg s x fun sb => WAl ifs sb fun b s1 => (b = true → WE elt s1 fun d t s2 => P (i + 1) (acc ++ [d]) ((s2.keep t).wipe tg.slots)) ∧ (b = false → P (i + 1) acc (s1.wipe tg.slots)))
    (fin : ∀ ds s', P items.length ds s' → Q ds (s'.restore s tg.slots)) : WLc elt tg ifs items s Q := by
  obtain ⟨ds, s2, e, h⟩ := lcGo_by (fi := evalAll ifs) (fe := evalE elt) (tg := tg) P items 0 [] (s.wipe tg.slots) h0 fun i x acc s hx hp => by
    obtain ⟨sb, e1, ⟨b, s1, e2, hT, hF⟩⟩ := step i x acc s hx (by simpa using hp)
    refine ⟨sb, b, s1, e1, e2, fun z => by simpa using hF z, fun z => ?_⟩
    obtain ⟨d, t, sd, e3, q⟩ := hT z
    exact ⟨d, t, sd, e3, by simpa using q⟩
  refine ⟨ds, _, ?_, fin ds s2 (by simpa using h)⟩
  unfold lcRun
  rw [if_pos ⟨un, hl⟩, e]; rfl
/-- nothing is drawn: a filter and a map -/
theorem wlc_map {α : Type} {xs : List α} {g : α → D} {p : α → Bool} {f : α → D} {items : List D} {Q : List D → S → Prop} (he : items = xs.map g) (un : s.unowned tg.slots = true) (hl : xs.length ≤ sizeLine)
    (step : ∀ x, x ∈ xs → WT tg (s.wipe tg.slots) (g x) fun sb => WAl ifs sb fun b s1 => b = p x ∧ (b = true → WE elt s1 fun d t s2 => d = f x ∧ (s2.keep t).wipe tg.slots = s.wipe tg.slots) ∧ (b = false → s1.wipe tg.slots = s.wipe tg.slots))
    (res : (s.wipe tg.slots).restore s tg.slots = s) (q : Q ((xs.filter p).map f) s) : WLc elt tg ifs items s Q := by
  subst he
  refine wlc_inv (fun i acc s' => acc = ((xs.take i).filter p).map f ∧ s' = s.wipe tg.slots) un (by simpa using hl) ⟨by simp, rfl⟩ ?_ ?_
  · rintro i x acc s' hx ⟨rfl, rfl⟩
    rw [List.getElem?_map] at hx
    obtain ⟨y, hy, rfl⟩ := Option.map_eq_some_iff.mp hx
    obtain ⟨hlt, hy'⟩ := List.getElem?_eq_some_iff.mp hy
    obtain ⟨sb, e1, ⟨b, s1, e2, hb, hT, hF⟩⟩ := step y (List.mem_of_getElem? hy)
    have ht : xs.take (i + 1) = xs.take i ++ [y] := by rw [List.take_add_one, hy]; rfl
    refine ⟨sb, e1, ⟨b, s1, e2, fun z => ?_, fun z => ?_⟩⟩
    · obtain ⟨d, t, s2, e3, rfl, e4⟩ := hT z
      refine ⟨_, t, s2, e3, ?_, e4⟩
      rw [ht, List.filter_append, List.map_append, List.filter_cons_of_pos (by rw [← hb, z])]; rfl
    · refine ⟨?_, hF z⟩
      rw [ht, List.filter_append, List.map_append, List.filter_cons_of_neg (by rw [← hb, z]; decide)]; simp
  · rintro ds s' ⟨rfl, rfl⟩
    rw [List.length_map, List.take_length, res]; exact q
theorem wlc_all {α : Type} {xs : List α} {g : α → D} {f : α → D} {items : List D} {Q : List D → S → Prop} (he : items = xs.map g) (un : s.unowned tg.slots = true) (hl : xs.length ≤ sizeLine)
    (step : ∀ x, x ∈ xs → WT tg (s.wipe tg.slots) (g x) fun sb => WE elt sb fun d t s2 => d = f x ∧ (s2.keep t).wipe tg.slots = s.wipe tg.slots)
    (res : (s.wipe tg.slots).restore s tg.slots = s) (q : Q (xs.map f) s) : WLc elt tg .nil items s Q := by
  refine wlc_map (p := fun _ => true) (f := f) he un hl (fun x hx => ?_) res (by rw [List.filter_eq_self.mpr (fun _ _ => rfl)]; exact q)
  obtain ⟨sb, e1, h⟩ := step x hx
  exact ⟨sb, e1, wal_nil ⟨rfl, fun _ => h, fun z => by cases z⟩⟩
end
theorem f_rev1T {xs : List D} {Q : D → Tg → Prop} (h : Q (.tuple xs.reverse) .fz) : WF .rev1 [.tuple xs] Q := ⟨_, rfl, h⟩
theorem f_rev1L {xs : List D} {Q : D → Tg → Prop} (h : Q (.list xs.reverse) .fresh) : WF .rev1 [.list xs] Q := ⟨_, rfl, h⟩
theorem f_cnt {xs : List D} {y : D} {Q : D → Tg → Prop} (z : good 60 (.list xs) = true) (z2 : good 60 y = true) (h : Q (.int ((xs.countP fun z => PyData.eqv z y : Nat) : Int)) .fz) : WF .cnt [.list xs, y] Q :=
  ⟨(.int ((xs.countP fun z => PyData.eqv z y : Nat) : Int), false), if_pos (by rw [z, z2]; rfl), h⟩
theorem wi_atT {xs : List D} {k : Int} {d : D} {Q : D → Prop} (z : decide (0 ≤ k) = true) (e : xs[k.toNat]? = some d) (h : Q d) : WI (.tuple xs) (.int k) Q := ⟨d, atI_in (of_decide_eq_true z) e, h⟩
theorem wi_atL {xs : List D} {k : Int} {d : D} {Q : D → Prop} (z : decide (0 ≤ k) = true) (e : xs[k.toNat]? = some d) (h : Q d) : WI (.list xs) (.int k) Q := ⟨d, atI_in (of_decide_eq_true z) e, h⟩
theorem wt_t2 {i j : Nat} {s : S} {x y : D} {Q : S → Prop} (z : (decide (i < s.sl.length) && decide (j < s.sl.length)) = true) (h : Q ((s.put i (x, false)).put j (y, false))) : WT (.t [i, j]) s (.tuple [x, y]) Q := by
  simp only [Bool.and_eq_true, decide_eq_true_eq] at z
  exact ⟨_, if_pos ⟨rfl, by simp [z]⟩, h⟩
theorem wt_t3 {i j k : Nat} {s : S} {x y w : D} {Q : S → Prop} (z : (decide (i < s.sl.length) && decide (j < s.sl.length) && decide (k < s.sl.length)) = true) (h : Q (((s.put i (x, false)).put j (y, false)).put k (w, false))) : WT (.t [i, j, k]) s (.tuple [x, y, w]) Q := by
  simp only [Bool.and_eq_true, decide_eq_true_eq] at z
  exact ⟨_, if_pos ⟨rfl, by simp [z]⟩, h⟩
theorem wt_t4 {i j k l : Nat} {s : S} {x y w u : D} {Q : S → Prop} (z : (decide (i < s.sl.length) && decide (j < s.sl.length) && decide (k < s.sl.length) && decide (l < s.sl.length)) = true) (h : Q ((((s.put i (x, false)).put j (y, false)).put k (w, false)).put l (u, false))) : WT (.t [i, j, k, l]) s (.tuple [x, y, w, u]) Q := by
  simp only [Bool.and_eq_true, decide_eq_true_eq] at z
  exact ⟨_, if_pos ⟨rfl, by simp [z]⟩, h⟩
theorem wt_t5 {i j k l m : Nat} {s : S} {x y w u v : D} {Q : S → Prop} (z : (decide (i < s.sl.length) && decide (j < s.sl.length) && decide (k < s.sl.length) && decide (l < s.sl.length) && decide (m < s.sl.length)) = true) (h : Q (((((s.put i (x, false)).put j (y, false)).put k (w, false)).put l (u, false)).put m (v, false))) : WT (.t [i, j, k, l, m]) s (.tuple [x, y, w, u, v]) Q := by
  simp only [Bool.and_eq_true, decide_eq_true_eq] at z
  exact ⟨_, if_pos ⟨rfl, by simp [z]⟩, h⟩
/-- no dict within, not too deep, no long lists -/
def okLen (xs : List D) : Bool := decide (xs.length ≤ 1000000)
mutual
def tame : Nat → D → Bool
  | _, .none => true
  | _, .bool _ => true
  | _, .int _ => true
  | _, .str x => PyData.strOk x
  | n + 1, .list xs => okLen xs && tames n xs
  | n + 1, .tuple xs => okLen xs && tames n xs
  | _, _ => false
def tames : Nat → List D → Bool
  | _, [] => true
  | n, x :: xs => tame n x && tames n xs
end
theorem tame_good : ∀ n : Nat, (∀ d : D, tame n d = true → good n d = true) ∧ ∀ ds : List D, tames n ds = true → goods n ds = true := by
  intro n
  induction n with
  | zero =>
    have h1 : ∀ d : D, tame 0 d = true → good 0 d = true := fun d => by cases d <;> simp [good, tame]
    refine ⟨h1, fun ds => ?_⟩
    induction ds with
    | nil => simp [goods]
    | cons d ds ih => rw [tames, goods, Bool.and_eq_true, Bool.and_eq_true]; exact fun z => ⟨h1 d z.1, ih z.2⟩
  | succ n ih =>
    have h1 : ∀ d : D, tame (n + 1) d = true → good (n + 1) d = true := fun d => by
      cases d with
      | list xs => rw [good, tame, Bool.and_eq_true]; exact fun z => ih.2 xs z.2
      | tuple xs => rw [good, tame, Bool.and_eq_true]; exact fun z => ih.2 xs z.2
      | _ => simp [good, tame]
    refine ⟨h1, fun ds => ?_⟩
    induction ds with
    | nil => simp [goods]
    | cons d ds ih => rw [tames, goods, Bool.and_eq_true, Bool.and_eq_true]; exact fun z => ⟨h1 d z.1, ih z.2⟩
theorem tame_up : ∀ n : Nat, (∀ d : D, tame n d = true → tame (n + 1) d = true) ∧ ∀ ds : List D, tames n ds = true → tames (n + 1) ds = true := by
  intro n
  induction n with
  | zero =>
    have h1 : ∀ d : D, tame 0 d = true → tame 1 d = true := fun d => by cases d <;> simp [tame]
    refine ⟨h1, fun ds => ?_⟩
    induction ds with
    | nil => simp [tames]
    | cons d ds ih => rw [tames, tames, Bool.and_eq_true, Bool.and_eq_true]; exact fun z => ⟨h1 d z.1, ih z.2⟩
  | succ n ih =>
    have h1 : ∀ d : D, tame (n + 1) d = true → tame (n + 2) d = true := fun d => by
      cases d with
      | list xs => rw [tame, tame, Bool.and_eq_true, Bool.and_eq_true]; exact fun z => ⟨z.1, ih.2 xs z.2⟩
      | tuple xs => rw [tame, tame, Bool.and_eq_true, Bool.and_eq_true]; exact fun z => ⟨z.1, ih.2 xs z.2⟩
      | _ => simp [tame]
    refine ⟨h1, fun ds => ?_⟩
    induction ds with
    | nil => simp [tames]
    | cons d ds ih => rw [tames, tames, Bool.and_eq_true, Bool.and_eq_true]; exact fun z => ⟨h1 d z.1, ih z.2⟩
theorem tame_le {n m : Nat} (h : n ≤ m) {d : D} (z : tame n d = true) : tame m d = true := by
  induction h with
  | refl => exact z
  | step _ ih => exact (tame_up _).1 d ih
theorem tames_mem {n : Nat} {x : D} : ∀ {xs : List D}, tames n xs = true → x ∈ xs → tame n x = true
  | y :: ys, h, m => by
    rw [tames, Bool.and_eq_true] at h
    rcases List.mem_cons.mp m with rfl | m
    · exact h.1
    · exact tames_mem h.2 m
theorem tames_of {n : Nat} : ∀ {xs : List D}, (∀ x ∈ xs, tame n x = true) → tames n xs = true
  | [], _ => by rw [tames]
  | y :: ys, h => by rw [tames, h y (List.mem_cons_self ..), tames_of fun x m => h x (List.mem_cons_of_mem _ m)]; rfl
/-- fit for the looks: tame to a depth of 60 -/
structure Tm (d : D) : Prop where
  is : tame 60 d = true
theorem Tm.gd {d : D} (h : Tm d) : good 60 d = true := (tame_good 60).1 d h.is
theorem Tm.tup {vs : List D} {x : D} (g : Tm (.tuple vs)) (m : x ∈ vs) : Tm x := by
  have := g.is
  rw [tame, Bool.and_eq_true] at this
  exact ⟨(tame_up 59).1 x (tames_mem this.2 m)⟩
theorem Tm.lst {vs : List D} {x : D} (g : Tm (.list vs)) (m : x ∈ vs) : Tm x := by
  have := g.is
  rw [tame, Bool.and_eq_true] at this
  exact ⟨(tame_up 59).1 x (tames_mem this.2 m)⟩
theorem Tm.int {i : Int} : Tm (.int i) := ⟨by simp [tame]⟩
theorem Tm.none : Tm .none := ⟨by simp [tame]⟩
theorem Tm.bool {b : Bool} : Tm (.bool b) := ⟨by simp [tame]⟩
theorem lenOk {n : Nat} (h : n ≤ 1000000) : n ≤ sizeLine := by rw [sizeL]; omega
theorem w_run {m : Nat} {ir : ISs} {ds : List D} {pn : Option Pn} {Q : D → Bool → Option Pn → Prop} (h : WS ir (start m ds pn) (fun s => Q .none false s.pn) (fun f s => WRet f fun d fr => Q d fr s.pn)) : WC (runF m ir) ds pn Q := by
  obtain ⟨f, s1, e, h⟩ := h.out
  unfold runF
  cases f with
  | nx => exact ⟨_, _, _, by rw [e]; rfl, h⟩
  | ret d fr =>
    obtain ⟨d', fr', z, h⟩ := h
    cases z
    exact ⟨_, _, _, by rw [e]; rfl, h⟩
  | brk => obtain ⟨d', fr', z, h⟩ := h; cases z
  | cont => obtain ⟨d', fr', z, h⟩ := h; cases z
theorem WC.mono {F : Fn} {ds : List D} {pn : Option Pn} {Q R : D → Bool → Option Pn → Prop} (h : WC F ds pn Q) (z : ∀ d fr p, Q d fr p → R d fr p) : WC F ds pn R := by
  obtain ⟨d, fr, p, e, h⟩ := h
  exact ⟨d, fr, p, e, z _ _ _ h⟩
theorem WC.eq {F : Fn} {ds : List D} {pn p1 : Option Pn} {d : D} {fr : Bool} (h : WC F ds pn fun d' fr' p' => d' = d ∧ fr' = fr ∧ p' = p1) : F ds pn = some ((d, fr), p1) := by
  obtain ⟨d, fr, p, e, rfl, rfl, rfl⟩ := h
  exact e
theorem take_n {n : Int} {p : Pn} (h : 0 < n ∧ n < 1073741824) (ha : 0 ≤ p.a ∧ p.a < 1073741824) : ∃ r p', takeF n p = some (r, p') ∧ 0 ≤ r ∧ r < n ∧ p.a ≤ p'.a ∧ p'.a ≤ p.a + 1 := by
  have c : 0 < n ∧ n < 1073741824 ∧ 0 ≤ p.a ∧ p.a < 1073741824 := ⟨h.1, h.2, ha.1, ha.2⟩
  by_cases hr : p.r < n
  · refine ⟨spreadF (cellF p) p.a % n, ⟨p.cells, p.a + 1, spreadF (cellF p) p.a / n⟩, ?_, Int.emod_nonneg _ (by omega), Int.emod_lt_of_pos _ h.1, by show p.a ≤ p.a + 1; omega, by show p.a + 1 ≤ p.a + 1; omega⟩
    unfold takeF
    rw [if_pos c, if_pos hr]
  · refine ⟨p.r % n, ⟨p.cells, p.a, p.r / n⟩, ?_, Int.emod_nonneg _ (by omega), Int.emod_lt_of_pos _ h.1, by show p.a ≤ p.a; omega, by show p.a ≤ p.a + 1; omega⟩
    unfold takeF
    rw [if_pos c, if_neg hr]
theorem c_take {n : Int} {p : Pn} {Q : D → Bool → Option Pn → Prop} (h : 0 < n ∧ n < 1073741824) (ha : 0 ≤ p.a ∧ p.a < 1073741824) (k : ∀ r p', 0 ≤ r → r < n → p.a ≤ p'.a → p'.a ≤ p.a + 1 → Q (.int r) false (some p')) : WC FTake [.dict [], .int n] (some p) Q := by
  obtain ⟨r, p', e, h1, h2, h3, h4⟩ := take_n h ha
  refine ⟨.int r, false, some p', ?_, k r p' h1 h2 h3 h4⟩
  show (takeF n p).map _ = _
  rw [e]; rfl
theorem o_one {y : D} {ys : List D} {p : Pn} {Q : D → Option Pn → Prop} (hy : itemsD y = some ys) (h : 0 < ys.length ∧ ys.length < 1073741824) (ha : 0 ≤ p.a ∧ p.a < 1073741824) (k : ∀ d p', d ∈ ys → p.a ≤ p'.a → p'.a ≤ p.a + 1 → Q d (some p')) : W1n (.dict []) y (some p) Q := by
  obtain ⟨r, p', e, h1, h2, h3, h4⟩ := take_n (n := ys.length) (p := p) (by omega) ha
  have hr : r.toNat < ys.length := by omega
  refine ⟨ys[r.toNat], some p', ?_, k _ p' (List.getElem_mem hr) h3 h4⟩
  show (itemsD y).bind _ = _
  rw [hy]
  show (takeF ys.length p).bind _ = _
  rw [e]
  show (ys[r.toNat]?).map _ = _
  rw [List.getElem?_eq_getElem hr]; rfl
end Fs

set_option Elab.async false
set_option linter.all false
set_option maxRecDepth 100000
set_option maxHeartbeats 8000000
namespace Fs
open PySem L2
theorem gateE {e : IE} {s : S} {Q : D → Tg → S → Prop} (h : WE e s Q) : WE e s Q := h
theorem gate1 {t : IS} {s : S} {N : S → Prop} {Q : Fl → S → Prop} (h : W1 t s N Q) : W1 t s N Q := h
theorem gateK {o : CmpOp} {x y : D} {Q : Bool → Prop} (h : WK o x y Q) : WK o x y Q := h
theorem gateF {f : Bf} {xs : List D} {Q : D → Tg → Prop} (h : WF f xs Q) : WF f xs Q := h
theorem gateB {e : IE} {s : S} {Q : Bool → S → Prop} (h : WB e s Q) : WB e s Q := h
theorem gateT {t : Tr} {s : S} {x : D} {Q : S → Prop} (h : WT t s x Q) : WT t s x Q := h
theorem gateR {r : Sr} {s : S} {Q : List D → Tg → S → Prop} (h : WR r s Q) : WR r s Q := h
theorem gateI {x y : D} {Q : D → Prop} (h : WI x y Q) : WI x y Q := h
theorem gateSl {x : D} {l m : Option D} {Q : D → Tg → Prop} (h : WSl x l m Q) : WSl x l m Q := h
end Fs
local macro_rules | `(tactic| fail) => `(tactic| refine' ⟨rfl, ?_⟩)
local macro_rules | `(tactic| fail) => `(tactic| refine' ⟨rfl, fun _ => ?_⟩)
local macro_rules | `(tactic| fail) => `(tactic| refine' ⟨_, rfl, ?_⟩)
local macro_rules | `(tactic| fail) => `(tactic| exact rfl)
local macro_rules | `(tactic| fail) => `(tactic| refine' Fs.wret ?_)
local macro_rules | `(tactic| fail) => `(tactic| refine' Fs.z_TL ?_)
local macro_rules | `(tactic| fail) => `(tactic| refine' Fs.z_LL ?_)
local macro_rules | `(tactic| fail) => `(tactic| refine' Fs.z_TT ?_)
local macro_rules | `(tactic| fail) => `(tactic| refine' Fs.d_sub ?_)
local macro_rules | `(tactic| fail) => `(tactic| refine' Fs.d_add ?_)
local macro_rules | `(tactic| fail) => `(tactic| refine' Fs.wal_one ?_)
local macro_rules | `(tactic| fail) => `(tactic| refine' Fs.wal_nil ?_)
local macro_rules | `(tactic| fail) => `(tactic| refine' Fs.wo_some ?_)
local macro_rules | `(tactic| fail) => `(tactic| refine' Fs.wo_none ?_)
local macro_rules | `(tactic| fail) => `(tactic| (refine' Fs.gateSl ?_; first | refine' Fs.slF_T rfl ?_ | refine' Fs.slT_T rfl ?_ | refine' Fs.slF_L rfl ?_ | refine' Fs.slT_L rfl ?_))
local macro_rules | `(tactic| fail) => `(tactic| (refine' Fs.gateR ?_; first | refine' Fs.wr_seq ?_ | refine' Fs.wr_enum ?_ | refine' Fs.wr_zip ?_ | refine' Fs.wr_rng ?_ | refine' Fs.wr_rng2 ?_))
local macro_rules | `(tactic| fail) => `(tactic| (refine' Fs.gateT ?_; first | refine' Fs.wt_v rfl ?_ | refine' Fs.wt_t2 rfl ?_ | refine' Fs.wt_t3 rfl ?_ | refine' Fs.wt_t4 rfl ?_ | refine' Fs.wt_t5 rfl ?_ | refine' Fs.wt rfl ?_))
local macro_rules | `(tactic| fail) => `(tactic| (refine' Fs.gateI ?_; first | refine' Fs.wi rfl ?_ | refine' Fs.wi_atT rfl rfl ?_ | refine' Fs.wi_atL rfl rfl ?_))
local macro_rules | `(tactic| fail) => `(tactic| (refine' Fs.gateF ?_; first | refine' Fs.f_lenL ?_ | refine' Fs.f_lenT ?_ | refine' Fs.f_int ?_ | refine' Fs.f_tupL ?_ | refine' Fs.f_tupT ?_ | refine' Fs.f_listL ?_ | refine' Fs.f_listT ?_ | refine' Fs.f_max2 ?_ | refine' Fs.f_rev1T ?_ | refine' Fs.f_rev1L ?_ | refine' Fs.f_min2 ?_))
local macro_rules | `(tactic| fail) => `(tactic| (refine' Fs.gateK ?_; first | refine' Fs.k_lt ?_ | refine' Fs.k_le ?_ | refine' Fs.k_gt ?_ | refine' Fs.k_ge ?_ | refine' Fs.k_eqI ?_ | refine' Fs.k_neI ?_ | refine' Fs.k_inT ?_ | refine' Fs.k_inL ?_ | refine' Fs.k_ninT ?_ | refine' Fs.k_ninL ?_))
local macro_rules | `(tactic| fail) => `(tactic| refine' Fs.wv ?_)
local macro_rules | `(tactic| fail) => `(tactic| (refine' Fs.gateB ?_; first | refine' Fs.wb_and1 ?_ | refine' Fs.wb_or1 ?_ | refine' Fs.wb_andP ?_ (fun _ => ?_) ?_ | refine' Fs.wb_orP ?_ (fun _ => ?_) ?_ | refine' Fs.wb_of ?_))
local macro_rules | `(tactic| fail) => `(tactic| refine' Fs.ws_cons ?_)
local macro_rules | `(tactic| fail) => `(tactic| refine' Fs.ws_nil ?_)
local macro_rules | `(tactic| fail) => `(tactic| (refine' Fs.gate1 ?_; first | refine' Fs.w1_set ?_ | refine' Fs.w1_ret ?_ | refine' Fs.w1_setT ?_ | refine' Fs.w1_set2 ?_ | refine' Fs.w1_app rfl ?_ | refine' Fs.w1_ins rfl ?_ | refine' Fs.w1_expr ?_ | refine' Fs.w1_rev rfl ?_ | refine' Fs.w1_ext rfl ?_ | refine' Fs.w1_setLc ?_ | refine' Fs.w1_for ?_ | refine' Fs.w1_retN ?_ | refine' Fs.w1_cont ?_ | refine' Fs.w1_brk ?_ | refine' Fs.w1_pass ?_))
local macro_rules | `(tactic| fail) => `(tactic| refine' Fs.wl_cons ?_)
local macro_rules | `(tactic| fail) => `(tactic| refine' Fs.wl_nil ?_)
local macro_rules | `(tactic| fail) => `(tactic| (refine' Fs.gateE ?_; first | refine' Fs.w_var rfl ?_ | refine' Fs.w_own rfl ?_ | refine' Fs.w_int ?_ | refine' Fs.w_bool ?_ | refine' Fs.w_non ?_ | refine' Fs.w_str ?_ | refine' Fs.w_glob ?_ | refine' Fs.w_call ?_ | refine' Fs.w_ix ?_ | refine' Fs.w_cmp ?_ | refine' Fs.w_bin ?_ | refine' Fs.w_one ?_ | refine' Fs.w_blt ?_ | refine' Fs.w_isi ?_ | refine' Fs.w_not ?_ | refine' Fs.w_isN ?_ | refine' Fs.w_notN ?_ | refine' Fs.w_tup ?_ | refine' Fs.w_lst ?_ | refine' Fs.w_and ?_ | refine' Fs.w_or ?_ | refine' Fs.w_sl ?_ | refine' Fs.w_lc ?_ | refine' Fs.w_neg ?_ | refine' Fs.w_cmp2P ?_ ?_))
namespace K1
open PySem L2 Fs
def ir_serves : ISs := (.cons (.ret (.and (.cons (.cmp .In (.var 2) (.ix (.var 0) (.int 0))) (.cons (.or (.cons (.cmp .Eq (.ix (.var 0) (.int 1)) (.tup .nil)) (.cons (.cmp .In (.var 1) (.ix (.var 0) (.int 1))) .nil))) .nil))))
  .nil)
def F_serves : Fn := runF 3 ir_serves
def betw (v : D) (lo hi : Int) : Bool := match v with
  | .int i => decide (lo ≤ i) && decide (i ≤ hi)
  | _ => false
def ltD : D → D → Bool
  | .int a, .int b => decide (a < b)
  | _, _ => false
/-- each less than the next -/
def asc (vs : List D) : Bool := (vs.zip (vs.drop 1)).all fun p => ltD p.1 p.2
def digitsB : D → Bool
  | .tuple vs => (vs.all fun x => betw x 0 9) && asc vs
  | _ => false
def stepB : D → Bool
  | .tuple [t, n] => betw t 0 1000 && betw n 0 20
  | _ => false
def fstD : D → D
  | .tuple (a :: _) => a
  | _ => .none
def eqz : D → Bool
  | .int i => decide (i = 0)
  | _ => false
def stepsB : D → Bool
  | .tuple vs => decide (1 ≤ vs.length) && decide (vs.length ≤ 4) && (vs.all stepB) && eqz (fstD (vs.headD .none)) && ((vs.zip (vs.drop 1)).all fun p => ltD (fstD p.1) (fstD p.2))
  | _ => false
def kindB : D → Bool
  | .tuple [a, b, c] => digitsB a && (!PyData.eqv a (.tuple [])) && digitsB b && stepsB c
  | _ => false
section
variable {v : D} {pn : Option Pn} {Q : D → Bool → Option Pn → Prop}
end
end K1

set_option Elab.async false
set_option linter.all false
set_option maxRecDepth 100000
set_option maxHeartbeats 8000000
namespace K1
open PySem L2 Fs
section
variable {v : D} {pn : Option Pn} {Q : D → Bool → Option Pn → Prop}
theorem Tm.nil : Tm (.tuple []) := ⟨by simp [tame, tames, okLen]⟩
theorem okEq_of {x y : D} (hx : good 60 x = true) (hy : good 60 y = true) : okEq x y = true := by
  unfold okEq
  split
  · rfl
  · rw [hx, hy]; rfl
end
def intsD (ns : List Int) : D := .tuple (ns.map .int)
def stepD (p : Int × Int) : D := .tuple [.int p.1, .int p.2]
def stepsD (l : List (Int × Int)) : D := .tuple (l.map stepD)
structure Kind where
  fe : List Int
  gr : List Int
  st : List (Int × Int)
def kindD (k : Kind) : D := .tuple [intsD k.fe, intsD k.gr, stepsD k.st]
def poolD (P : List Kind) : D := .tuple (P.map kindD)
structure Claim where
  g : Int
  f : Int
  s : Int
  e : Int
  k : Option Int
structure Digs (ns : List Int) : Prop where
  up : ns.Pairwise (· < ·)
  rg : ∀ n ∈ ns, 0 ≤ n ∧ n ≤ 9
  len : ns.length ≤ 10
structure StepsOkB (bm : Int) (l : List (Int × Int)) : Prop where
  len : 1 ≤ l.length ∧ l.length ≤ 4
  fst : ∀ p, l[0]? = some p → p.1 = 0
  up : l.Pairwise fun p q => p.1 < q.1
  rg : ∀ p ∈ l, 0 ≤ p.1 ∧ p.1 ≤ 1000 ∧ 0 ≤ p.2 ∧ p.2 ≤ bm
abbrev StepsOk (l : List (Int × Int)) : Prop := StepsOkB 20 l
structure KindOkB (bm : Int) (k : Kind) : Prop where
  fe : Digs k.fe
  ne : k.fe ≠ []
  gr : Digs k.gr
  st : StepsOkB bm k.st
abbrev KindOk (k : Kind) : Prop := KindOkB 20 k
structure PoolOkB (bm : Int) (P : List Kind) : Prop where
  len : 1 ≤ P.length ∧ P.length ≤ 6
  ks : ∀ k ∈ P, KindOkB bm k
def servesB (k : Kind) (g f : Int) : Bool := decide (f ∈ k.fe) && (decide (k.gr = []) || decide (g ∈ k.gr))
structure ClaimOk (P : List Kind) (c : Claim) : Prop where
  g : 0 ≤ c.g ∧ c.g ≤ 9
  f : 0 ≤ c.f ∧ c.f ≤ 9
  s : 0 ≤ c.s
  e : c.e ≤ 1000
  se : c.s < c.e
  k : ∀ i, c.k = some i → 0 ≤ i ∧ ∃ kd, P[i.toNat]? = some kd ∧ servesB kd c.g c.f = true
theorem zip_pw {α : Type} {R : α → α → Prop} : ∀ {xs : List α}, xs.Pairwise R → ∀ p, p ∈ xs.zip (xs.drop 1) → R p.1 p.2
  | [], _, p, m => by simp at m
  | [x], _, p, m => by simp at m
  | x :: y :: r, h, p, m => by
    rw [show (x :: y :: r).zip ((x :: y :: r).drop 1) = (x, y) :: (y :: r).zip r from rfl] at m
    rcases List.mem_cons.mp m with rfl | m
    · exact (List.pairwise_cons.mp h).1 _ (List.mem_cons_self ..)
    · exact zip_pw (List.pairwise_cons.mp h).2 p m
theorem asc_of {ns : List Int} (h : ns.Pairwise (· < ·)) : asc (ns.map .int) = true := by
  unfold asc
  rw [List.all_eq_true]
  intro p hp
  rw [← List.map_drop, List.zip_map] at hp
  obtain ⟨q, hq, rfl⟩ := List.mem_map.mp hp
  exact decide_eq_true (zip_pw h q hq)
theorem betw_of {i lo hi : Int} (h : lo ≤ i ∧ i ≤ hi) : betw (.int i) lo hi = true := by
  rw [betw, decide_eq_true h.1, decide_eq_true h.2]; rfl
theorem digits_of {ns : List Int} (h : Digs ns) : digitsB (intsD ns) = true := by
  show ((ns.map PyData.int).all (fun x => betw x 0 9) && asc (ns.map .int)) = true
  rw [asc_of h.up, Bool.and_true, List.all_eq_true]
  intro x hx
  obtain ⟨n, hn, rfl⟩ := List.mem_map.mp hx
  exact betw_of (h.rg n hn)
theorem steps_of {l : List (Int × Int)} (h : StepsOk l) : stepsB (stepsD l) = true := by
  show (decide (1 ≤ (l.map stepD).length) && decide ((l.map stepD).length ≤ 4) && ((l.map stepD).all stepB) && eqz (fstD ((l.map stepD).headD .none)) && (((l.map stepD).zip ((l.map stepD).drop 1)).all fun p => ltD (fstD p.1) (fstD p.2))) = true
  rw [List.length_map, decide_eq_true h.len.1, decide_eq_true h.len.2]
  have e1 : (l.map stepD).all stepB = true := by
    rw [List.all_eq_true]
    intro x hx
    obtain ⟨p, hp, rfl⟩ := List.mem_map.mp hx
    have r := h.rg p hp
    show (betw (.int p.1) 0 1000 && betw (.int p.2) 0 20) = true
    rw [betw_of ⟨r.1, r.2.1⟩, betw_of r.2.2]; rfl
  have e2 : eqz (fstD ((l.map stepD).headD .none)) = true := by
    cases l with
    | nil => have := h.len.1; simp at this
    | cons p r => exact decide_eq_true (h.fst p rfl)
  have e3 : ((l.map stepD).zip ((l.map stepD).drop 1)).all (fun p => ltD (fstD p.1) (fstD p.2)) = true := by
    rw [List.all_eq_true]
    intro p hp
    rw [← List.map_drop, List.zip_map] at hp
    obtain ⟨q, hq, rfl⟩ := List.mem_map.mp hp
    exact decide_eq_true (zip_pw h.up q hq)
  rw [e1, e2, e3]; rfl
theorem eqv_ints : ∀ {ms ns : List Int}, PyData.eqvAll (ms.map .int) (ns.map .int) = decide (ms = ns)
  | [], [] => rfl
  | [], n :: ns => rfl
  | m :: ms, [] => rfl
  | m :: ms, n :: ns => by
    rw [List.map_cons, List.map_cons, PyData.eqvAll, eqv_int, eqv_ints]
    by_cases h : m = n
    · subst h; simp
    · simp [h]
theorem eqv_intsD {ms ns : List Int} : PyData.eqv (intsD ms) (intsD ns) = decide (ms = ns) := by
  show PyData.eqv (.tuple _) (.tuple _) = _
  rw [PyData.eqv, eqv_ints]
theorem eqv_nil {ns : List Int} : PyData.eqv (intsD ns) (.tuple []) = decide (ns = []) := eqv_intsD (ns := [])
theorem kind_of {k : Kind} (h : KindOk k) : kindB (kindD k) = true := by
  show (digitsB (intsD k.fe) && (!PyData.eqv (intsD k.fe) (.tuple [])) && digitsB (intsD k.gr) && stepsB (stepsD k.st)) = true
  rw [digits_of h.fe, digits_of h.gr, steps_of h.st, eqv_nil, decide_eq_false h.ne]; rfl
theorem tame_ints {n : Nat} {ns : List Int} (h : ns.length ≤ 1000000) : tame (n + 1) (intsD ns) = true := by
  unfold intsD
  rw [tame, okLen, List.length_map, decide_eq_true h, tames_of]
  · rfl
  · intro x hx
    obtain ⟨i, _, rfl⟩ := List.mem_map.mp hx
    simp [tame]
theorem tame_tup {n : Nat} {xs : List D} (h : xs.length ≤ 1000000) (z : ∀ x ∈ xs, tame n x = true) : tame (n + 1) (.tuple xs) = true := by
  rw [tame, okLen, decide_eq_true h, tames_of z]; rfl
theorem tame_int {n : Nat} {i : Int} : tame n (.int i) = true := by simp [tame]
theorem tame_steps {n : Nat} {l : List (Int × Int)} (h : l.length ≤ 1000000) : tame (n + 2) (stepsD l) = true :=
  tame_tup (by simpa using h) fun x hx => by
    obtain ⟨p, _, rfl⟩ := List.mem_map.mp hx
    exact tame_tup (by simp) fun y hy => by simp at hy; rcases hy with rfl | rfl <;> exact tame_int
theorem tame_kind {n : Nat} {bm : Int} {k : Kind} (h : KindOkB bm k) : tame (n + 3) (kindD k) = true :=
  tame_tup (by simp) fun x hx => by
    have h1 := h.fe.len; have h2 := h.gr.len; have h3 := h.st.len
    simp only [List.mem_cons, List.not_mem_nil, or_false] at hx
    rcases hx with rfl | rfl | rfl
    · exact tame_ints (by omega)
    · exact tame_ints (by omega)
    · exact tame_steps (by omega)
theorem tame_pool {n : Nat} {bm : Int} {P : List Kind} (h : PoolOkB bm P) : tame (n + 4) (poolD P) = true :=
  tame_tup (by have := h.len; simp; omega) fun x hx => by
    obtain ⟨k, hk, rfl⟩ := List.mem_map.mp hx
    exact tame_kind (h.ks k hk)
theorem PoolOkB.tm {bm : Int} {P : List Kind} (h : PoolOkB bm P) : Tm (poolD P) := ⟨tame_pool h⟩
section
variable {v : D} {pn : Option Pn} {Q : D → Bool → Option Pn → Prop}
end
end K1

set_option Elab.async false
set_option linter.all false
set_option maxRecDepth 100000
set_option maxHeartbeats 8000000
namespace K1
open PySem L2 Fs
section
variable {v : D} {pn : Option Pn} {Q : D → Bool → Option Pn → Prop}
structure ClaimsOk (P : List Kind) (most : Nat) (cs : List Claim) : Prop where
  len : cs.length ≤ most
  cs : ∀ c ∈ cs, ClaimOk P c
end
end K1

set_option Elab.async false
set_option linter.all false
set_option maxRecDepth 100000
set_option maxHeartbeats 8000000
namespace K1
open PySem L2 Fs
abbrev pen : Option (D × Bool) := some (.dict [], false)
end K1

set_option Elab.async false
set_option linter.all false
set_option maxRecDepth 100000
set_option maxHeartbeats 8000000
namespace K1
open PySem L2 Fs
end K1

set_option Elab.async false
set_option linter.all false
set_option maxRecDepth 100000
set_option maxHeartbeats 8000000
namespace K1
open PySem L2 Fs
structure Sm (w : Nat) (d : D) : Prop where
  tm : tame 40 d = true
  sh : d.showable = true
  sl : d.leavesShort 22 = true
  wt : d.weight ≤ w
theorem Sm.mono {w u : Nat} {d : D} (h : Sm w d) (z : w ≤ u) : Sm u d := ⟨h.tm, h.sh, h.sl, Nat.le_trans h.wt z⟩
/-- of depth n at most -/
structure Smn (n w : Nat) (d : D) : Prop where
  tm : tame n d = true
  sh : d.showable = true
  sl : d.leavesShort 22 = true
  wt : d.weight ≤ w
theorem Smn.mono {n m w u : Nat} {d : D} (h : Smn n w d) (hn : n ≤ m) (z : w ≤ u) : Smn m u d := ⟨tame_le hn h.tm, h.sh, h.sl, Nat.le_trans h.wt z⟩
theorem law_of {irr : ISs} {s : S} (h : WS irr s (fun _ => False) fun f _ => f = .ret (.bool true) false) : ∃ s1, evalSs irr s = some (.ret (.bool true) false, s1) := by
  obtain ⟨f, s1, e, h⟩ := h.out
  cases f with
  | nx => exact h.elim
  | _ => exact ⟨s1, by rw [e, show _ = Fl.ret (.bool true) false from h]⟩
end K1

set_option Elab.async false
set_option linter.all false
set_option maxRecDepth 100000
set_option maxHeartbeats 8000000
namespace K1
open PySem L2 Fs
def ir_find_seats : ISs := (.cons (.ret (.ix (.lc (.var 4) (.t [3, 4]) (.seq (.ix (.ix (.var 0) (.var 1)) (.int 2))) (.cons (.cmp .LtE (.var 3) (.var 2)) .nil)) (.neg (.int 1))))
  .nil)
def F_find_seats : Fn := runF 5 ir_find_seats
def ir_find_serving : ISs := (.cons (.ret (.lc (.var 3) (.t [3, 4]) (.enum (.var 0)) (.cons (.call "serves" F_serves (.cons (.var 4) (.cons (.var 1) (.cons (.var 2) .nil)))) .nil)))
  .nil)
def F_find_serving : Fn := runF 5 ir_find_serving
def ir_find_kinds : ISs := (.cons (.ite (.isN (.ix (.var 1) (.int 4)))
  (.cons (.ret (.call "find_serving" F_find_serving (.cons (.var 0) (.cons (.ix (.var 1) (.int 0)) (.cons (.ix (.var 1) (.int 1)) .nil)))))
  .nil)
  .nil)
  (.cons (.ret (.lst (.cons (.ix (.var 1) (.int 4)) .nil)))
  .nil))
def F_find_kinds : Fn := runF 2 ir_find_kinds
section
variable {pn : Option Pn} {Q : D → Bool → Option Pn → Prop}
end
end K1

set_option Elab.async false
set_option linter.all false
set_option maxRecDepth 100000
set_option maxHeartbeats 8000000
namespace Fs
open PySem L2 K1
def kvsOf (sd : Ku.Sd) : List (Key × V) := sd.map fun p => (Sum.inl p.1, V.int p.2)
def kindsD (P c : D) : Option (List Int) := match F_find_kinds [P, c] none with
  | some ((.list xs, _), none) => intsOf xs
  | _ => none
def seatsD0 (P : D) (k t : Int) : Option Int := match F_find_seats [P, .int k, .int t] none with
  | some ((.int i, _), none) => some i
  | _ => none
def inP (P : D) (k : Int) : Bool := match P with
  | .tuple ps => decide (0 ≤ k) && decide (k < (ps.length : Nat))
  | _ => false
def cfgD (P : D) (cs : List D) (t : Int) : Ku.Cfg := ⟨fun n => ((cs[n.toNat]?).bind (kindsD P)).getD [], fun k => if inP P k = true then (seatsD0 P k t).getD 0 else 0⟩
/-- a claim's number, of which all is known -/
def okN (P : D) (cs : List D) (t n : Int) : Prop := (0 ≤ n ∧ n < (cs.length : Nat)) ∧ ∃ c ks, cs[n.toNat]? = some c ∧ kindsD P c = some ks ∧ ∀ k ∈ ks, (0 ≤ k ∧ k < (1000 : Nat)) ∧ inP P k = true ∧ ∃ i, seatsD0 P k t = some i
def okK (k : Int) : Prop := 0 ≤ k ∧ k < (1000 : Nat)
theorem okN.kinds {P : D} {cs : List D} {t n : Int} (h : okN P cs t n) : ∀ k ∈ (cfgD P cs t).ks n, okK k := by
  obtain ⟨_, c, ks, e1, e2, h⟩ := h
  intro k hk
  have : (cfgD P cs t).ks n = ks := by show ((cs[n.toNat]?).bind (kindsD P)).getD [] = _; rw [e1, Option.bind_some, e2]; rfl
  rw [this] at hk
  exact (h k hk).1
/-- where the pieces stand -/
structure Sit (H : Hp) (dd tt : Addr) (sd : Ku.Sd) (tr : List Int) : Prop where
  d : H dd = some (.dK (kvsOf sd))
  t : H tt = some (.lst (tr.map .int))
def Kept (dd tt : Addr) (H H1 : Hp) : Prop := ∀ x o, H x = some o → x ≠ dd → x ≠ tt → H1 x = some o
theorem Kept.refl {dd tt : Addr} {H : Hp} : Kept dd tt H H := fun _ _ h _ _ => h
theorem Kept.trans {dd tt : Addr} {H H1 H2 : Hp} (a : Kept dd tt H H1) (b : Kept dd tt H1 H2) : Kept dd tt H H2 := fun x o h n m => b x o (a x o h n m) n m
theorem Kept.of {dd tt : Addr} {H H1 : Hp} (a : Sub H H1) : Kept dd tt H H1 := fun x o h _ _ => a x o h
structure Std (G H : Hp) (a dd tt : Addr) (vp vc : V) (P : D) (cs : List D) (t : Int) : Prop where
  st : H a = some (.tup [vp, vc, .int t])
  sub : Sub G H
  rp : Rp none G vp P
  rc : Rp none G vc (.tuple cs)
  gd : G dd = none
  gt : G tt = none
  ne : dd ≠ tt
  na : a ≠ dd ∧ a ≠ tt
  cl : cs.length ≤ 1000
theorem Std.next {G H H1 : Hp} {a dd tt : Addr} {vp vc : V} {P : D} {cs : List D} {t : Int} (s : Std G H a dd tt vp vc P cs t) (k : Kept dd tt H H1) : Std G H1 a dd tt vp vc P cs t :=
  ⟨k _ _ s.st s.na.1 s.na.2, fun x o h => k x o (s.sub x o h) (fun e => by rw [e, s.gd] at h; cases h) (fun e => by rw [e, s.gt] at h; cases h), s.rp, s.rc, s.gd, s.gt, s.ne, s.na, s.cl⟩
end Fs

set_option Elab.async false
set_option linter.all false
set_option maxRecDepth 100000
set_option maxHeartbeats 8000000
set_option pp.maxSteps 300
set_option pp.deepTerms.threshold 6
namespace Fs
open PySem L2 K1
end Fs

set_option Elab.async false
set_option linter.all false
set_option maxRecDepth 100000
set_option maxHeartbeats 8000000
set_option pp.maxSteps 300
set_option pp.deepTerms.threshold 6
namespace Fs
open PySem L2 K1
theorem Res.ints {pa : PA} {G H H1 : Hp} {v : V} {ns : List Int} (h : Res pa G H v (.list (ns.map .int)) true H1) : Sub H H1 ∧ ∃ w xs, v = .ref w ∧ H w = none ∧ H1 w = some (.lst xs) ∧ Rps pa G xs (ns.map .int) := by
  obtain ⟨s, r⟩ := h
  rcases r with ⟨z, _⟩ | ⟨_, ⟨w, xs, ds, rfl, ed, hw, h1, r⟩ | ⟨w, as, es, rfl, ed, hw, h1, nd, na, nw⟩⟩
  · cases z
  · cases ed
    exact ⟨s, w, xs, rfl, hw, h1, r⟩
  · injection ed with ed
    cases ns with
    | nil =>
      subst ed
      cases nw
      exact ⟨s, w, [], rfl, hw, h1, .nil⟩
    | cons n ns =>
      subst ed
      nomatch nw
end Fs

set_option Elab.async false
set_option linter.all false
set_option maxRecDepth 100000
set_option maxHeartbeats 8000000
set_option pp.maxSteps 300
set_option pp.deepTerms.threshold 6
namespace Fs
open PySem L2 K1
mutual
theorem Rp.noPen {pa : PA} {G : Hp} : ∀ {n : Nat} {v : V} {d : D}, good n d = true → Rp pa G v d → Rp none G v d
  | _, _, _, _, .non => .non
  | _, _, _, _, .bl b => .bl b
  | _, _, _, _, .int i => .int i
  | _, _, _, _, .str x => .str x
  | 0, _, _, g, .lst h r => by rw [good] at g <;> first | cases g | (intro _ _ z; cases z) | skip
  | n + 1, _, _, g, .lst h r => .lst h (Rps.noPen (by simpa [good] using g) r)
  | 0, _, _, g, .tup h r => by rw [good] at g <;> first | cases g | (intro _ _ z; cases z) | skip
  | n + 1, _, _, g, .tup h r => .tup h (Rps.noPen (by simpa [good] using g) r)
  | 0, _, _, g, .pen h => by cases g
  | n + 1, _, _, g, .pen h => by cases g
theorem Rps.noPen {pa : PA} {G : Hp} : ∀ {n : Nat} {vs : List V} {ds : List D}, goods n ds = true → Rps pa G vs ds → Rps none G vs ds
  | _, _, _, _, .nil => .nil
  | n, _, _, g, .cons r t => by
    rw [goods] at g
    obtain ⟨g1, g2⟩ := and1 g
    exact .cons (Rp.noPen g1 r) (Rps.noPen g2 t)
end
section
variable {W : Wd} {k : Nat} {f : Addr} {name qual : Str} {params : Arguments} {body : List Stmt} {scope : Scope} {dV kV doc pm cdv ct oc : Value} {an od : Option Addr} {osl : Array (Option Value)}
end
section
variable {W : Wd} {k : Nat} {st : Stmt}
end
end Fs

set_option Elab.async false
set_option linter.all false
set_option maxRecDepth 100000
set_option maxHeartbeats 8000000
namespace K1
open PySem L2 Fs
section
variable {pn : Option Pn} {Q : D → Bool → Option Pn → Prop}
end
end K1

set_option Elab.async false
set_option linter.all false
set_option maxRecDepth 100000
set_option maxHeartbeats 8000000
namespace K1
open PySem L2 Fs
section
variable {v : D} {pn : Option Pn} {Q : D → Bool → Option Pn → Prop}
end
end K1

set_option Elab.async false
set_option linter.all false
set_option maxRecDepth 100000
set_option maxHeartbeats 8000000
namespace K1
open PySem L2 Fs
section
variable {v : D} {pn : Option Pn} {Q : D → Bool → Option Pn → Prop} {P : List Kind} {cs : List Claim} {ns : List Int} {t : Int}
end
end K1

set_option Elab.async false
set_option linter.all false
set_option maxRecDepth 100000
set_option maxHeartbeats 8000000
set_option pp.maxSteps 300
namespace K1
open PySem L2 Fs
section
variable {P : List Kind} {cs : List Claim} {t : Int}
variable {pn : Option Pn} {Q : D → Bool → Option Pn → Prop}
end
end K1

set_option Elab.async false
set_option linter.all false
set_option maxRecDepth 100000
set_option maxHeartbeats 8000000
set_option pp.maxSteps 400
namespace K1
open PySem L2 Fs
section
variable {pn : Option Pn} {Q : D → Bool → Option Pn → Prop} {P : List Kind} {cs : List Claim} {t : Int}
end
end K1

set_option Elab.async false
set_option linter.all false
set_option maxRecDepth 100000
set_option maxHeartbeats 4000000
namespace Fs
open PySem PySem.Spec PyProof.Rows L2
section
variable {X : Cx} {pins : List (Addr × Obj)} {σ : L2.St} {H : Hp} {s : Shared} {a : Addr} {oe : Obj} {vs : Array Value} {cls : Value} {d : Option Addr}
theorem exT_ok (e : s.heap.get? a = some oe) (z : L2.Zc cls d oe) (f : oe.data = .fields vs) : ObjOk X.prog X.w H s.heap a (exT cls d a) :=
  ⟨⟨oe, vs, e, z, f⟩, ⟨oe, e⟩, fun h1 h2 ⟨o, v, q, r⟩ k => ⟨o, v, k o q, r⟩⟩
/-- what is there, and was not there at the start, may be tracked -/
theorem inv_track (I : Inv X pins σ H s) (n0 : X.s_0.heap.get? a = none) (na : H a = none) (nL : a ≠ X.env.locals) (hpin : ∀ p ∈ X.pn ++ pins, p.1 ≠ a)
    (e : s.heap.get? a = some oe) (z : L2.Zc cls d oe) (f : oe.data = .fields vs) : Inv X pins σ (upd H a (exT cls d a)) s := by
  have far : ∀ {b : Addr} {u : HO}, H b = some u → b ≠ a := fun {b u} q w => by
    rw [w, na] at q
    cases q
  refine ⟨I.ok, I.os, I.bare, ⟨I.base.keep, I.base.slot, fun b o q n hx => ?_, I.base.there, fun b xs q => ?_, fun b o u q => ?_, fun b ps q => ?_⟩, I.loc, I.cell, ?_, fun x c q => ?_, fun p hp => ?_, fun b u q => ?_, I.len⟩
  · have hb : b ≠ a := fun w => by
      rw [w, n0] at q
      cases q
    rw [upd_ne hb]
    exact I.base.free b o q n hx
  · have q1 := I.base.tups b xs q
    rwa [upd_ne (far q1)]
  · have q1 := I.base.frzs b o u q
    rwa [upd_ne (far q1)]
  · obtain ⟨m, q1⟩ := I.base.tbls b ps q
    exact ⟨m, by rwa [upd_ne (far q1)]⟩
  · rw [upd_ne (Ne.symm nL)]
    exact I.free
  · have hc : c ≠ a := fun w => by
      obtain ⟨v, o, ho, hd⟩ := I.cell x c q
      rw [w, e] at ho
      cases ho
      rw [f] at hd
      cases hd
    rw [upd_ne hc]
    exact I.freeC x c q
  · obtain ⟨p1, p2, p3⟩ := I.pin p hp
    exact ⟨p1, by rw [upd_ne (hpin p hp)]; exact p2, p3⟩
  · by_cases hb : b = a
    · subst hb
      rw [upd_same] at q
      cases q
      exact exT_ok e z f
    · rw [upd_ne hb] at q
      exact (I.hok b u q).stay (fun c v _ w => w) (fun c w => by rwa [upd_ne (far w)]) fun c xs w => by rwa [upd_ne (far w)]
end
/-- what is known of an exception that is caught -/
structure Got (X : Cx) (pins : List (Addr × Obj)) (σ : L2.St) (H : Hp) (s : Shared) (a : Addr) (cls : Value) (d : Option Addr) (oe : Obj) : Prop where
  inv : Inv X pins σ H s
  obj : s.heap.get? a = some oe
  zc : L2.Zc cls d oe
  fld : ∃ vs, oe.data = .fields vs
  un : H a = none
  loc : a ≠ X.env.locals
  fs : a ∉ X.fs
  new : X.s_0.heap.get? a = none
  pin : ∀ p ∈ X.pn ++ pins, p.1 ≠ a
/-- the caught one, kept in the j-th name -/
def wKeep (K : PySem.W.Frag) (c : Value) (i j : Nat) (Wout : WX) (D : Ends) : WX := fun cls d σ H =>
  ∃ b, PySem.W.exmOne K cls c = some b ∧ (b = true → ∀ a, H a = none → D.nx (((σ.set i (some (.ref a))).set j (some (.ref a))).set i none) (upd H a (exT cls d a))) ∧ (b = false → Wout cls d σ H)
section
variable {X : Cx} {x n : Str} {c : Value} {i j : Nat} {body suite : List Stmt} {np pos pos' : Pos} {tb : WX → TS} {Wout : WX}
/-- what the suite does: the name's value goes to the j-th name -/
abbrev tKeep (i j : Nat) : TS := fun D σ H => ∃ v, σ[i]? = some (some v) ∧ D.nx (σ.set j (some v)) H
/-- the suite, and the end of the caught one's name -/
theorem keep_suite {pins : List (Addr × Obj)} {σ : L2.St} {H : Hp} {s : Shared} {a : Addr} {cls : Value} {d : Option Addr} {oe : Obj} {D : Ends} (hN : X.N.Nodup) (hi : X.N[i]? = some n) (hln : X.env.kindOf n = some .local) (ok : X.Ok) (g : Got X pins σ H s a cls d oe)
    (su : PSs (X.suite a ((a, oe) :: (X.pn ++ pins))) suite (tKeep i j)) (q : D.nx (((σ.set i (some (.ref a))).set j (some (.ref a))).set i none) (upd H a (exT cls d a))) :
    wpAny (model X.prog X.w) (X.A.mark (some (.ref a))) (storeName X.env n (.ref a)) (fun _ s5 => wpAny (model X.prog X.w) (X.A.mark (some (.ref a))) (execs suite X.env) (fun f s6 => wpAny (model X.prog X.w) X.A (do bindName X.env n .none; unbindBehindTheSuite X.env n pos') (fun _ s7 => SP X pins D f s7) X.xe s6) (fun _ _ => False) s5) (fun _ _ => False) s := by
  obtain ⟨vs, hd⟩ := g.fld
  have hil : i < σ.length := by
    rw [g.inv.len]
    exact (List.getElem?_eq_some_iff.mp hi).1
  refine store_ok (X := X.suite a ((a, oe) :: (X.pn ++ pins))) (v := .ref a) (g.inv.suite g.obj hd g.un g.loc g.fs) hN hi (.inl hln) rfl (fun s5 S5 => ?_) (.inr hln)
  refine wpAny_mono (su.run [] s5 _ H { nx := fun σ6 H6 => σ6 = (σ.set i (some (.ref a))).set j (some (.ref a)) ∧ H6 = H, rt := fun _ _ => False } S5 ⟨.ref a, List.getElem?_set_self hil, rfl, rfl⟩) (fun f s6 r => ?_) fun _ _ z => z
  cases f with
  | next =>
    obtain ⟨σ6, H6, S6, rfl, rfl⟩ := r
    have U : Inv X ((a, oe) :: pins) ((σ.set i (some (.ref a))).set j (some (.ref a))) H6 s6 := by
      refine ⟨ok, S6.os, S6.bare, S6.base, S6.loc, S6.cell, S6.free, S6.freeC, fun p hp => ?_, S6.hok, S6.len⟩
      refine S6.pin p ?_
      rw [List.append_nil]
      rcases List.mem_append.mp hp with hp | hp
      · exact List.mem_cons_of_mem _ (List.mem_append_left _ hp)
      · rcases List.mem_cons.mp hp with rfl | hp
        · exact List.mem_cons_self ..
        · exact List.mem_cons_of_mem _ (List.mem_append_right _ hp)
    refine gone_ok U hN hi hln fun s7 J7 => ?_
    have h7 := (J7.pin (a, oe) (List.mem_append_right _ (List.mem_cons_self ..))).1
    have J : Inv X pins (((σ.set i (some (.ref a))).set j (some (.ref a))).set i none) H6 s7 := ⟨J7.ok, J7.os, J7.bare, J7.base, J7.loc, J7.cell, J7.free, J7.freeC, fun p hp => J7.pin p (by
      rcases List.mem_append.mp hp with hp | hp
      · exact List.mem_append_left _ hp
      · exact List.mem_append_right _ (List.mem_cons_of_mem _ hp)), J7.hok, J7.len⟩
    exact ⟨_, _, inv_track J g.new g.un g.loc g.pin h7 g.zc hd, q⟩
  | brk =>
    obtain ⟨_, _, _, z⟩ := r
    exact z.elim
  | cont =>
    obtain ⟨_, _, _, z⟩ := r
    exact z.elim
  | ret u =>
    obtain ⟨_, _, _, _, _, z⟩ := r
    exact z.elim
/-- an exception that has landed: what is known of it -/
theorem got_of {pins pins' : List (Addr × Obj)} {σ : L2.St} {H : Hp} {sI s' : Shared} {B h3 : Heap} {a : Addr} {cls : Value} {d : Option Addr} {xe : Value → Shared → Prop} (hs : X.stack = X.env :: X.outer) (hf : X.env.frame = some X.env.locals) (hex : X.ex = []) (ok : X.Ok)
    (J' : Inv (X.tr (X.pn ++ pins) xe) pins' σ H sI) (nb : ∀ b o, sI.heap.get? b = some o → b ∉ frs X.stack → B.get? b = some o) (fl : HandSPX.FlyingZ B (X.env :: X.outer) a (L2.Zc cls d) h3) (up : sI.heap.UpToSlots h3) (na : H a = none) (os : s'.os = sI.os) (ag : AllBare s'.gens) :
    ∃ oe, Got X pins σ H { s' with heap := h3 } a cls d oe := by
  have J := J'.ofTry ok
  obtain ⟨oe, vs, he, hz, hd⟩ := fl.there
  have away : a ∉ frs (X.env :: X.outer) := fun hm => by
    obtain ⟨_, o, e1, e2⟩ := fl.2.2.1.mem hm
    rw [he] at e1
    cases e1
    exact e2 _ hd
  have nofs : a ∉ X.fs := fun hm => by
    obtain ⟨e, h1, h2⟩ := List.mem_filterMap.mp hm
    exact away (List.mem_filterMap.mpr ⟨e, List.mem_cons_of_mem _ h1, h2⟩)
  have gone : sI.heap.get? a = none := by
    cases q : sI.heap.get? a with
    | none => rfl
    | some o =>
      have := nb a o q (by rw [hs]; exact away)
      rw [fl.2.1] at this
      cases this
  refine ⟨oe, J.landed nb fl.1 up os ag, he, hz, ⟨vs, hd⟩, na, fun e => away (List.mem_filterMap.mpr ⟨X.env, List.mem_cons_self .., by rw [hf, e]⟩), nofs, ?_, fun p hp e => ?_⟩
  · cases q : X.s_0.heap.get? a with
    | none => rfl
    | some o =>
      obtain ⟨o2, q2⟩ := J.base.there a o q (by rw [hex]; simp)
      rw [gone] at q2
      cases q2
  · have := (J.pin p hp).1
    rw [e, gone] at this
    cases this
theorem ps_try_keep {b₀ : Stmt} (hs : X.stack = X.env :: X.outer) (hf : X.env.frame = some X.env.locals) (hex : X.ex = []) (hN : X.N.Nodup) (hi : X.N[i]? = some n) (hln : X.env.kindOf n = some .local) (hc : Names X x c) (tk : Takes X Wout)
    (hb : ∀ (W0 : WX) (l : List (Addr × Obj)) (out : Value → Shared → Prop), Takes (X.tr l out) W0 → PassesOwn (model X.prog X.w) X.A X.env out → PSs (X.tr l out) body (tb W0))
    (su : ∀ (a : Addr) (oe : Obj) (pn : List (Addr × Obj)), PSs (X.suite a ((a, oe) :: pn)) (b₀ :: suite) (tKeep i j)) :
    PS X (.Try body [.ExceptHandler (some (.Name x np)) (some n) (b₀ :: suite) pos'] [] [] pos) (fun D σ H => tb (wKeep X.K c i j Wout D) D σ H) := by
  refine ⟨fun ps0 s σ H D I h => ?_⟩
  have ok := I.ok
  have now := ok.frames.trans (congrArg some hs)
  refine wpAny_Try_except ?_
  refine wpAny_mono ((hb (wKeep X.K c i j Wout D) (X.pn ++ ps0) _ (fun u s' xx => ?_) PassesOwn.looking).run [] s σ H D (I.toTry _) h) (fun f s1 r => ?_) (fun e s1 he => he)
  · obtain ⟨a, B, sI, pins', σ', H', cls, d, rfl, J', nb, up, sky, na, os, ag, b, hb1, hyes, hno⟩ := xx
    rw [hs] at sky
    change wpAny (model X.prog X.w) X.A (noteFrame (Value.ref a) X.env) _ _ _
    refine Sky.land Zc.steady now hf sky fun h3 fl3 up3 => ?_
    obtain ⟨oe3, g3⟩ := got_of hs hf hex ok J' nb fl3 (up.trans up3) na os ag
    obtain ⟨vs3, hd3⟩ := g3.fld
    have S3 := g3.inv.suite g3.obj hd3 na g3.loc g3.fs
    refine wpAny_handleBy_cons (codeAny_handlers_test ?_) (fun w => nomatch w)
    have LT : PySem.W.Looks (model X.prog X.w) h3 (typeOf (.ref a)) cls := fun A Q E s k q => wpAny_typeOf_ref (k _ _ g3.obj) (by rw [g3.zc.1]; exact q)
    have LM := PySem.W.exm_one (M := model X.prog X.w) g3.inv.kIn LT hb1
    have look : ∀ {Q E : Value → Shared → Prop}, Q c { s' with heap := h3 } → wpAny (model X.prog X.w) (X.A.mark (some (.ref a))) (eval (.Name x np) X.env) Q E { s' with heap := h3 } := fun {Q E} q => by
      obtain ⟨c1, c2, c3 | ⟨c3, c4, c5⟩⟩ := hc
      · exact ld_glob (X := X.suite a ((a, oe3) :: (X.pn ++ ps0))) S3 c1 c3 q c2
      · exact ld_blt (X := X.suite a ((a, oe3) :: (X.pn ++ ps0))) S3 c1 c3 c4 q c5 c2
    refine look (LM.here ?_)
    cases b with
    | true =>
      refine codeAny_handlers_suite_as ?_
      refine HandSPX.lands_againZ fl3 fun hp4 fly4 up4 => ?_
      obtain ⟨oe4, g4⟩ := got_of hs hf hex ok J' nb fly4 ((up.trans up3).trans up4) na os ag
      refine wpAny_mono (keep_suite (pos' := pos') hN hi hln ok g4 (su a oe4 _) (hyes rfl a na)) (fun _ s5 h5 => wpAny_mono h5 (fun f s6 h6 => h6) fun _ _ z => False.elim z) fun _ _ z => False.elim z
    | false =>
      change wpAny _ X.A (handleBy (Value.ref a) X.env []) _ _ _
      refine wpAny_handleBy_nil ?_
      have land := fl3
      obtain ⟨-, -, -, o1, v1, T, -, -, e1, -, f1, t1, -⟩ := land
      unfold PySem.passOn
      refine wpAny_bind (wpAny_field e1 f1 t1 ?_)
      rw [if_neg (by simp : ¬ (Value.ref T == Value.none) = true)]
      have off : wpAny (model X.prog X.w) X.A (setFlight (.ref a) X.env.frame) (fun _ s4 => wpAny (model X.prog X.w) X.A (throw (.ref a) : Sem Flow) (SP X ps0 D) X.xe s4) X.xe { s' with heap := h3 } := by
        rw [hf]
        refine HandSPX.setFlight_upZ fl3 fun h4 hold up4 => wpAny_throw (tk _ _ ?_)
        exact ⟨a, B, sI, ps0, σ', H', cls, d, rfl, J'.ofTry ok, nb, (up.trans up3).trans up4, .inr (.inr (by rw [hs]; exact hold)), na, os, ag, hno rfl⟩
      first
        | exact wpAny_bind (wpAny_pure (wpAny_bind off))
        | exact wpAny_bind off
  · cases f with
    | next =>
      obtain ⟨σ1, H1, K1, q1⟩ := r
      exact wpAny_execs_nil ⟨σ1, H1, K1.ofTry ok, q1⟩
    | brk =>
      obtain ⟨σ1, H1, K1, q1⟩ := r
      exact ⟨σ1, H1, K1.ofTry ok, q1⟩
    | cont =>
      obtain ⟨σ1, H1, K1, q1⟩ := r
      exact ⟨σ1, H1, K1.ofTry ok, q1⟩
    | ret u =>
      obtain ⟨v, σ1, H1, K1, r1, q1⟩ := r
      exact ⟨v, σ1, H1, K1.ofTry ok, r1, q1⟩
end
end Fs

set_option Elab.async false
set_option linter.all false
set_option maxRecDepth 100000
set_option maxHeartbeats 4000000
namespace Fs
open PySem PySem.Spec PyProof.Rows L2
abbrev GSpX := List V → Hp → VK → XK → Prop
structure GFnX (W : Wd) (k : Nat) (f : Addr) (fd : FuncData) (ps : List Str) (sp : GSpX) : Prop where
  len : ∀ ws H0 Q0 E0, sp ws H0 Q0 E0 → ws.length = ps.length
  run : ∀ (A : Around) (outer : List Env) (s : Shared) (H : Hp) (args : Args) (us : List Value) (vs : List V) (Q : VK) (E : XK),
    Room k A → A.guards = some [] → Env0 W.P W.w W.K W.mg W.base A outer s H → BindsTo s fd args (ps.zip us) → Vals vs us → sp vs H Q E →
    codeAny (model W.P W.w) A (.call (.ref f) args) (CR (L2.CX W.P W.w) outer W.P W.w H s Q E) s
theorem GFnX.mono {W : Wd} {j k : Nat} {f : Addr} {fd : FuncData} {ps : List Str} {sp : GSpX} (F : GFnX W j f fd ps sp) (h : j ≤ k) : GFnX W k f fd ps sp :=
  ⟨F.len, fun A outer s H args us vs Q E hr => F.run A outer s H args us vs Q E (hr.mono h)⟩
theorem GFnX.imp {W : Wd} {k : Nat} {f : Addr} {fd : FuncData} {ps : List Str} {sp sp' : GSpX} (F : GFnX W k f fd ps sp) (h : ∀ vs H Q E, sp' vs H Q E → sp vs H Q E) : GFnX W k f fd ps sp' :=
  ⟨fun vs H Q E z => F.len vs H Q E (h vs H Q E z), fun A outer s H args us vs Q E hr hg e0 b rv z => F.run A outer s H args us vs Q E hr hg e0 b rv (h vs H Q E z)⟩
end Fs

set_option Elab.async false
set_option linter.all false
set_option maxRecDepth 100000
set_option maxHeartbeats 4000000
namespace Fs
open PySem PySem.Spec PyProof.Rows L2
/-- an exception class of the program -/
structure OwnX (W : Wd) (x : Str) (C : Addr) : Prop where
  ex : ∃ (bmB : List Value) (B newId initId : String), ExcBaseFacts B newId initId bmB ∧ PySem.W.excIn W.K C bmB newId = true
  gl : W.mg x = some (.ref C)
  kp : PySem.W.keepIn W.K (.ref C) = true
  sub : PySem.W.subIn W.K (.ref C) (.type "BaseException") = some true
  ty : PySem.W.typeIn W.K (.ref C) = some (.type "type")
end Fs

set_option Elab.async false
set_option linter.all false
set_option maxRecDepth 100000
set_option maxHeartbeats 4000000
namespace Fs
open PySem PySem.Spec PyProof.Rows L2
inductive ResX where
  | ok (d : D) (fr : Bool) (pn : Option Pn)
  | exc (c : Str) (pn : Option Pn)
abbrev FnX := List D → Option Pn → Option ResX
mutual
inductive Xt where
  | st (s : IS)
  | ifr (c : IE) (x m : Str)
  | cal (x : Str) (F : FnX) (es : IEs)
  | asg (i : Nat) (x : Str) (F : FnX) (es : IEs)
  | ife (c : IE) (a b : Xts)
  | try_ (i j : Nat) (h : Str) (adr : Str → Nat) (names : List Str) (body : Xts)
  | ret (x : Str) (F : FnX) (es : IEs)
  | rit (c : IE) (x : Str) (F : FnX) (es : IEs) (y : Str) (F2 : FnX) (fs : IEs)
inductive Xts where
  | nil | cons (t : Xt) (ts : Xts)
end
inductive FlX where
  | fl (f : Fl) | exc (c : Str)
inductive CalX where
  | val (d : D) (fr : Bool) | exc (c : Str)
def callX (F : FnX) (es : IEs) (s : S) : Option (CalX × S) :=
  (evalEs es s).bind fun r => (F (r.1.map (·.1)) r.2.pn).map fun o => match o with
    | .exc c p => (.exc c, { (r.2.keeps (r.1.map (·.2))) with pn := p })
    | .ok d fr p => (.val d fr, { (r.2.keeps (r.1.map (·.2))) with pn := p })
def retX (o : Option (CalX × S)) : Option (FlX × S) := o.map fun r => match r.1 with
  | .exc c => (.exc c, r.2)
  | .val d fr => (.fl (.ret d fr), r.2)
mutual
def evalX : Xt → S → Option (FlX × S)
  | .st st, s => (evalS st s).map fun r => (.fl r.1, r.2)
  | .ifr c x _, s => (boolD (evalE c s)).map fun r => if r.1 = true then (.exc x, r.2) else (.fl .nx, r.2)
  | .cal _ F es, s => (callX F es s).map fun r => match r.1 with
    | .exc c => (.exc c, r.2)
    | .val _ _ => (.fl .nx, r.2)
  | .asg i _ F es, s => (callX F es s).bind fun r => match r.1 with
    | .exc c => some (.exc c, r.2)
    | .val d fr => if i < r.2.sl.length then some (.fl .nx, r.2.put i (d, fr)) else none
  | .ife c a b, s => (boolD (evalE c s)).bind fun r => if r.1 = true then evalXs a r.2 else evalXs b r.2
  | .try_ i j _ adr names body, s => (evalXs body s).bind fun r => match r.1 with
    | .exc c => if c ∈ names ∧ i < r.2.sl.length ∧ j < r.2.sl.length ∧ i ≠ j then some (.fl .nx, (r.2.put j (excD adr c, false)).wipe [i]) else none
    | .fl f => some (.fl f, r.2)
  | .ret _ F es, s => retX (callX F es s)
  | .rit c _ F es _ F2 fs, s => (boolD (evalE c s)).bind fun r => if r.1 = true then retX (callX F es r.2) else retX (callX F2 fs r.2)
def evalXs : Xts → S → Option (FlX × S)
  | .nil, s => some (.fl .nx, s)
  | .cons t ts, s => (evalX t s).bind fun r => match r.1 with
    | .fl .nx => evalXs ts r.2
    | f => some (f, r.2)
end
def noF : Fn := fun _ _ => none
mutual
def emX (N : List Str) : Xt → Em → Stmt × Em
  | .st s, E => emS N s E
  | .ifr c x m, E =>
    let r := emE N c E.np
    (.If r.1 [.Raise (some (.Call (.Name x r.2.np.np.p) [.Constant (.str m) 0 r.2.np.np.np.p] [] r.2.np.p)) none r.2.p] [] E.p, r.2.np.np.np.np)
  | .cal x _ es, E => emS N (.expr (.call x noF es)) E
  | .asg i x _ es, E => emS N (.set i (.call x noF es)) E
  | .ife c a b, E =>
    let r := emE N c E.np
    let q := emXs N a r.2
    let t := emXs N b q.2
    (.If r.1 q.1 t.1 E.p, t.2)
  | .try_ i j h _ _ body, E =>
    let q := emXs N body E.np
    (.Try q.1 [.ExceptHandler (some (.Name h q.2.np.p)) (some (nm N i)) [.Assign [.Name (nm N j) q.2.np.np.np.p] (.Name (nm N i) q.2.np.np.np.np.p) q.2.np.np.p] q.2.p] [] [] E.p, q.2.np.np.np.np.np)
  | .ret x _ es, E => emS N (.ret (.call x noF es)) E
  | .rit c x _ es y _ fs, E => emS N (.ret (.ite c (.call x noF es) (.call y noF fs))) E
def emXs (N : List Str) : Xts → Em → List Stmt × Em
  | .nil, E => ([], E)
  | .cons s ss, E =>
    let r := emX N s E
    let q := emXs N ss r.2
    (r.1 :: q.1, q.2)
end
mutual
def okX (N : List Str) (sc : Scope) : Xt → Em → Bool
  | .st s, E => okS N sc s E
  | .ifr c x _, E => okE N sc c E.np && glB sc x
  | .cal x _ es, E => okS N sc (.expr (.call x noF es)) E
  | .asg i x _ es, E => okS N sc (.set i (.call x noF es)) E
  | .ife c a b, E => okE N sc c E.np && (okXs N sc a (emE N c E.np).2 && okXs N sc b (emXs N a (emE N c E.np).2).2)
  | .try_ i j h _ _ body, E => okXs N sc body E.np && (glB sc h && (plB N sc i && (visB N sc i && (locB N sc j && kindF sc))))
  | .ret x _ es, E => okE N sc (.call x noF es) E.np
  | .rit c x _ es y _ fs, E => okE N sc c E.np.np && (okE N sc (.call x noF es) (emE N c E.np.np).2 && okE N sc (.call y noF fs) (emE N (.call x noF es) (emE N c E.np.np).2).2)
def okXs (N : List Str) (sc : Scope) : Xts → Em → Bool
  | .nil, _ => true
  | .cons s ss, E => okX N sc s E && okXs N sc ss (emX N s E).2
end
def KeepP (pa : PA) (G H H1 G1 : Hp) (p : Option Pn) : Prop := (∀ a o, H a = some o → ¬ pen1 pa a → H1 a = some o) ∧ Sub G G1 ∧ Sub G1 H1 ∧ (∀ a o, G1 a = some o → G a = some o ∨ H a = none) ∧ PenAt pa G1 H1 p
def OutR (W : Wd) (Q : VK) (E : XK) (pa : PA) (G H : Hp) : ResX → Prop
  | .exc c p => ∃ C, OwnX W c C ∧ ∀ H1 G1, KeepP pa G H H1 G1 p → E (.ref C) none H1
  | .ok d fr p => ∀ v H1 G1, KeepP pa G H H1 G1 p → (if fr = true then ∃ a xs es, v = .ref a ∧ d = .list es ∧ H a = none ∧ H1 a = some (.lst xs) ∧ Rps pa G1 xs es ∧ G1 a = none else Rp pa G1 v d) → Q v H1
def spR (W : Wd) (F : FnX) (n : Nat) : GSpX := fun vs H Q E => ∃ pa G ds p r, ds.length = n ∧ Sub G H ∧ PenAt pa G H p ∧ Rps pa G vs ds ∧ F ds p = some r ∧ OutR W Q E pa G H r
structure CallX (W : Wd) (k : Nat) (x : Str) (n : Nat) (F : FnX) : Prop where
  of : ∃ f fd ps, GFnX W k f fd ps (spR W F n) ∧ W.mg x = some (.ref f) ∧ PySem.W.keepIn W.K (.ref f) = true ∧ L2.Binds W.K fd ps []
theorem CallX.mono {W : Wd} {j k : Nat} {x : Str} {n : Nat} {F : FnX} (c : CallX W j x n F) (h : j ≤ k) : CallX W k x n F := by
  obtain ⟨⟨f, fd, ps, G, r⟩⟩ := c
  exact ⟨f, fd, ps, G.mono h, r⟩
/-- the handler's class h takes all of names -/
def TakesX (W : Wd) (h : Str) (adr : Str → Nat) (names : List Str) : Prop := ∃ cv, (W.mg h = some cv ∨ (W.mg h = none ∧ bootBuiltins h = some cv ∧ h ≠ "__name__")) ∧
  ∀ c, c ∈ names → OwnX W c (adr c) ∧ PySem.W.exmOne W.K (.ref (adr c)) cv = some true
mutual
def askX (W : Wd) (k : Nat) : Xt → Prop
  | .st s => askS (askOf W k) s
  | .ifr c x _ => askE (askOf W k) c ∧ ∃ C, OwnX W x C
  | .cal x F es => CallX W k x es.len F ∧ askEs (askOf W k) es
  | .asg _ x F es => CallX W k x es.len F ∧ askEs (askOf W k) es
  | .ife c a b => askE (askOf W k) c ∧ askXs W k a ∧ askXs W k b
  | .try_ _ _ h adr names body => TakesX W h adr names ∧ askXs W k body
  | .ret x F es => CallX W k x es.len F ∧ askEs (askOf W k) es
  | .rit c x F es y F2 fs => askE (askOf W k) c ∧ (CallX W k x es.len F ∧ askEs (askOf W k) es) ∧ (CallX W k y fs.len F2 ∧ askEs (askOf W k) fs)
def askXs (W : Wd) (k : Nat) : Xts → Prop
  | .nil => True
  | .cons s ss => askX W k s ∧ askXs W k ss
end
def EndR (W : Wd) (E : WX) (Ds : Ends) (pa : PA) (H0 G0 G : Hp) (s1 : S) : FlX → Prop
  | .exc c => ∃ C, OwnX W c C ∧ ∀ σ1 H1 G1, Sub G G1 → Sim pa H0 G0 G1 σ1 H1 s1 → E (.ref C) none σ1 H1
  | .fl f => SPost pa H0 G0 G f s1 Ds
def tR (W : Wd) (E : WX) (ev : S → Option (FlX × S)) : TS := fun Ds σ H => ∃ pa H0 G0 G s f s1, Sim pa H0 G0 G σ H s ∧ ev s = some (f, s1) ∧ EndR W E Ds pa H0 G0 G s1 f
theorem EndR.up {W : Wd} {E : WX} {Ds : Ends} {pa : PA} {H0 G0 G G2 : Hp} {s1 : S} {f : FlX} (k : Sub G G2) (h : EndR W E Ds pa H0 G0 G s1 f) : EndR W E Ds pa H0 G0 G2 s1 f := by
  cases f with
  | exc c =>
    obtain ⟨C, O, z⟩ := h
    exact ⟨C, O, fun σ1 H1 G1 u => z σ1 H1 G1 (k.trans u)⟩
  | fl f => exact SPost.up k h
section
variable {X : Cx} {k : Nat} {Wx : WX}
/-- a call, its exceptions by the slots at the call -/
theorem pe_callR {f : Addr} {fd : FuncData} {ps : List Str} {F : FnX} {n : Nat} {x : Str} {p pos : Pos} {e : Expr} {es : List Expr} {t : TA}
    (G : GFnX (wdOf X) k f fd ps (spR (wdOf X) F n)) (hr : Room k X.A) (hgd : X.A.guards = some []) (hg : Gl X x) (hm : X.mg x = some (.ref f)) (hk : PySem.W.keepIn X.K (.ref f) = true) (hb : L2.Binds X.K fd ps []) (tk : Takes X Wx) (ha : L2.PA X (e :: es) t)
    (hdb : (x == ("__debug__" : Str)) = false) (he : starEach (e :: es) X.env = (false, eval e X.env) :: starEach es X.env) (hpl : (backTo pos (starEach es X.env)).any (·.1) = false) :
    PE X (.Call (.Name x p) (e :: es) [] pos) (fun σ H Q => t σ H fun vs H1 => spR (wdOf X) F n vs H1 Q fun cls d H2 => Wx cls d σ H2) := by
  refine ⟨fun ps0 s σ H Q I h => wpAny_Call_Name_kw (ld_glob I hg hm ?_ hdb)⟩
  refine PySem.W.callWith_K (h₀ := X.base) I.ok.mod.kin hk (thn (ha.run pos ps0 s σ H _ I h) fun us s1 had => ?_) he hpl
  obtain ⟨vs, H1, I1, r, q⟩ := had
  refine ⟨I1.kIn, ?_⟩
  have n1 : (us ++ ([] : List Value)).length = ps.length := by rw [List.append_nil, ← r.length]; exact G.len _ _ _ _ q
  have b1 := hb s1 us I1.kIn n1
  rw [List.append_nil] at b1
  refine wpAny_call (codeAny_mono (G.run X.A X.stack s1 H1 ⟨us, []⟩ us vs Q _ hr hgd I1.env0 b1 r q) fun r s' got => ?_)
  match r, got with
  | .ok (.ret u), got => exact I1.after got
  | .error e, got => exact tk e s' (XE.of_call I1 (fun cls d H' h => h) got)
/-- a call's reading, by what it gives -/
theorem callR_of {F : FnX} {es : IEs} {σ : L2.St} {H : Hp} {W : Wd} {Q : VK} {pa : PA} {H0 G0 G : Hp} {s s1 : S} {c : CalX} (S0 : Sim pa H0 G0 G σ H s) (ev : callX F es s = some (c, s1))
    (hx : ∀ n, c = .exc n → ∃ C, OwnX W n C ∧ ∀ H1 G1, Sub G G1 → Sim pa H0 G0 G1 σ H1 s1 → Wx (.ref C) none σ H1)
    (hv : ∀ d fr v H1 G1, c = .val d fr → Sub G G1 → Sim pa H0 G0 G1 σ H1 s1 → RT pa H0 G1 σ H1 s1 v d (if fr = true then .fresh else .fz) → Q v H1) :
    tAs es σ H fun vs H1 => spR W F es.len vs H1 Q fun cls d H2 => Wx cls d σ H2 := by
  unfold callX at ev
  obtain ⟨⟨xs, s2⟩, e1, ev⟩ := Option.bind_eq_some_iff.mp ev
  obtain ⟨o, e2, ev⟩ := Option.map_eq_some_iff.mp ev
  refine ⟨pa, H0, G0, G, s, xs, s2, S0, e1, fun vs H1 G1 S1 E1 Rs => ?_⟩
  obtain ⟨G', S', E', k', rps⟩ := Rs.keep S1 E1
  have pn' : PenAt pa G' H1 s2.pn := by have := S'.pen; rw [keeps_pn] at this; exact this
  refine ⟨pa, G', xs.map (·.1), s2.pn, o, by rw [List.length_map]; exact ev_len es e1, S'.sub, pn', rps, e2, ?_⟩
  cases o with
  | exc n p =>
    cases ev
    obtain ⟨C, O, z⟩ := hx n rfl
    refine ⟨C, O, fun H2 G2 kp => ?_⟩
    obtain ⟨kept, g1, g2, nw, hp⟩ := kp
    obtain ⟨S2, E2⟩ := S'.call kept g1 g2 nw hp
    exact z H2 G2 (E'.trans S2 E2).gk S2
  | ok d fr p =>
    cases ev
    intro v H2 G2 kp res
    obtain ⟨kept, g1, g2, nw, hp⟩ := kp
    obtain ⟨S2, E2⟩ := S'.call kept g1 g2 nw hp
    refine hv d fr v H2 G2 rfl (E'.trans S2 E2).gk S2 ?_
    cases fr with
    | false => rw [if_neg (by decide)] at res; exact res
    | true =>
      rw [if_pos rfl] at res
      obtain ⟨a, ys, es', rfl, rfl, ha, ha2, r, g⟩ := res
      obtain ⟨n1, n2, n3, n4⟩ := S'.none0 ha
      exact ⟨a, ys, es', rfl, rfl, ha2, r, g, n1, n3, n4⟩
section
variable {Ds : Ends} {σ : L2.St} {H : Hp} {W : Wd}
theorem rkey_st {st : IS} (h : tR W Wx (evalX (.st st)) Ds σ H) : tF (evalS st) Ds σ H := by
  obtain ⟨pa, H0, G0, G, s, f, s1, S0, ev, fin⟩ := h
  rw [evalX] at ev
  obtain ⟨⟨f', s2⟩, e1, e2⟩ := Option.map_eq_some_iff.mp ev
  cases e2
  exact ⟨pa, H0, G0, G, s, f', s2, S0, e1, fin⟩
theorem rkey_ifr {c : IE} {x m : Str} {C : Addr} (O : OwnX W x C) (h : tR W Wx (evalX (.ifr c x m)) Ds σ H) : tQ (fun s => boolD (evalE c s)) σ H fun b H1 => if b = true then Wx (.ref C) none σ H1 else Ds.nx σ H1 := by
  obtain ⟨pa, H0, G0, G, s, f, s1, S0, ev, fin⟩ := h
  rw [evalX] at ev
  obtain ⟨⟨b, s2⟩, e1, e2⟩ := Option.map_eq_some_iff.mp ev
  refine tQ_of S0 e1 fun H1 G1 S1 E1 => ?_
  cases b with
  | true =>
    cases e2
    obtain ⟨C2, O2, z⟩ := fin
    have : C2 = C := by
      have q := O.gl
      rw [O2.gl] at q
      cases q; rfl
    subst this
    exact z σ H1 G1 E1.gk S1
  | false =>
    cases e2
    exact fin σ H1 G1 E1.gk S1
theorem rkey_cal {x : Str} {F : FnX} {es : IEs} (h : tR W Wx (evalX (.cal x F es)) Ds σ H) : tAs es σ H fun vs H1 => spR W F es.len vs H1 (fun _ H2 => Ds.nx σ H2) fun cls d H2 => Wx cls d σ H2 := by
  obtain ⟨pa, H0, G0, G, s, f, s1, S0, ev, fin⟩ := h
  rw [evalX] at ev
  obtain ⟨⟨c, s2⟩, e1, e2⟩ := Option.map_eq_some_iff.mp ev
  refine callR_of S0 e1 (fun n ec => ?_) fun d fr v H1 G1 ec u S1 _ => ?_
  · subst ec
    cases e2
    obtain ⟨C, O, z⟩ := fin
    exact ⟨C, O, fun H1 G1 u S1 => z σ H1 G1 u S1⟩
  · subst ec
    cases e2
    exact fin σ H1 G1 u S1
theorem rkey_asg {i : Nat} {x : Str} {F : FnX} {es : IEs} (h : tR W Wx (evalX (.asg i x F es)) Ds σ H) : tAs es σ H fun vs H1 => spR W F es.len vs H1 (fun v H2 => gName i v σ H2 Ds.nx) fun cls d H2 => Wx cls d σ H2 := by
  obtain ⟨pa, H0, G0, G, s, f, s1, S0, ev, fin⟩ := h
  rw [evalX] at ev
  obtain ⟨⟨c, s2⟩, e1, e2⟩ := Option.bind_eq_some_iff.mp ev
  refine callR_of S0 e1 (fun n ec => ?_) fun d fr v H1 G1 ec u S1 rt => ?_
  · subst ec
    cases e2
    obtain ⟨C, O, z⟩ := fin
    exact ⟨C, O, fun H1 G1 u S1 => z σ H1 G1 u S1⟩
  · subst ec
    dsimp only at e2
    split at e2
    · rename_i hi
      cases e2
      obtain ⟨G', k', S'⟩ := S1.store rt hi
      have e : ((s2.keep (if fr = true then Tg.fresh else Tg.fz)).put i (d, (if fr = true then Tg.fresh else Tg.fz).own)) = s2.put i (d, fr) := by cases fr <;> rfl
      rw [e] at S'
      exact fin _ H1 G' (u.trans k') S'
    · cases e2
theorem rkey_ife {c : IE} {a b : Xts} (h : tR W Wx (evalX (.ife c a b)) Ds σ H) : tQ (fun s => boolD (evalE c s)) σ H fun z H1 => if z = true then tR W Wx (evalXs a) Ds σ H1 else tR W Wx (evalXs b) Ds σ H1 := by
  obtain ⟨pa, H0, G0, G, s, f, s1, S0, ev, fin⟩ := h
  rw [evalX] at ev
  obtain ⟨⟨z, s2⟩, e1, e2⟩ := Option.bind_eq_some_iff.mp ev
  refine tQ_of S0 e1 fun H1 G1 S1 E1 => ?_
  cases z with
  | true =>
    rw [if_pos rfl] at e2 ⊢
    exact ⟨pa, H0, G0, G1, s2, f, s1, S1, e2, fin.up E1.gk⟩
  | false =>
    have e2 : evalXs b s2 = some (f, s1) := e2
    rw [if_neg Bool.false_ne_true]
    exact ⟨pa, H0, G0, G1, s2, f, s1, S1, e2, fin.up E1.gk⟩
theorem rt_RT {pa : PA} {H0 G1 H1 : Hp} {s1 : S} {v : V} {d : D} {fr : Bool} (rt : RT pa H0 G1 σ H1 s1 v d (if fr = true then .fresh else .fz)) : Rt pa H0 G1 H1 v d fr := by
  cases fr with
  | false => exact rt
  | true =>
    obtain ⟨a, xs, es, e1, e2, e3, e4, e5, e6, e7, _⟩ := rt
    exact ⟨a, xs, es, e1, e2, e3, e4, e5, e6, e7⟩
abbrev tCr (W : Wd) (Wx : WX) (F : FnX) (es : IEs) : TE := fun σ H Q => tAs es σ H fun vs H1 => spR W F es.len vs H1 Q fun cls d H2 => Wx cls d σ H2
theorem tCr_of {pa : PA} {H0 G0 G : Hp} {s : S} {f : FlX} {s1 : S} {F : FnX} {es : IEs} (S0 : Sim pa H0 G0 G σ H s) (ev : retX (callX F es s) = some (f, s1)) (fin : EndR W Wx Ds pa H0 G0 G s1 f) : tCr W Wx F es σ H fun v H1 => Ds.rt v H1 := by
  unfold retX at ev
  obtain ⟨⟨c, s2⟩, e1, e2⟩ := Option.map_eq_some_iff.mp ev
  refine callR_of S0 e1 (fun n ec => ?_) fun d fr v H1 G1 ec u S1 rt => ?_
  · subst ec
    cases e2
    obtain ⟨C, O, z⟩ := fin
    exact ⟨C, O, fun H1 G1 u S1 => z σ H1 G1 u S1⟩
  · subst ec
    cases e2
    exact fin v σ H1 G1 u S1 (rt_RT rt)
theorem rkey_ret {x : Str} {F : FnX} {es : IEs} (h : tR W Wx (evalX (.ret x F es)) Ds σ H) : tRet (tCr W Wx F es) Ds σ H := by
  obtain ⟨pa, H0, G0, G, s, f, s1, S0, ev, fin⟩ := h
  rw [evalX] at ev
  exact tCr_of S0 ev fin
theorem rkey_rit {c : IE} {x y : Str} {F F2 : FnX} {es fs : IEs} (h : tR W Wx (evalX (.rit c x F es y F2 fs)) Ds σ H) : tRet (tIf (tQ fun s => boolD (evalE c s)) (tCr W Wx F es) (tCr W Wx F2 fs)) Ds σ H := by
  obtain ⟨pa, H0, G0, G, s, f, s1, S0, ev, fin⟩ := h
  rw [evalX] at ev
  obtain ⟨⟨z, s2⟩, e1, e2⟩ := Option.bind_eq_some_iff.mp ev
  refine tQ_of S0 e1 fun H1 G1 S1 E1 => ?_
  cases z with
  | true =>
    rw [if_pos rfl] at e2 ⊢
    exact tCr_of S1 e2 (fin.up E1.gk)
  | false =>
    have e2 : retX (callX F2 fs s2) = some (f, s1) := e2
    rw [if_neg Bool.false_ne_true]
    exact tCr_of S1 e2 (fin.up E1.gk)
theorem rkey_nil (h : tR W Wx (evalXs .nil) Ds σ H) : tNext Ds σ H := by
  obtain ⟨pa, H0, G0, G, s, f, s1, S0, ev, fin⟩ := h
  rw [evalXs] at ev
  cases ev
  exact fin σ H G .refl S0
theorem rkey_cons {a : Xt} {b : Xts} (h : tR W Wx (evalXs (.cons a b)) Ds σ H) : tSeq (tR W Wx (evalX a)) (tR W Wx (evalXs b)) Ds σ H := by
  obtain ⟨pa, H0, G0, G, s, f, s1, S0, ev, fin⟩ := h
  rw [evalXs] at ev
  obtain ⟨⟨f', s2⟩, e1, e2⟩ := Option.bind_eq_some_iff.mp ev
  refine ⟨pa, H0, G0, G, s, f', s2, S0, e1, ?_⟩
  cases f' with
  | exc c => cases e2; exact fin
  | fl f' =>
    cases f' with
    | nx => exact fun σ1 H1 G1 u S1 => ⟨pa, H0, G0, G1, s2, f, s1, S1, e2, fin.up u⟩
    | brk => cases e2; exact fin
    | cont => cases e2; exact fin
    | ret d fr => cases e2; exact fin
theorem rkey_try {K : PySem.W.Frag} {cv : Value} {i j : Nat} {h : Str} {adr : Str → Nat} {names : List Str} {body : Xts} (hk : ∀ c, c ∈ names → OwnX W c (adr c) ∧ PySem.W.exmOne K (.ref (adr c)) cv = some true)
    (q : tR W Wx (evalX (.try_ i j h adr names body)) Ds σ H) : tR W (wKeep K cv i j Wx Ds) (evalXs body) Ds σ H := by
  obtain ⟨pa, H0, G0, G, s, f, s1, S0, ev, fin⟩ := q
  rw [evalX] at ev
  obtain ⟨⟨f', s2⟩, e1, e2⟩ := Option.bind_eq_some_iff.mp ev
  refine ⟨pa, H0, G0, G, s, f', s2, S0, e1, ?_⟩
  cases f' with
  | fl f' => cases e2; exact fin
  | exc c =>
    dsimp only at e2
    split at e2
    · rename_i hz
      obtain ⟨hn, hi, hj, ne⟩ := hz
      cases e2
      obtain ⟨O, ex⟩ := hk c hn
      refine ⟨_, O, fun σ1 H1 G1 u S1 => ⟨true, ex, fun _ a ha => ?_, fun z => by cases z⟩⟩
      obtain ⟨n1, n2, n3, n4⟩ := S1.none0 ha
      have S2 := (S1.grow (.upd ha)).newG (a := a) (o := exT (.ref (adr c)) none a) upd_same n2 n1 n3 n4
      have S3 := (S2.put hj (Rp.exc (c := c) ⟨_, upd_same, fun _ q => q⟩)).wipe [i]
      have e : L2.wipe (σ1.set j (some (.ref a))) [i] = ((σ1.set i (some (.ref a))).set j (some (.ref a))).set i none := by
        rw [List.set_comm _ _ ne, List.set_set]; rfl
      rw [e] at S3
      exact fin _ _ _ (u.trans (.upd n2)) S3
    · cases e2
end
theorem pe_calR {sc : Scope} {x : Str} {F : FnX} {es : IEs} {E : Em} (C : Cd X X.N sc k) (tk : Takes X Wx) (ho : okE X.N sc (.call x noF es) E = true) (ha : CallX (wdOf X) k x es.len F ∧ askEs (askOf (wdOf X) k) es) : PE X (emE X.N (.call x noF es) E).1 (tCr (wdOf X) Wx F es) := by
  rw [okE] at ho
  obtain ⟨h1, h2⟩ := and1 ho
  obtain ⟨h3, h4⟩ := and1 h2
  obtain ⟨⟨⟨f, fd, ps, G, hm, hk, hb⟩⟩, a2⟩ := ha
  match es, h1, h4, G, a2 with
  | .cons e es, h1, _, G, a2 =>
    exact pe_callR (e := (emE X.N e E.np.np).1) (es := (emEs X.N es (emE X.N e E.np.np).2).1) G C.room C.gd (gl_of C h3).1 hm hk hb tk (sEs (.cons e es) C h1 a2) (gl_of C h3).2 (star_pl (em_pl X.N e _)) (stars X.N _ _ es _)
  | .nil, _, h4, _, _ => rw [emEs] at h4; cases h4
mutual
theorem sX : ∀ (t : Xt) {X : Cx} {sc : Scope} {E : Em} {Wx : WX}, Cd X X.N sc k → Bd X → Takes X Wx → X.stack = X.env :: X.outer → X.env.frame = some X.env.locals → X.ex = [] → okX X.N sc t E = true → askX (wdOf X) k t → PS X (emX X.N t E).1 (tR (wdOf X) Wx (evalX t))
  | .st st, X, sc, E, Wx, C, B, tk, hs, hf, hx, ho, ha => PS.imp (sS st C B ho ha) fun Ds σ H q => rkey_st q
  | .ifr c x m, X, sc, E, Wx, C, B, tk, hs, hf, hx, ho, ha => by
    rw [okX] at ho
    rw [askX] at ha
    obtain ⟨h1, h2⟩ := and1 ho
    obtain ⟨a1, D, O⟩ := ha
    obtain ⟨bmB, Bb, newId, initId, F, q⟩ := O.ex
    have pr : ∀ {p p2 pos pos' : Pos} {j : Nat}, PS X (.Raise (some (.Call (.Name x p) [.Constant (.str m) j p2] [] pos)) none pos') (fun D' σ H => Wx (.ref D) none σ H) := fun {p p2 pos pos' j} =>
      ps_raise C.calm tk (pmk_own F q O.gl O.kp (raises_own O.sub O.ty) (gl_of C h2).1 (gl_of C h2).2)
    exact PS.imp (ps_if (sE c C h1 a1).pt (pss_cons pr pss_nil) pss_nil) fun Ds σ H q => rkey_ifr O q
  | .cal x F es, X, sc, E, Wx, C, B, tk, hs, hf, hx, ho, ha => by
    rw [okX, okS, okE] at ho
    rw [askX] at ha
    obtain ⟨h0, _⟩ := and1 ho
    obtain ⟨h1, h2⟩ := and1 h0
    obtain ⟨h3, h4⟩ := and1 h2
    obtain ⟨⟨⟨f, fd, ps, G, hm, hk, hb⟩⟩, a2⟩ := ha
    match es, h1, h4, G, a2 with
    | .cons e es, h1, _, G, a2 =>
      exact PS.imp (ps_expr (pe_callR (e := (emE X.N e E.np.np.np).1) (es := (emEs X.N es (emE X.N e E.np.np.np).2).1) G C.room C.gd (gl_of C h3).1 hm hk hb tk (sEs (.cons e es) C h1 a2) (gl_of C h3).2 (star_pl (em_pl X.N e _)) (stars X.N _ _ es _))) fun Ds σ H q => rkey_cal q
    | .nil, _, h4, _, _ => rw [emEs] at h4; cases h4
  | .asg i x F es, X, sc, E, Wx, C, B, tk, hs, hf, hx, ho, ha => by
    rw [okX, okS, okE] at ho
    rw [askX] at ha
    obtain ⟨h0, ho⟩ := and1 ho
    obtain ⟨h5, _⟩ := and1 ho
    obtain ⟨h1, h2⟩ := and1 h0
    obtain ⟨h3, h4⟩ := and1 h2
    obtain ⟨⟨⟨f, fd, ps, G, hm, hk, hb⟩⟩, a2⟩ := ha
    obtain ⟨l1, l2⟩ := loc_of h5
    match es, h1, h4, G, a2 with
    | .cons e es, h1, _, G, a2 =>
      refine PS.imp (ps_set C.nd l1 (by rw [C.hs]; exact l2) (pe_callR (e := (emE X.N e E.np.np.np.np).1) (es := (emEs X.N es (emE X.N e E.np.np.np.np).2).1) G C.room C.gd (gl_of C h3).1 hm hk hb tk (sEs (.cons e es) C h1 a2) (gl_of C h3).2 (star_pl (em_pl X.N e _)) (stars X.N _ _ es _)) (by rfl) (.inl (B.fn _))) fun Ds σ H q => rkey_asg q
    | .nil, _, h4, _, _ => rw [emEs] at h4; cases h4
  | .ife c a b, X, sc, E, Wx, C, B, tk, hs, hf, hx, ho, ha => by
    rw [okX] at ho
    rw [askX] at ha
    obtain ⟨h1, ho⟩ := and1 ho
    obtain ⟨h2, h3⟩ := and1 ho
    exact PS.imp (ps_if (sE c C h1 ha.1).pt (sXs a C B tk hs hf hx h2 ha.2.1) (sXs b C B tk hs hf hx h3 ha.2.2)) fun Ds σ H q => rkey_ife q
  | .try_ i j h adr names body, X, sc, E, Wx, C, B, tk, hs, hf, hx, ho, ha => by
    rw [okX] at ho
    rw [askX] at ha
    obtain ⟨h1, ho⟩ := and1 ho
    obtain ⟨h2, ho⟩ := and1 ho
    obtain ⟨h3, ho⟩ := and1 ho
    obtain ⟨h4, ho⟩ := and1 ho
    obtain ⟨h5, h6⟩ := and1 ho
    obtain ⟨⟨cv, hm, hk⟩, a2⟩ := ha
    obtain ⟨l1, w2, w3, w4⟩ := vis_of h4
    obtain ⟨l3, l4⟩ := loc_of h5
    have hln : X.env.kindOf (nm X.N i) = some .local := by
      show X.env.scope.names.lookup _ = _
      rw [C.hs]; exact pl_of h3
    refine PS.imp (ps_try_keep (tb := fun W0 => tR (wdOf X) W0 (evalXs body)) (Wout := Wx) (j := j) hs hf hx C.nd l1 hln ⟨(gl_of C h2).1, (gl_of C h2).2, hm⟩ tk (fun W0 l out tk0 ps0 => ?_) fun a oe pn => ?_) fun Ds σ H q => rkey_try hk q
    · exact sXs body (X := X.tr l out) (sc := sc) ⟨rfl, C.nd, C.hs, C.calm, C.room, C.gd, C.bl⟩ ⟨ps0, B.fn⟩ tk0 hs hf hx h1 a2
    · refine PSs.imp (pss_cons (ps_set (X := X.suite a ((a, oe) :: pn)) C.nd l3 (by show Loc X.env.scope _; rw [C.hs]; exact l4) (pe_var (X := X.suite a ((a, oe) :: pn)) (i := i) l1 (by show _ = _ ∨ _; rw [C.hs]; exact w2) w3 w4) (by rfl) (.inl (B.fn _))) pss_nil) fun Ds σ H q => ?_
      obtain ⟨v, h1, h2⟩ := q
      exact ⟨v, h1, h2⟩
  | .ret x F es, X, sc, E, Wx, C, B, tk, hs, hf, hx, ho, ha => by
    rw [okX] at ho
    rw [askX] at ha
    exact PS.imp (ps_ret (pe_calR C tk ho ha)) fun Ds σ H q => rkey_ret q
  | .rit c x F es y F2 fs, X, sc, E, Wx, C, B, tk, hs, hf, hx, ho, ha => by
    rw [okX] at ho
    rw [askX] at ha
    obtain ⟨h1, h2⟩ := and1 ho
    obtain ⟨h2, h3⟩ := and1 h2
    exact PS.imp (ps_ret (pe_ifExp (sE c C h1 ha.1).pt (pe_calR C tk h2 ha.2.1) (pe_calR C tk h3 ha.2.2))) fun Ds σ H q => rkey_rit q
theorem sXs : ∀ (ts : Xts) {X : Cx} {sc : Scope} {E : Em} {Wx : WX}, Cd X X.N sc k → Bd X → Takes X Wx → X.stack = X.env :: X.outer → X.env.frame = some X.env.locals → X.ex = [] → okXs X.N sc ts E = true → askXs (wdOf X) k ts → PSs X (emXs X.N ts E).1 (tR (wdOf X) Wx (evalXs ts))
  | .nil, X, sc, E, Wx, C, B, tk, hs, hf, hx, ho, ha => PSs.imp pss_nil fun Ds σ H q => rkey_nil q
  | .cons t ts, X, sc, E, Wx, C, B, tk, hs, hf, hx, ho, ha => by
    rw [okXs] at ho
    rw [askXs] at ha
    obtain ⟨h1, h2⟩ := and1 ho
    exact PSs.imp (pss_cons (sX t C B tk hs hf hx h1 ha.1) (sXs ts C B tk hs hf hx h2 ha.2)) fun Ds σ H q => rkey_cons q
end
end
end Fs

set_option Elab.async false
set_option linter.all false
set_option maxRecDepth 100000
set_option maxHeartbeats 4000000
namespace Fs
open PySem PySem.Spec PyProof.Rows L2
section
variable {W : Wd} {k : Nat} {f : Addr} {name qual : Str} {params : Arguments} {body : List Stmt} {scope : Scope} {dV kV doc pm cdv ct oc : Value} {an od : Option Addr} {osl : Array (Option Value)} {N ps : List Str}
end
section
variable {W : Wd} {k : Nat} {x : Str} {st : Stmt} {N ps : List Str}
end
end Fs

set_option Elab.async false
set_option linter.all false
set_option maxRecDepth 100000
set_option maxHeartbeats 4000000
namespace Fs
open PySem PySem.Spec PyProof.Rows L2
/-- where a class stands, by the module's names -/
def adrM (mg : Str → Option Value) (x : Str) : Nat := match mg x with
  | some (.ref a) => a
  | _ => 0
theorem adrM_of {mg : Str → Option Value} {x : Str} {C : Addr} (e : mg x = some (.ref C)) : adrM mg x = C := by
  unfold adrM
  rw [e]
abbrev veLine : List Value := [.type "ValueError", .type "Exception", .type "BaseException", .type "object"]
section
variable {K : PySem.W.Frag} {hp : Heap} (KX : K.In hp) {mg : Str → Option Value} {x : Str} {C : Addr}
include KX
theorem ownX_mk (e : mg x = some (.ref C)) (q : PySem.W.excIn K C veLine "ValueError.__new__" = true) (kp : PySem.W.keepIn K (.ref C) = true) (sub : PySem.W.subIn K (.ref C) (.type "BaseException") = some true) (ty : PySem.W.typeIn K (.ref C) = some (.type "type")) :
    ∀ (P : Program) (w : World) (base : Heap), OwnX ⟨P, w, K, mg, base⟩ x (adrM mg x) := fun P w base => by
  rw [adrM_of e]
  exact ⟨⟨_, _, _, _, PySem.F.excBase_ValueError, q⟩, e, kp, sub, ty⟩
theorem excC_mk (e : mg x = some (.ref C)) (hg : PySem.W.findIn K (.ref C) "__getattribute__" = some (some (.builtin "BaseException.__getattribute__"))) (hk : PySem.W.findIn K (.ref C) "__getattr__" = some none)
    (hs : PySem.W.subIn K (.ref C) (.type "BaseException") = some true) (hd : PySem.W.hasDictIn K C = true) (ha : PySem.W.findIn K (.ref C) "__class__" = some (some (.builtin "object.__class__")))
    (hn : PySem.W.specialIn K (.builtin "object.__class__") "__get__" = some (some (.builtin "getset_descriptor.__get__"))) (ht : PySem.W.takesIn K (.builtin "object.__class__") = some true) (hm : PySem.W.mroIn K C (.type "object") = some true) : L2.ExcC K (adrM mg x) := by
  rw [adrM_of e]
  exact ⟨hg, hk, hs, hd, ha, hn, ht, hm⟩
theorem kit_at {cv : Value} {b c : Bool} (e : mg x = some (.ref C)) (k : PySem.W.kitOne K (.ref C) cv = some b) (h : c = b) : PySem.W.kitOne K (.ref (adrM mg x)) cv = some c := by
  rw [adrM_of e, h]; exact k
theorem isx_ref {D : Addr} {names : List Str} {sub : Str → Bool} (e : mg x = some (.ref D)) (h : ∀ c, c ∈ names → L2.ExcC K (adrM mg c) ∧ PySem.W.kitOne K (.ref (adrM mg c)) (.ref D) = some (sub c)) :
    ∀ (P : Program) (w : World) (base : Heap) (k : Nat), (askOf ⟨P, w, K, mg, base⟩ k).isx x (adrM mg) names sub := fun P w base k =>
  ⟨.ref D, .ref D, .inl e, rfl, fun u z => z, h⟩
theorem isx_ty {T : String} {names : List Str} {sub : Str → Bool} (e : mg x = none) (hb : bootBuiltins x = some (.type T)) (ne : x ≠ "__name__") (h : ∀ c, c ∈ names → L2.ExcC K (adrM mg c) ∧ PySem.W.kitOne K (.ref (adrM mg c)) (.type T) = some (sub c)) :
    ∀ (P : Program) (w : World) (base : Heap) (k : Nat), (askOf ⟨P, w, K, mg, base⟩ k).isx x (adrM mg) names sub := fun P w base k =>
  ⟨.ty T, .type T, .inr ⟨e, hb, ne⟩, rfl, fun u z => z, h⟩
end
theorem all_nil {α : Type} {p : α → Prop} : ∀ c, c ∈ ([] : List α) → p c := fun _ h => by cases h
theorem all_cons {α : Type} {p : α → Prop} {a : α} {l : List α} (h : p a) (t : ∀ c, c ∈ l → p c) : ∀ c, c ∈ a :: l → p c := fun c hc => by
  rcases List.mem_cons.mp hc with rfl | hc
  · exact h
  · exact t c hc
end Fs

set_option Elab.async false
set_option linter.all false
set_option maxRecDepth 100000
set_option maxHeartbeats 8000000
namespace Fs
open PySem L2
def flXQ (N : S → Prop) (Q : Fl → S → Prop) (E : Str → S → Prop) : FlX → S → Prop
  | .exc c, s => E c s
  | .fl f, s => flQ N Q f s
def resQ (Q : D → Bool → Option Pn → Prop) (E : Str → Option Pn → Prop) : ResX → Prop
  | .exc c p => E c p
  | .ok d fr p => Q d fr p
structure WX1 (t : Xt) (s : S) (N : S → Prop) (Q : Fl → S → Prop) (E : Str → S → Prop) : Prop where
  ex : ∃ f s1, evalX t s = some (f, s1) ∧ flXQ N Q E f s1
structure WXs (t : Xts) (s : S) (N : S → Prop) (Q : Fl → S → Prop) (E : Str → S → Prop) : Prop where
  ex : ∃ f s1, evalXs t s = some (f, s1) ∧ flXQ N Q E f s1
/-- a call of a def that may raise -/
structure WCX (F : FnX) (ds : List D) (pn : Option Pn) (Q : D → Bool → Option Pn → Prop) (E : Str → Option Pn → Prop) : Prop where
  ex : ∃ r, F ds pn = some r ∧ resQ Q E r
def xst (s : S) (ts : List Tg) (pn : Option Pn) : S := { (s.keeps ts) with pn := pn }
section
variable {s : S} {N : S → Prop} {Q : Fl → S → Prop} {E : Str → S → Prop} {c : IE} {es : IEs} {i j : Nat} {t : Xt} {ts a b body : Xts} {st : IS} {x m h : Str} {F : FnX} {adr : Str → Nat} {names : List Str}
theorem wx_nil (k : N s) : WXs .nil s N Q E := ⟨.fl .nx, s, by rw [evalXs], k⟩
theorem wx_cons (k : WX1 t s (fun s1 => WXs ts s1 N Q E) Q E) : WXs (.cons t ts) s N Q E := by
  obtain ⟨f, s1, e, k⟩ := k
  cases f with
  | exc n => exact ⟨.exc n, s1, by rw [evalXs, e]; rfl, k⟩
  | fl f =>
    cases f with
    | nx =>
      obtain ⟨f2, s2, e2, k⟩ := (show WXs ts s1 N Q E from k)
      exact ⟨f2, s2, by rw [evalXs, e]; exact e2, k⟩
    | ret d fr => exact ⟨.fl (.ret d fr), s1, by rw [evalXs, e]; rfl, k⟩
    | brk => exact ⟨.fl .brk, s1, by rw [evalXs, e]; rfl, k⟩
    | cont => exact ⟨.fl .cont, s1, by rw [evalXs, e]; rfl, k⟩
theorem x1_st (k : W1 st s N Q) : WX1 (.st st) s N Q E := by
  obtain ⟨f, s1, e, k⟩ := k.out
  exact ⟨.fl f, s1, by rw [evalX, e]; rfl, k⟩
theorem x1_ifr (k : WB c s fun b s1 => (b = true → E x s1) ∧ (b = false → N s1)) : WX1 (.ifr c x m) s N Q E := by
  obtain ⟨b, s1, e, k1, k2⟩ := k
  cases b with
  | true => exact ⟨.exc x, s1, by rw [evalX, e]; rfl, k1 rfl⟩
  | false => exact ⟨.fl .nx, s1, by rw [evalX, e]; rfl, k2 rfl⟩
theorem x1_cal (k : WL es s fun ds ts s1 => WCX F ds s1.pn (fun _ _ pn => N (xst s1 ts pn)) fun c pn => E c (xst s1 ts pn)) : WX1 (.cal x F es) s N Q E := by
  obtain ⟨xs, s1, e1, ⟨r, e2, k⟩⟩ := k
  have e3 : (evalEs es s).bind (fun r => (F (r.1.map (·.1)) r.2.pn).map fun o => (match o with
    | .exc c p => (CalX.exc c, { (r.2.keeps (r.1.map (·.2))) with pn := p })
    | .ok d fr p => (CalX.val d fr, { (r.2.keeps (r.1.map (·.2))) with pn := p }) : CalX × S)) = callX F es s := rfl
  cases r with
  | exc n p =>
    refine ⟨.exc n, _, ?_, k⟩
    rw [evalX, ← e3, e1]
    show Option.map _ (Option.map _ (F _ _)) = _
    rw [e2]; rfl
  | ok d fr p =>
    refine ⟨.fl .nx, _, ?_, k⟩
    rw [evalX, ← e3, e1]
    show Option.map _ (Option.map _ (F _ _)) = _
    rw [e2]; rfl
end
section
variable {n : Nat} {xs : Xts} {ds : List D} {pn : Option Pn} {Q : D → Bool → Option Pn → Prop} {E : Str → Option Pn → Prop}
end
section
variable {s : S} {Q : D → Tg → S → Prop} {x c : Str} {adr : Str → Nat} {names : List Str} {sub : Str → Bool} {i : Nat}
theorem isXD_exc : isXD adr names sub (excD adr c) = if c ∈ names then some (sub c) else none := by
  unfold isXD excD
  by_cases h : c ∈ names
  · simp [h]
  · simp [h]
theorem w_isX {b : Bool} (hv : rd s i = some (excD adr c, false)) (hn : c ∈ names) (hb : sub c = b) (h : Q (.bool b) .fz s) : WE (.isX x adr names sub (.var i)) s Q := by
  refine ⟨.bool b, .fz, s, ?_, h⟩
  rw [evalE, ev_var hv]
  show (isXD adr names sub (excD adr c) >>= _) = _
  rw [isXD_exc, if_pos hn, hb]
  rfl
theorem f_idx {xs : List D} {bs : List Bool} {y : Bool} {Q : D → Tg → Prop} (e : boolsOf xs = some bs) (m : y ∈ bs) (h : Q (.int (bs.idxOf y : Nat)) .fz) : WF .idx [.list xs, .bool y] Q := by
  refine ⟨(.int (bs.idxOf y : Nat), false), ?_, h⟩
  show ((boolsOf xs).bind fun bs => if y ∈ bs then some (PyData.int (bs.idxOf y : Nat), false) else none) = _
  rw [e]
  show (if y ∈ bs then _ else _) = _
  rw [if_pos m]
end
end Fs

set_option Elab.async false
set_option linter.all false
set_option maxRecDepth 100000
set_option maxHeartbeats 8000000
namespace K1
open PySem L2 Fs
local macro_rules
  | `(tactic| fail) => `(tactic| first
    | refine' wx_nil ?_ | refine' wx_cons ?_ | refine' x1_st ?_ | refine' x1_ifr ?_ | refine' x1_cal ?_ | refine' wb_of ?_ | fail_if_success skip)
section
variable {v : D} {pn : Option Pn} {Q : D → Bool → Option Pn → Prop} {E : Str → Option Pn → Prop}
end
end K1

set_option Elab.async false
set_option linter.all false
set_option maxRecDepth 100000
set_option maxHeartbeats 8000000
set_option pp.maxSteps 400
namespace K1
open PySem L2 Fs
section
variable {P : List Kind} {cs ds : List Claim} {t : Int}
variable {pn : Option Pn} {Q : D → Bool → Option Pn → Prop}
theorem ClaimsOk.take {m : Nat} (h : ClaimsOk P m cs) (i : Nat) : ClaimsOk P m (cs.take i) :=
  ⟨by have := h.len; rw [List.length_take]; omega, fun c hc => h.cs c (List.mem_of_mem_take hc)⟩
theorem ClaimsOk.rev {m : Nat} (h : ClaimsOk P m cs) : ClaimsOk P m cs.reverse := ⟨by rw [List.length_reverse]; exact h.len, fun c hc => h.cs c (by simpa using hc)⟩
end
end K1

set_option Elab.async false
set_option linter.all false
set_option maxRecDepth 100000
set_option maxHeartbeats 8000000
namespace K1
open PySem L2 Fs
theorem zip_fst : ∀ {l : List (Int × Int)}, (((l.map stepD).zip ((l.map stepD).drop 1)).all fun p => ltD (fstD p.1) (fstD p.2)) = asc ((l.map (·.1)).map .int)
  | [] => rfl
  | [p] => rfl
  | p :: q :: r => by
    have ih := zip_fst (l := q :: r)
    show (decide (p.1 < q.1) && ((((q :: r).map stepD).zip (((q :: r).map stepD).drop 1)).all fun p => ltD (fstD p.1) (fstD p.2))) = (decide (p.1 < q.1) && asc (((q :: r).map (·.1)).map .int))
    rw [ih]
/-- small, and bad for p -/
def OkP (n w : Nat) (p : D → Bool) (k : Nat) (xs : List D) : Prop := (∀ d ∈ xs, Smn n w d ∧ p d = false) ∧ xs.length = k
theorem OkP.app {n w k j : Nat} {p : D → Bool} {xs ys : List D} (h : OkP n w p k xs) (g : OkP n w p j ys) : OkP n w p (k + j) (xs ++ ys) := ⟨fun d hd => by
  rcases List.mem_append.mp hd with hd | hd
  · exact h.1 d hd
  · exact g.1 d hd, by rw [List.length_append, h.2, g.2]⟩
end K1

set_option Elab.async false
set_option linter.all false
set_option maxRecDepth 100000
set_option maxHeartbeats 4000000
namespace Fs
open PySem PySem.Spec PyProof.Rows L2
section
variable {X : Cx} {pos pos' apos : Pos} {o e : Expr} {es : List Expr} {ta te : TE} {t : TA} {f : Str} {C : Addr}
/-- a method's call on one line -/
theorem eval_meth {o : Expr} {m : Str} {apos pos : Pos} {args : List Expr} {env : Env} (hb : attributeBase o m env (eval o env) = eval o env) (hf : methodCallForm (args.length + 0) (backTo pos (starEach args env)) [] = true) (hl : (apos.endLine == pos.line) = true) :
    eval (.Call (.Attribute o m apos) args [] pos) env = (do
      let ov ← eval o env
      standAt apos.atName
      let (f, first) ← holding [ov] (getMethod ov m (do return (← importBound o env).getD true))
      callWith pos f first (backTo pos (starEach args env)) (backToKw pos (keywordEach [] env))) := by
  have e : methodCallPos true o env apos pos = pure pos := by
    unfold methodCallPos
    rw [hl]; rfl
  show (do
    let ov ← attributeBase o m env (eval o env)
    standAt apos.atName
    methodCall o m apos pos env ov (args.length + 0) (backTo pos (starEach args env)) []) = _
  rw [hb]
  unfold methodCall
  rw [hf, e]
  rfl
end
/-- a method of the text -/
structure MethAt (K : PySem.W.Frag) (C : Addr) (m qual : Str) (st : Stmt) : Prop where
  of : ∃ f fd, L2.Meth K C m f ∧ L2.Fun K m qual st f fd
theorem methAt_mk {K : PySem.W.Frag} {h : Heap} (_X : K.In h) {C : Addr} {m qual : Str} {st : Stmt} {f : Addr} {oc : Value} {od an : Option Addr} {osl : Array (Option Value)} {kV doc pm cdv ct : Value}
    (a : PySem.W.findIn K (.ref C) m = some (some (.ref f))) (i : PySem.W.isFn K (.ref f) = true) (l : K.lookup f = some ⟨oc, od, .func (PySem.W.fnOf m qual (defArgs st) (defBody st) (defScope st) .none kV doc pm an cdv ct), osl⟩)
    (c : PySem.W.codeIn K cdv qual = true) (k : PySem.W.keepIn K (.ref f) = true) : MethAt K C m qual st := ⟨f, _, ⟨a, i, k⟩, fun_mk l c k⟩
end Fs

set_option Elab.async false
set_option linter.all false
set_option maxRecDepth 100000
set_option maxHeartbeats 4000000
namespace Fs
open PySem PySem.Spec PyProof.Rows L2
section
variable {X : Cx} {pos apos : Pos} {e : Expr} {es : List Expr} {ta : TA} {f x : Str} {B C : Addr} {p1 : Pos} {mc : Value}
/-- B.__init__(self, ..), B a class below ValueError without own __init__ -/
theorem pe_binit (r : ClX.CRead X.K B mc) (kv : PySem.W.findCls X.K (.ref B) mc "__init__" = some (.val (.builtin "ValueError.__init__"))) (hm : X.mg x = some (.ref B)) (hg : Gl X x) (hdb : (x == ("__debug__" : Str)) = false)
    (ha : L2.PA X (e :: es) ta) (hl : (apos.endLine == pos.line) = true)
    (he : starEach (e :: es) X.env = (false, eval e X.env) :: starEach es X.env := by rfl) (hpl : (backTo pos (starEach es X.env)).any (·.1) = false := by rfl)
    (hbs : attributeBase (.Name x p1) "__init__" X.env (eval (.Name x p1) X.env) = eval (.Name x p1) X.env := by rfl) (hf : methodCallForm ((e :: es).length + 0) (backTo pos (starEach (e :: es) X.env)) [] = true := by rfl) :
    PE X (.Call (.Attribute (.Name x p1) "__init__" apos) (e :: es) [] pos) (tVeI X.K ta) := by
  refine ⟨fun pins s σ H Q I h => ?_⟩
  refine PySem.W.methodCall_KW (ld_glob I hg hm ?_ hdb) (eval_meth hbs hf hl)
  refine PySem.W.method_cls I.kIn r.ga (PySem.W.cls_value I.kIn r.rd kv (by decide +kernel) ?_)
  show wpAny _ _ (callWith pos (Value.builtin "ValueError.__init__") [] (backTo pos (starEach (e :: es) X.env)) []) _ _ _
  refine PyProof.Rows.callWith_method1 (thn (ha.run pos pins _ σ H _ (I.tok _) h) fun us s1 ⟨vs, H1, I1, r1, a, C, ws, ev, hl, T, ea, q⟩ => ?_) he hpl
  subst ev
  cases r1 with
  | @cons _ u0 _ ur ra rw' =>
    obtain rfl : u0 = Value.ref a := ra
    have hlen : ur.length ≤ sizeLine := by
      rw [← Paired.length rw', sizeLine_eq]
      omega
    exact oinit_ok T I1 ea hlen fun s' J => ⟨.non, H1, J, rfl, q⟩
end
/-- the text of an __init__ that keeps its value under f -/
def txXI (x f : Str) (body : List Stmt) : Prop := ∃ (p1 p2 p3 p4 p5 p6 p7 p8 p9 p10 : Pos) (m : Str), (p2.endLine == p5.line) = true ∧
  body = [.Expr (.Call (.Attribute (.Name x p1) "__init__" p2) [.Name "self" p3, .Constant (.str m) 0 p4] [] p5) p6, .Assign [.Attribute (.Name "self" p7) f p8] (.Name f p9) p10]
theorem gfn_xi {W : Wd} {k : Nat} {g : Addr} {name qual : Str} {params : Arguments} {body : List Stmt} {scope : Scope} {dV kV doc pm cdv ct oc mc : Value} {an od : Option Addr} {osl : Array (Option Value)} {C B : Addr} {x f : Str}
    (lk : W.K.lookup g = some ⟨oc, od, .func (PySem.W.fnOf name qual params body scope dV kV doc pm an cdv ct), osl⟩)
    (hcd : PySem.W.codeIn W.K cdv qual = true) (sc : FnScope ["self", f] ["self", f] scope) (bl : ∀ x, x ∈ bnames → W.mg x = none)
    (tx : txXI x f body) (vis : (visB ["self", f] scope 0 && visB ["self", f] scope 1) = true) (T : OexC W.K C) (hno : PySem.W.findIn W.K (.ref C) f = some none)
    (hB : W.mg x = some (.ref B)) (r : ClX.CRead W.K B mc) (kv : PySem.W.findCls W.K (.ref B) mc "__init__" = some (.val (.builtin "ValueError.__init__"))) (hgx : glB scope x = true) :
    GFn W (k + 1) g (PySem.W.fnOf name qual params body scope dV kV doc pm an cdv ct) ["self", f] (spXI C f) := by
  obtain ⟨p1, p2, p3, p4, p5, p6, p7, p8, p9, p10, m, hl, rfl⟩ := tx
  refine gfn_of lk hcd sc (fun vs H Q h => ?_) fun A outer s H vs Q room hgd promise => ?_
  · obtain ⟨_, _, rfl, _⟩ := h
    rfl
  have CC : Cd (gx W ["self", f] qual scope g cdv A outer s H) (gx W ["self", f] qual scope g cdv A outer s H).N scope k := ⟨rfl, sc.nd, rfl, rfl, room, hgd, bl⟩
  obtain ⟨v0, v1⟩ := and1 vis
  obtain ⟨g1, g2⟩ := gl_of CC hgx
  refine ⟨_, pss_cons (ps_expr (pe_binit r kv hB g1 g2 (pa_cons (pv CC v0) (pa_cons pe_str pa_nil (by rfl)) (by rfl)) hl))
    (pss_cons (ps_ost (pv CC v0) (pv CC v1)) pss_nil), ?_⟩
  obtain ⟨a, v, rfl, ha, kk⟩ := promise
  refine ⟨.ref a, rfl, a, C, [.str m], rfl, (show 1 ≤ 1000 by decide), T, ha, ?_⟩
  refine ⟨v, rfl, .ref a, rfl, a, C, rfl, T, hno, .inl ⟨ha, fun dx h1 h2 => ?_⟩⟩
  exact kk dx h1 h2
abbrev BindsI (qual : Str) (st : Stmt) (ps : List Str) : Prop := ∀ (kV doc pm : Value) (an : Option Addr) (cdv ct : Value) (us : List Value), us.length = ps.length →
  bindArgs (PySem.W.fnOf "__init__" qual (defArgs st) (defBody st) (defScope st) .none kV doc pm an cdv ct) ⟨us, []⟩ = pure (ps.zip us)
/-- the text's part of such a class -/
structure XITx (x qual f : Str) (st : Stmt) : Prop where
  sc : FnScope ["self", f] ["self", f] (defScope st)
  tx : txXI x f (defBody st)
  vis : (visB ["self", f] (defScope st) 0 && visB ["self", f] (defScope st) 1) = true
  bd : BindsI qual st ["self", f]
  gl : glB (defScope st) x = true
/-- the base class behind the top -/
structure BaseAt (K : PySem.W.Frag) (mg : Str → Option Value) (x : Str) : Prop where
  of : ∃ B, mg x = some (.ref B) ∧ ClX.CRead K B (.type "type") ∧ PySem.W.findCls K (.ref B) (.type "type") "__init__" = some (.val (.builtin "ValueError.__init__"))
theorem newK_of {W : Wd} {k : Nat} {c x f qual : Str} {C : Addr} {st : Stmt} (hk : 2 ≤ k) (hm : W.mg c = some (.ref C)) (T : OexC W.K C) (hno : PySem.W.findIn W.K (.ref C) f = some none) (m : MethAt W.K C "__init__" qual st) (X : XITx x qual f st) (b : BaseAt W.K W.mg x)
    (bl : ∀ x, x ∈ bnames → W.mg x = none) : NewK W k c C f := by
  obtain ⟨B, hB, r, kv⟩ := b.of
  obtain ⟨g, fd, hmt, F⟩ := m.of
  have bd := F.binds X.bd
  obtain ⟨oc, od, kV, doc, pm, an, cdv, ct, osl, rfl, lk, hcd⟩ := F.ex
  exact ⟨1, g, _, _, hk, gfn_xi (k := 0) lk hcd X.sc bl X.tx X.vis T hno hB r kv X.gl, hm, T, hmt.at_, beq_iff_eq.mp hmt.fn, bd⟩
theorem newC_of {W : Wd} {x : Str} {C : Addr} (O : OwnX W x C) : NewC W x C := by
  obtain ⟨bmB, B, newId, initId, F, q⟩ := O.ex
  exact ⟨⟨B, newId, initId, bmB, F, q⟩, O.gl, O.kp⟩
/-- a class's facts behind the top -/
structure KeptX (K : PySem.W.Frag) (mg : Str → Option Value) (c qual f : Str) (st : Stmt) : Prop where
  of : mg c = some (.ref (adrM mg c)) ∧ OexC K (adrM mg c) ∧ PySem.W.findIn K (.ref (adrM mg c)) f = some none ∧ MethAt K (adrM mg c) "__init__" qual st ∧ L2.XfC K (adrM mg c)
theorem keptX_mk {K : PySem.W.Frag} {h : Heap} (_KX : K.In h) {mg : Str → Option Value} {c qual f : Str} {st : Stmt} {C : Addr} (e : mg c = some (.ref C)) {nm q N : _} {bs bm sn sub ab col dd k0 k1 k2 k3 k5 : _}
    (l : K.lookup C = some (excClassObj nm q C N bs bm true sn sub ab col dd k0 k1 k2 k3 k5 "ValueError.__new__")) (rf : PySem.HandSPX.refsVE bm = true)
    (sa : PySem.W.findIn K (.ref C) "__setattr__" = some (some (.builtin "object.__setattr__"))) (sb : PySem.W.subIn K (.ref C) (.type "BaseException") = some true) (ty : PySem.W.typeIn K (.ref C) = some (.type "type")) (kp : PySem.W.keepIn K (.ref C) = true)
    (no : PySem.W.findIn K (.ref C) f = some none) (m : MethAt K C "__init__" qual st)
    (ga : PySem.W.findIn K (.ref C) "__getattribute__" = some (some (.builtin "BaseException.__getattribute__"))) (gg : PySem.W.findIn K (.ref C) "__getattr__" = some none) (hd : PySem.W.hasDictIn K C = true) : KeptX K mg c qual f st := by
  refine ⟨?_⟩
  rw [adrM_of e]
  exact ⟨e, ⟨⟨nm, q, N, bs, bm, sn, sub, ab, col, dd, k0, k1, k2, k3, k5, l, rf⟩, sa, sb, ty, kp⟩, no, m, ⟨ga, gg, sb, hd⟩⟩
theorem KeptX.new {W : Wd} {k : Nat} {c x qual f : Str} {st : Stmt} (h : KeptX W.K W.mg c qual f st) (hk : 2 ≤ k) (X : XITx x qual f st) (b : BaseAt W.K W.mg x) (bl : ∀ x, x ∈ bnames → W.mg x = none) : NewK W k c (adrM W.mg c) f :=
  newK_of hk h.of.1 h.of.2.1 h.of.2.2.1 h.of.2.2.2.1 X b bl
theorem KeptX.at {W : Wd} {c qual f : Str} {st : Stmt} (h : KeptX W.K W.mg c qual f st) : AtC W (adrM W.mg c) f := ⟨h.of.2.2.2.2, h.of.2.2.1⟩
theorem baseAt_mk {K : PySem.W.Frag} {h : Heap} (_KX : K.In h) {mg : Str → Option Value} {x : Str} {B : Addr} (e : mg x = some (.ref B)) (rd : PySem.W.readsIn K B (.type "type") = true) (ga : PySem.W.specialIn K (.ref B) "__getattribute__" = some (some (.builtin "type.__getattribute__")))
    (kv : PySem.W.findCls K (.ref B) (.type "type") "__init__" = some (.val (.builtin "ValueError.__init__"))) : BaseAt K mg x := ⟨B, e, ⟨rd, ga⟩, kv⟩
/-- the line of a class's bases, told once -/
structure MroOf (K : PySem.W.Frag) (C : Addr) (l : List Value) : Prop where
  of : (PySem.W.clsIn K C).isSome = true ∧ ∀ v, PySem.W.subIn K (.ref C) v = some (l.contains v)
theorem mroOf_mk {K : PySem.W.Frag} {h : Heap} (_KX : K.In h) {mg : Str → Option Value} {x : Str} {C : Addr} (_e : mg x = some (.ref C)) {oc : Value} {od : Option Addr} {cd : ClassData} {osl : Array (Option Value)} (l : K.lookup C = some ⟨oc, od, .cls cd, osl⟩) (ne : cd.mro.isEmpty = false) : MroOf K C cd.mro := by
  have e : PySem.W.clsIn K C = some cd := by unfold PySem.W.clsIn; rw [l]
  refine ⟨by rw [e]; rfl, fun v => ?_⟩
  show PySem.W.mroIn K C v = _
  unfold PySem.W.mroIn
  rw [e, Option.bind_some, if_neg (by rw [ne]; decide)]
theorem tyOf {K : PySem.W.Frag} {h : Heap} (_KX : K.In h) {mg : Str → Option Value} {x : Str} {C : Addr} (_e : mg x = some (.ref C)) (t : PySem.W.typeIn K (.ref C) = some (.type "type")) : PySem.W.typeIn K (.ref C) = some (.type "type") := t
theorem kit_mro {K : PySem.W.Frag} {C D : Addr} {l lD : List Value} {b : Bool} (u : MroOf K C l) (uD : MroOf K D lD) (ty : PySem.W.typeIn K (.ref D) = some (.type "type")) (hb : (if (Value.ref C == Value.ref D) = true then true else l.contains (.ref D)) = b) : PySem.W.kitOne K (.ref C) (.ref D) = some b := by
  unfold PySem.W.kitOne
  by_cases z : (Value.ref C == Value.ref D) = true
  · rw [if_pos z] at hb ⊢
    rw [← hb]
  · rw [if_neg z] at hb ⊢
    unfold PySem.W.kitCls
    dsimp only
    rw [if_pos (by rw [uD.of.1, ty]; rfl), u.of.2, hb]
theorem kit_mroT {K : PySem.W.Frag} {C : Addr} {l : List Value} {T : String} {b : Bool} (u : MroOf K C l) (m : PySem.W.kitMeta T = true) (hb : l.contains (.type T) = b) : PySem.W.kitOne K (.ref C) (.type T) = some b := by
  unfold PySem.W.kitOne
  rw [if_neg (by
    have : (Value.ref C == Value.type T) = false := by rfl
    rw [this]; decide)]
  unfold PySem.W.kitCls
  dsimp only
  rw [if_pos m, u.of.2, hb]
end Fs

set_option Elab.async false
set_option linter.all false
set_option maxRecDepth 1000000
set_option maxHeartbeats 8000000
namespace K1
open PySem L2 Fs
def ir__law_refusal_v7 (adr : Str → Nat) : ISs := (.cons (.set 1 (.lst (.cons (.isX "Refused" adr ["DoesNotFit", "Full", "InvalidClaim", "InvalidClaims", "InvalidKind", "InvalidMark", "InvalidNumber", "InvalidPool", "InvalidSeating", "InvalidServer", "InvalidTicket", "InvalidTime", "InvalidWorths", "NotACertificate", "PoolError", "Refused", "ServerDown", "ServerUp"] (fun c => c == ("Refused" : Str)) (.var 0)) (.cons (.isX "InvalidPool" adr ["DoesNotFit", "Full", "InvalidClaim", "InvalidClaims", "InvalidKind", "InvalidMark", "InvalidNumber", "InvalidPool", "InvalidSeating", "InvalidServer", "InvalidTicket", "InvalidTime", "InvalidWorths", "NotACertificate", "PoolError", "Refused", "ServerDown", "ServerUp"] (fun c => c == ("InvalidPool" : Str)) (.var 0)) (.cons (.isX "InvalidClaims" adr ["DoesNotFit", "Full", "InvalidClaim", "InvalidClaims", "InvalidKind", "InvalidMark", "InvalidNumber", "InvalidPool", "InvalidSeating", "InvalidServer", "InvalidTicket", "InvalidTime", "InvalidWorths", "NotACertificate", "PoolError", "Refused", "ServerDown", "ServerUp"] (fun c => c == ("InvalidClaims" : Str)) (.var 0)) .nil)))))
  (.cons (.set 1 (.bin .Add (.var 1) (.lst (.cons (.isX "InvalidClaim" adr ["DoesNotFit", "Full", "InvalidClaim", "InvalidClaims", "InvalidKind", "InvalidMark", "InvalidNumber", "InvalidPool", "InvalidSeating", "InvalidServer", "InvalidTicket", "InvalidTime", "InvalidWorths", "NotACertificate", "PoolError", "Refused", "ServerDown", "ServerUp"] (fun c => c == ("InvalidClaim" : Str)) (.var 0)) (.cons (.isX "InvalidTime" adr ["DoesNotFit", "Full", "InvalidClaim", "InvalidClaims", "InvalidKind", "InvalidMark", "InvalidNumber", "InvalidPool", "InvalidSeating", "InvalidServer", "InvalidTicket", "InvalidTime", "InvalidWorths", "NotACertificate", "PoolError", "Refused", "ServerDown", "ServerUp"] (fun c => c == ("InvalidTime" : Str)) (.var 0)) (.cons (.isX "InvalidKind" adr ["DoesNotFit", "Full", "InvalidClaim", "InvalidClaims", "InvalidKind", "InvalidMark", "InvalidNumber", "InvalidPool", "InvalidSeating", "InvalidServer", "InvalidTicket", "InvalidTime", "InvalidWorths", "NotACertificate", "PoolError", "Refused", "ServerDown", "ServerUp"] (fun c => c == ("InvalidKind" : Str)) (.var 0)) .nil))))))
  (.cons (.set 1 (.bin .Add (.var 1) (.lst (.cons (.isX "InvalidNumber" adr ["DoesNotFit", "Full", "InvalidClaim", "InvalidClaims", "InvalidKind", "InvalidMark", "InvalidNumber", "InvalidPool", "InvalidSeating", "InvalidServer", "InvalidTicket", "InvalidTime", "InvalidWorths", "NotACertificate", "PoolError", "Refused", "ServerDown", "ServerUp"] (fun c => c == ("InvalidNumber" : Str)) (.var 0)) (.cons (.isX "InvalidSeating" adr ["DoesNotFit", "Full", "InvalidClaim", "InvalidClaims", "InvalidKind", "InvalidMark", "InvalidNumber", "InvalidPool", "InvalidSeating", "InvalidServer", "InvalidTicket", "InvalidTime", "InvalidWorths", "NotACertificate", "PoolError", "Refused", "ServerDown", "ServerUp"] (fun c => c == ("InvalidSeating" : Str)) (.var 0)) .nil)))))
  (.cons (.set 1 (.bin .Add (.var 1) (.lst (.cons (.isX "InvalidWorths" adr ["DoesNotFit", "Full", "InvalidClaim", "InvalidClaims", "InvalidKind", "InvalidMark", "InvalidNumber", "InvalidPool", "InvalidSeating", "InvalidServer", "InvalidTicket", "InvalidTime", "InvalidWorths", "NotACertificate", "PoolError", "Refused", "ServerDown", "ServerUp"] (fun c => c == ("InvalidWorths" : Str)) (.var 0)) (.cons (.isX "DoesNotFit" adr ["DoesNotFit", "Full", "InvalidClaim", "InvalidClaims", "InvalidKind", "InvalidMark", "InvalidNumber", "InvalidPool", "InvalidSeating", "InvalidServer", "InvalidTicket", "InvalidTime", "InvalidWorths", "NotACertificate", "PoolError", "Refused", "ServerDown", "ServerUp"] (fun c => c == ("DoesNotFit" : Str)) (.var 0)) .nil)))))
  (.cons (.app 1 (.isX "NotACertificate" adr ["DoesNotFit", "Full", "InvalidClaim", "InvalidClaims", "InvalidKind", "InvalidMark", "InvalidNumber", "InvalidPool", "InvalidSeating", "InvalidServer", "InvalidTicket", "InvalidTime", "InvalidWorths", "NotACertificate", "PoolError", "Refused", "ServerDown", "ServerUp"] (fun c => c == ("NotACertificate" : Str)) (.var 0)))
  (.cons (.set 2 (.lst (.cons (.isX "InvalidServer" adr ["DoesNotFit", "Full", "InvalidClaim", "InvalidClaims", "InvalidKind", "InvalidMark", "InvalidNumber", "InvalidPool", "InvalidSeating", "InvalidServer", "InvalidTicket", "InvalidTime", "InvalidWorths", "NotACertificate", "PoolError", "Refused", "ServerDown", "ServerUp"] (fun c => c == ("InvalidServer" : Str)) (.var 0)) (.cons (.isX "ServerDown" adr ["DoesNotFit", "Full", "InvalidClaim", "InvalidClaims", "InvalidKind", "InvalidMark", "InvalidNumber", "InvalidPool", "InvalidSeating", "InvalidServer", "InvalidTicket", "InvalidTime", "InvalidWorths", "NotACertificate", "PoolError", "Refused", "ServerDown", "ServerUp"] (fun c => c == ("ServerDown" : Str)) (.var 0)) (.cons (.isX "ServerUp" adr ["DoesNotFit", "Full", "InvalidClaim", "InvalidClaims", "InvalidKind", "InvalidMark", "InvalidNumber", "InvalidPool", "InvalidSeating", "InvalidServer", "InvalidTicket", "InvalidTime", "InvalidWorths", "NotACertificate", "PoolError", "Refused", "ServerDown", "ServerUp"] (fun c => c == ("ServerUp" : Str)) (.var 0)) .nil)))))
  (.cons (.set 2 (.bin .Add (.var 2) (.lst (.cons (.isX "InvalidTicket" adr ["DoesNotFit", "Full", "InvalidClaim", "InvalidClaims", "InvalidKind", "InvalidMark", "InvalidNumber", "InvalidPool", "InvalidSeating", "InvalidServer", "InvalidTicket", "InvalidTime", "InvalidWorths", "NotACertificate", "PoolError", "Refused", "ServerDown", "ServerUp"] (fun c => c == ("InvalidTicket" : Str)) (.var 0)) (.cons (.isX "InvalidMark" adr ["DoesNotFit", "Full", "InvalidClaim", "InvalidClaims", "InvalidKind", "InvalidMark", "InvalidNumber", "InvalidPool", "InvalidSeating", "InvalidServer", "InvalidTicket", "InvalidTime", "InvalidWorths", "NotACertificate", "PoolError", "Refused", "ServerDown", "ServerUp"] (fun c => c == ("InvalidMark" : Str)) (.var 0)) (.cons (.isX "Full" adr ["DoesNotFit", "Full", "InvalidClaim", "InvalidClaims", "InvalidKind", "InvalidMark", "InvalidNumber", "InvalidPool", "InvalidSeating", "InvalidServer", "InvalidTicket", "InvalidTime", "InvalidWorths", "NotACertificate", "PoolError", "Refused", "ServerDown", "ServerUp"] (fun c => c == ("Full" : Str)) (.var 0)) .nil))))))
  (.cons (.set 3 (.bin .Add (.var 1) (.var 2)))
  (.cons (.ite (.or (.cons (.cmp .NotEq (.blt .cnt (.cons (.var 3) (.cons (.bool true) .nil))) (.int 1)) (.cons (.not (.isX "PoolError" adr ["DoesNotFit", "Full", "InvalidClaim", "InvalidClaims", "InvalidKind", "InvalidMark", "InvalidNumber", "InvalidPool", "InvalidSeating", "InvalidServer", "InvalidTicket", "InvalidTime", "InvalidWorths", "NotACertificate", "PoolError", "Refused", "ServerDown", "ServerUp"] (fun _ => true) (.var 0))) (.cons (.not (.isX "ValueError" adr ["DoesNotFit", "Full", "InvalidClaim", "InvalidClaims", "InvalidKind", "InvalidMark", "InvalidNumber", "InvalidPool", "InvalidSeating", "InvalidServer", "InvalidTicket", "InvalidTime", "InvalidWorths", "NotACertificate", "PoolError", "Refused", "ServerDown", "ServerUp"] (fun _ => true) (.var 0))) .nil))))
  (.cons (.ret (.str "more"))
  .nil)
  .nil)
  (.cons (.set 4 (.lst (.cons (.str "refused") (.cons (.str "pool") (.cons (.str "claims") (.cons (.str "claim") (.cons (.str "time") (.cons (.str "kind") (.cons (.str "number") (.cons (.str "places") (.cons (.str "worths") (.cons (.str "no fit") (.cons (.str "form") .nil)))))))))))))
  (.cons (.set 5 (.ix (.bin .Add (.var 4) (.lst (.cons (.str "server") (.cons (.str "down") (.cons (.str "up") (.cons (.str "ticket") (.cons (.str "mark") (.cons (.str "full") .nil)))))))) (.blt .idx (.cons (.var 3) (.cons (.bool true) .nil)))))
  (.cons (.ite (.cmp .In (.bool true) (.var 1))
  (.cons (.ret (.var 5))
  .nil)
  .nil)
  (.cons (.ite (.cmp .In (.var 5) (.tup (.cons (.str "server") (.cons (.str "down") (.cons (.str "up") .nil)))))
  (.cons (.ret (.bin .Add (.bin .Add (.var 5) (.str " ")) (.blt .repr (.cons (.xat 0 "server" adr ["InvalidServer", "ServerDown", "ServerUp"]) .nil))))
  .nil)
  .nil)
  (.cons (.ite (.cmp .Eq (.var 5) (.str "ticket"))
  (.cons (.ret (.bin .Add (.bin .Add (.var 5) (.str " ")) (.blt .repr (.cons (.xat 0 "ticket" adr ["InvalidTicket"]) .nil))))
  .nil)
  .nil)
  (.cons (.ret (.bin .Add (.bin .Add (.var 5) (.str " ")) (.blt .repr (.cons (.ite (.cmp .Eq (.var 5) (.str "mark")) (.xat 0 "number" adr ["InvalidMark"]) (.xat 0 "limit" adr ["Full"])) .nil))))
  .nil)))))))))))))))
def F__law_refusal_v7 (adr : Str → Nat) : Fn := runF 6 (ir__law_refusal_v7 adr)
def ir__law_plain_right (adr : Str → Nat) : ISs := (.cons (.set 1 (.lst (.cons (.newX "Refused" adr none (.var 0)) (.cons (.newX "InvalidPool" adr none (.var 0)) (.cons (.newX "InvalidClaims" adr none (.var 0)) (.cons (.newX "InvalidClaim" adr none (.var 0)) (.cons (.newX "InvalidTime" adr none (.var 0)) .nil)))))))
  (.cons (.set 1 (.bin .Add (.var 1) (.lst (.cons (.newX "InvalidKind" adr none (.var 0)) (.cons (.newX "InvalidNumber" adr none (.var 0)) (.cons (.newX "InvalidSeating" adr none (.var 0)) (.cons (.newX "InvalidWorths" adr none (.var 0)) .nil)))))))
  (.cons (.set 1 (.bin .Add (.var 1) (.lst (.cons (.newX "DoesNotFit" adr none (.var 0)) (.cons (.newX "NotACertificate" adr none (.var 0)) .nil)))))
  (.cons (.set 2 (.lst (.cons (.str "refused") (.cons (.str "pool") (.cons (.str "claims") (.cons (.str "claim") (.cons (.str "time") (.cons (.str "kind") (.cons (.str "number") (.cons (.str "places") (.cons (.str "worths") (.cons (.str "no fit") (.cons (.str "form") .nil)))))))))))))
  (.cons (.ret (.cmp .Eq (.lc (.call "_law_refusal" (F__law_refusal_v7 adr) (.cons (.var 3) .nil)) (.v 3) (.seq (.var 1)) .nil) (.var 2)))
  .nil)))))
def F__law_plain_right (adr : Str → Nat) : Fn := runF 4 (ir__law_plain_right adr)
def ir__law_kept_right (adr : Str → Nat) : ISs := (.cons (.set 1 (.blt .repr (.cons (.var 0) .nil)))
  (.cons (.set 2 (.lst (.cons (.newX "InvalidServer" adr (some "server") (.var 0)) (.cons (.newX "ServerDown" adr (some "server") (.var 0)) (.cons (.newX "ServerUp" adr (some "server") (.var 0)) (.cons (.newX "InvalidTicket" adr (some "ticket") (.var 0)) (.cons (.newX "InvalidMark" adr (some "number") (.var 0)) .nil)))))))
  (.cons (.app 2 (.newX "Full" adr (some "limit") (.var 0)))
  (.cons (.setLc 3 (.bin .Add (.bin .Add (.var 4) (.str " ")) (.var 1)) (.v 4) (.seq (.lst (.cons (.str "server") (.cons (.str "down") (.cons (.str "up") (.cons (.str "ticket") (.cons (.str "mark") (.cons (.str "full") .nil)))))))) .nil)
  (.cons (.ret (.and (.cons (.cmp .Eq (.lc (.call "_law_refusal" (F__law_refusal_v7 adr) (.cons (.var 5) .nil)) (.v 5) (.seq (.var 2)) .nil) (.var 3)) (.cons (.cmp .Eq (.blt .repr (.cons (.var 0) .nil)) (.var 1)) .nil))))
  .nil)))))
def F__law_kept_right (adr : Str → Nat) : Fn := runF 6 (ir__law_kept_right adr)
def irr_law (adr : Str → Nat) : ISs := (.cons (.set 2 (.newX "PoolError" adr none (.str "base")))
  (.cons (.ite (.or (.cons (.cmp .NotEq (.call "_law_refusal" (F__law_refusal_v7 adr) (.cons (.var 2) .nil)) (.str "more")) (.cons (.not (.isX "ValueError" adr ["DoesNotFit", "Full", "InvalidClaim", "InvalidClaims", "InvalidKind", "InvalidMark", "InvalidNumber", "InvalidPool", "InvalidSeating", "InvalidServer", "InvalidTicket", "InvalidTime", "InvalidWorths", "NotACertificate", "PoolError", "Refused", "ServerDown", "ServerUp"] (fun _ => true) (.var 2))) .nil)))
  (.cons (.ret (.bool false))
  .nil)
  .nil)
  (.cons (.for (.v 3) (.seq (.lst (.cons (.str "") (.cons (.str "a text") (.cons (.str "5") .nil)))))
  (.cons (.ite (.not (.call "_law_plain_right" (F__law_plain_right adr) (.cons (.var 3) .nil)))
  (.cons (.ret (.bool false))
  .nil)
  .nil)
  .nil))
  (.cons (.for (.v 4) (.rng (.int 6))
  (.cons (.set 5 (.lst (.cons (.call "_law_take" FTake (.cons (.var 1) (.cons (.int 13) .nil))) (.cons (.neg (.int 1)) (.cons .non (.cons (.bool true) (.cons (.str "x") (.cons (.str "") (.cons (.tup (.cons (.int 1) (.cons (.int 2) .nil))) (.cons (.lst (.cons (.int 3) .nil)) (.cons (.lst .nil) (.cons (.bin .Pow (.int 10) (.int 20)) (.cons (.tup (.cons (.call "_law_take" FTake (.cons (.var 1) (.cons (.int 9) .nil))) (.cons .non .nil))) .nil)))))))))))))
  (.cons (.ite (.not (.call "_law_kept_right" (F__law_kept_right adr) (.cons (.one "_law_one" (.var 1) (.var 5)) .nil)))
  (.cons (.ret (.bool false))
  .nil)
  .nil)
  .nil)))
  (.cons (.ret (.bool true))
  .nil)))))
end K1

set_option Elab.async false
set_option linter.all false
set_option maxRecDepth 1000000
set_option maxHeartbeats 8000000
namespace K1
open PySem L2 Fs
def top (i : Nat) : Stmt := PySem.Challenge.pw_floatseats_k01_errors_by_hand.main.body.getD i (.Pass ⟨0, 0, 0, 0⟩)

abbrev st__law_open : Stmt := top 21
def nN__law_open : List Str := ["_law_script", "_law_cells", "_law_k", "_law_cell"]
def nE__law_open : Em := ⟨[⟨69, 4, 69, 39⟩, ⟨69, 4, 69, 14⟩, ⟨69, 17, 69, 39⟩, ⟨69, 17, 69, 21⟩, ⟨69, 22, 69, 38⟩, ⟨69, 34, 69, 37⟩, ⟨69, 22, 69, 33⟩, ⟨69, 35, 69, 37⟩, ⟨70, 4, 71, 79⟩, ⟨70, 8, 70, 25⟩, ⟨70, 8, 70, 14⟩, ⟨70, 16, 70, 25⟩, ⟨70, 29, 70, 58⟩, ⟨70, 29, 70, 38⟩, ⟨70, 39, 70, 57⟩, ⟨70, 51, 70, 56⟩, ⟨70, 39, 70, 50⟩, ⟨70, 51, 70, 53⟩, ⟨70, 54, 70, 56⟩, ⟨71, 8, 71, 79⟩, ⟨71, 8, 71, 36⟩, ⟨71, 8, 71, 18⟩, ⟨71, 19, 71, 35⟩, ⟨71, 19, 71, 30⟩, ⟨71, 19, 71, 22⟩, ⟨71, 23, 71, 29⟩, ⟨71, 33, 71, 35⟩, ⟨71, 39, 71, 79⟩, ⟨71, 39, 71, 67⟩, ⟨71, 39, 71, 49⟩, ⟨71, 50, 71, 66⟩, ⟨71, 50, 71, 61⟩, ⟨71, 50, 71, 53⟩, ⟨71, 54, 71, 60⟩, ⟨71, 64, 71, 66⟩, ⟨71, 70, 71, 79⟩, ⟨72, 4, 72, 29⟩, ⟨72, 11, 72, 29⟩, ⟨72, 12, 72, 22⟩, ⟨72, 24, 72, 25⟩, ⟨72, 27, 72, 28⟩],
  [],
  []⟩
theorem em__law_open : (emSs nN__law_open ir_open nE__law_open).1 = defBody st__law_open := by rfl
theorem ok__law_open : okSs nN__law_open (defScope st__law_open) ir_open nE__law_open = true := by decide +kernel
theorem sc__law_open : FnScope nN__law_open ["_law_script"] (defScope st__law_open) := ⟨rfl, rfl, rfl, by decide +kernel, rfl, by decide +kernel, by decide +kernel⟩

abbrev st__law_refusal : Stmt := top 25
def nN__law_refusal : List Str := ["_law_caught", "_law_plain", "_law_kept", "_law_some", "_law_words", "_law_word"]
def nE__law_refusal : Em := ⟨[⟨92, 4, 92, 129⟩, ⟨92, 4, 92, 14⟩, ⟨92, 17, 92, 129⟩, ⟨92, 18, 92, 50⟩, ⟨92, 18, 92, 28⟩, ⟨92, 29, 92, 40⟩, ⟨92, 42, 92, 49⟩, ⟨92, 52, 92, 88⟩, ⟨92, 52, 92, 62⟩, ⟨92, 63, 92, 74⟩, ⟨92, 76, 92, 87⟩, ⟨92, 90, 92, 128⟩, ⟨92, 90, 92, 100⟩, ⟨92, 101, 92, 112⟩, ⟨92, 114, 92, 127⟩, ⟨93, 4, 93, 145⟩, ⟨93, 4, 93, 14⟩, ⟨93, 17, 93, 145⟩, ⟨93, 17, 93, 27⟩, ⟨93, 30, 93, 145⟩, ⟨93, 31, 93, 68⟩, ⟨93, 31, 93, 41⟩, ⟨93, 42, 93, 53⟩, ⟨93, 55, 93, 67⟩, ⟨93, 70, 93, 106⟩, ⟨93, 70, 93, 80⟩, ⟨93, 81, 93, 92⟩, ⟨93, 94, 93, 105⟩, ⟨93, 108, 93, 144⟩, ⟨93, 108, 93, 118⟩, ⟨93, 119, 93, 130⟩, ⟨93, 132, 93, 143⟩, ⟨94, 4, 94, 111⟩, ⟨94, 4, 94, 14⟩, ⟨94, 17, 94, 111⟩, ⟨94, 17, 94, 27⟩, ⟨94, 30, 94, 111⟩, ⟨94, 31, 94, 69⟩, ⟨94, 31, 94, 41⟩, ⟨94, 42, 94, 53⟩, ⟨94, 55, 94, 68⟩, ⟨94, 71, 94, 110⟩, ⟨94, 71, 94, 81⟩, ⟨94, 82, 94, 93⟩, ⟨94, 95, 94, 109⟩, ⟨95, 4, 95, 107⟩, ⟨95, 4, 95, 14⟩, ⟨95, 17, 95, 107⟩, ⟨95, 17, 95, 27⟩, ⟨95, 30, 95, 107⟩, ⟨95, 31, 95, 69⟩, ⟨95, 31, 95, 41⟩, ⟨95, 42, 95, 53⟩, ⟨95, 55, 95, 68⟩, ⟨95, 71, 95, 106⟩, ⟨95, 71, 95, 81⟩, ⟨95, 82, 95, 93⟩, ⟨95, 95, 95, 105⟩, ⟨96, 4, 96, 63⟩, ⟨96, 4, 96, 63⟩, ⟨96, 4, 96, 21⟩, ⟨96, 4, 96, 14⟩, ⟨96, 22, 96, 62⟩, ⟨96, 22, 96, 32⟩, ⟨96, 33, 96, 44⟩, ⟨96, 46, 96, 61⟩, ⟨97, 4, 97, 128⟩, ⟨97, 4, 97, 13⟩, ⟨97, 16, 97, 128⟩, ⟨97, 17, 97, 55⟩, ⟨97, 17, 97, 27⟩, ⟨97, 28, 97, 39⟩, ⟨97, 41, 97, 54⟩, ⟨97, 57, 97, 92⟩, ⟨97, 57, 97, 67⟩, ⟨97, 68, 97, 79⟩, ⟨97, 81, 97, 91⟩, ⟨97, 94, 97, 127⟩, ⟨97, 94, 97, 104⟩, ⟨97, 105, 97, 116⟩, ⟨97, 118, 97, 126⟩, ⟨98, 4, 98, 137⟩, ⟨98, 4, 98, 13⟩, ⟨98, 16, 98, 137⟩, ⟨98, 16, 98, 25⟩, ⟨98, 28, 98, 137⟩, ⟨98, 29, 98, 67⟩, ⟨98, 29, 98, 39⟩, ⟨98, 40, 98, 51⟩, ⟨98, 53, 98, 66⟩, ⟨98, 69, 98, 105⟩, ⟨98, 69, 98, 79⟩, ⟨98, 80, 98, 91⟩, ⟨98, 93, 98, 104⟩, ⟨98, 107, 98, 136⟩, ⟨98, 107, 98, 117⟩, ⟨98, 118, 98, 129⟩, ⟨98, 131, 98, 135⟩, ⟨99, 4, 99, 38⟩, ⟨99, 4, 99, 13⟩, ⟨99, 16, 99, 38⟩, ⟨99, 16, 99, 26⟩, ⟨99, 29, 99, 38⟩, ⟨100, 4, 101, 21⟩, ⟨100, 7, 100, 120⟩, ⟨100, 7, 100, 33⟩, ⟨100, 7, 100, 28⟩, ⟨100, 7, 100, 22⟩, ⟨100, 7, 100, 16⟩, ⟨100, 23, 100, 27⟩, ⟨100, 32, 100, 33⟩, ⟨100, 37, 100, 75⟩, ⟨100, 41, 100, 75⟩, ⟨100, 41, 100, 51⟩, ⟨100, 52, 100, 63⟩, ⟨100, 65, 100, 74⟩, ⟨100, 80, 100, 119⟩, ⟨100, 84, 100, 119⟩, ⟨100, 84, 100, 94⟩, ⟨100, 95, 100, 106⟩, ⟨100, 108, 100, 118⟩, ⟨101, 8, 101, 21⟩, ⟨101, 15, 101, 21⟩, ⟨102, 4, 102, 119⟩, ⟨102, 4, 102, 14⟩, ⟨102, 17, 102, 119⟩, ⟨102, 18, 102, 27⟩, ⟨102, 29, 102, 35⟩, ⟨102, 37, 102, 45⟩, ⟨102, 47, 102, 54⟩, ⟨102, 56, 102, 62⟩, ⟨102, 64, 102, 70⟩, ⟨102, 72, 102, 80⟩, ⟨102, 82, 102, 90⟩, ⟨102, 92, 102, 100⟩, ⟨102, 102, 102, 110⟩, ⟨102, 112, 102, 118⟩, ⟨103, 4, 103, 104⟩, ⟨103, 4, 103, 13⟩, ⟨103, 16, 103, 104⟩, ⟨103, 17, 103, 80⟩, ⟨103, 17, 103, 27⟩, ⟨103, 30, 103, 80⟩, ⟨103, 31, 103, 39⟩, ⟨103, 41, 103, 47⟩, ⟨103, 49, 103, 53⟩, ⟨103, 55, 103, 63⟩, ⟨103, 65, 103, 71⟩, ⟨103, 73, 103, 79⟩, ⟨103, 82, 103, 103⟩, ⟨103, 82, 103, 97⟩, ⟨103, 82, 103, 91⟩, ⟨103, 98, 103, 102⟩, ⟨104, 4, 105, 24⟩, ⟨104, 7, 104, 25⟩, ⟨104, 7, 104, 11⟩, ⟨104, 15, 104, 25⟩, ⟨105, 8, 105, 24⟩, ⟨105, 15, 105, 24⟩, ⟨106, 4, 107, 57⟩, ⟨106, 7, 106, 44⟩, ⟨106, 7, 106, 16⟩, ⟨106, 20, 106, 44⟩, ⟨106, 21, 106, 29⟩, ⟨106, 31, 106, 37⟩, ⟨106, 39, 106, 43⟩, ⟨107, 8, 107, 57⟩, ⟨107, 15, 107, 57⟩, ⟨107, 15, 107, 30⟩, ⟨107, 15, 107, 24⟩, ⟨107, 27, 107, 30⟩, ⟨107, 33, 107, 57⟩, ⟨107, 33, 107, 37⟩, ⟨107, 38, 107, 56⟩, ⟨107, 38, 107, 49⟩, ⟨108, 4, 109, 57⟩, ⟨108, 7, 108, 28⟩, ⟨108, 7, 108, 16⟩, ⟨108, 20, 108, 28⟩, ⟨109, 8, 109, 57⟩, ⟨109, 15, 109, 57⟩, ⟨109, 15, 109, 30⟩, ⟨109, 15, 109, 24⟩, ⟨109, 27, 109, 30⟩, ⟨109, 33, 109, 57⟩, ⟨109, 33, 109, 37⟩, ⟨109, 38, 109, 56⟩, ⟨109, 38, 109, 49⟩, ⟨110, 4, 110, 99⟩, ⟨110, 11, 110, 99⟩, ⟨110, 11, 110, 26⟩, ⟨110, 11, 110, 20⟩, ⟨110, 23, 110, 26⟩, ⟨110, 29, 110, 99⟩, ⟨110, 29, 110, 33⟩, ⟨110, 34, 110, 98⟩, ⟨110, 56, 110, 75⟩, ⟨110, 56, 110, 65⟩, ⟨110, 69, 110, 75⟩, ⟨110, 34, 110, 52⟩, ⟨110, 34, 110, 45⟩, ⟨110, 81, 110, 98⟩, ⟨110, 81, 110, 92⟩],
  [],
  []⟩
theorem em__law_refusal (adr : Str → Nat) : (emSs nN__law_refusal (ir__law_refusal_v7 adr) nE__law_refusal).1 = defBody st__law_refusal := by rfl
theorem ok__law_refusal (adr : Str → Nat) : okSs nN__law_refusal (defScope st__law_refusal) (ir__law_refusal_v7 adr) nE__law_refusal = true := by kernel_rfl
theorem sc__law_refusal : FnScope nN__law_refusal ["_law_caught"] (defScope st__law_refusal) := ⟨rfl, rfl, rfl, by decide +kernel, rfl, by decide +kernel, by decide +kernel⟩

abbrev st__law_plain_right : Stmt := top 26
def nN__law_plain_right : List Str := ["_law_text", "_law_some", "_law_words", "_law_fault"]
def nE__law_plain_right : Em := ⟨[⟨112, 4, 112, 135⟩, ⟨112, 4, 112, 13⟩, ⟨112, 16, 112, 135⟩, ⟨112, 17, 112, 35⟩, ⟨112, 17, 112, 24⟩, ⟨112, 25, 112, 34⟩, ⟨112, 37, 112, 59⟩, ⟨112, 37, 112, 48⟩, ⟨112, 49, 112, 58⟩, ⟨112, 61, 112, 85⟩, ⟨112, 61, 112, 74⟩, ⟨112, 75, 112, 84⟩, ⟨112, 87, 112, 110⟩, ⟨112, 87, 112, 99⟩, ⟨112, 100, 112, 109⟩, ⟨112, 112, 112, 134⟩, ⟨112, 112, 112, 123⟩, ⟨112, 124, 112, 133⟩, ⟨113, 4, 113, 131⟩, ⟨113, 4, 113, 13⟩, ⟨113, 16, 113, 131⟩, ⟨113, 16, 113, 25⟩, ⟨113, 28, 113, 131⟩, ⟨113, 29, 113, 51⟩, ⟨113, 29, 113, 40⟩, ⟨113, 41, 113, 50⟩, ⟨113, 53, 113, 77⟩, ⟨113, 53, 113, 66⟩, ⟨113, 67, 113, 76⟩, ⟨113, 79, 113, 104⟩, ⟨113, 79, 113, 93⟩, ⟨113, 94, 113, 103⟩, ⟨113, 106, 113, 130⟩, ⟨113, 106, 113, 119⟩, ⟨113, 120, 113, 129⟩, ⟨114, 4, 114, 79⟩, ⟨114, 4, 114, 13⟩, ⟨114, 16, 114, 79⟩, ⟨114, 16, 114, 25⟩, ⟨114, 28, 114, 79⟩, ⟨114, 29, 114, 50⟩, ⟨114, 29, 114, 39⟩, ⟨114, 40, 114, 49⟩, ⟨114, 52, 114, 78⟩, ⟨114, 52, 114, 67⟩, ⟨114, 68, 114, 77⟩, ⟨115, 4, 115, 119⟩, ⟨115, 4, 115, 14⟩, ⟨115, 17, 115, 119⟩, ⟨115, 18, 115, 27⟩, ⟨115, 29, 115, 35⟩, ⟨115, 37, 115, 45⟩, ⟨115, 47, 115, 54⟩, ⟨115, 56, 115, 62⟩, ⟨115, 64, 115, 70⟩, ⟨115, 72, 115, 80⟩, ⟨115, 82, 115, 90⟩, ⟨115, 92, 115, 100⟩, ⟨115, 102, 115, 110⟩, ⟨115, 112, 115, 118⟩, ⟨116, 4, 116, 79⟩, ⟨116, 11, 116, 79⟩, ⟨116, 11, 116, 65⟩, ⟨116, 12, 116, 36⟩, ⟨116, 12, 116, 24⟩, ⟨116, 25, 116, 35⟩, ⟨116, 41, 116, 51⟩, ⟨116, 55, 116, 64⟩, ⟨116, 69, 116, 79⟩],
  [{ kind := .function, names := [(".0", .local), ("_law_fault", .local), ("_law_refusal", .globalImplicit)], isGenerator := false, isCoroutine := false, more := [] }],
  []⟩
theorem em__law_plain_right (adr : Str → Nat) : (emSs nN__law_plain_right (ir__law_plain_right adr) nE__law_plain_right).1 = defBody st__law_plain_right := by rfl
theorem ok__law_plain_right (adr : Str → Nat) : okSs nN__law_plain_right (defScope st__law_plain_right) (ir__law_plain_right adr) nE__law_plain_right = true := by kernel_rfl
theorem sc__law_plain_right : FnScope nN__law_plain_right ["_law_text"] (defScope st__law_plain_right) := ⟨rfl, rfl, rfl, by decide +kernel, rfl, by decide +kernel, by decide +kernel⟩

abbrev st__law_spread : Stmt := top 20
def nN__law_spread : List Str := ["_law_cell", "_law_at", "_law_primes", "_law_mixed", "_law_one_here", "_law_rest", "_law_two", "_law_three"]
def nE__law_spread : Em := ⟨[⟨58, 4, 59, 24⟩, ⟨58, 7, 58, 28⟩, ⟨58, 7, 58, 16⟩, ⟨58, 20, 58, 28⟩, ⟨58, 20, 58, 22⟩, ⟨58, 26, 58, 28⟩, ⟨59, 8, 59, 24⟩, ⟨59, 15, 59, 24⟩, ⟨60, 4, 60, 102⟩, ⟨60, 4, 60, 15⟩, ⟨60, 18, 60, 102⟩, ⟨60, 19, 60, 29⟩, ⟨60, 31, 60, 41⟩, ⟨60, 43, 60, 53⟩, ⟨60, 55, 60, 65⟩, ⟨60, 67, 60, 77⟩, ⟨60, 79, 60, 89⟩, ⟨60, 91, 60, 101⟩, ⟨61, 4, 61, 104⟩, ⟨61, 4, 61, 15⟩, ⟨61, 18, 61, 104⟩, ⟨61, 18, 61, 29⟩, ⟨61, 32, 61, 104⟩, ⟨61, 33, 61, 43⟩, ⟨61, 45, 61, 55⟩, ⟨61, 57, 61, 67⟩, ⟨61, 69, 61, 79⟩, ⟨61, 81, 61, 91⟩, ⟨61, 93, 61, 103⟩, ⟨62, 4, 62, 92⟩, ⟨62, 4, 62, 14⟩, ⟨62, 17, 62, 92⟩, ⟨62, 17, 62, 86⟩, ⟨62, 17, 62, 68⟩, ⟨62, 17, 62, 44⟩, ⟨62, 17, 62, 31⟩, ⟨62, 17, 62, 20⟩, ⟨62, 21, 62, 30⟩, ⟨62, 34, 62, 44⟩, ⟨62, 48, 62, 67⟩, ⟨62, 48, 62, 59⟩, ⟨62, 48, 62, 49⟩, ⟨62, 52, 62, 59⟩, ⟨62, 62, 62, 67⟩, ⟨62, 71, 62, 86⟩, ⟨62, 71, 62, 78⟩, ⟨62, 81, 62, 86⟩, ⟨62, 89, 62, 92⟩, ⟨63, 4, 63, 73⟩, ⟨63, 4, 63, 17⟩, ⟨63, 20, 63, 73⟩, ⟨63, 20, 63, 40⟩, ⟨63, 20, 63, 23⟩, ⟨63, 24, 63, 39⟩, ⟨63, 24, 63, 34⟩, ⟨63, 38, 63, 39⟩, ⟨63, 43, 63, 73⟩, ⟨63, 43, 63, 54⟩, ⟨63, 55, 63, 72⟩, ⟨63, 55, 63, 67⟩, ⟨63, 55, 63, 58⟩, ⟨63, 59, 63, 66⟩, ⟨63, 70, 63, 72⟩, ⟨64, 4, 64, 42⟩, ⟨64, 4, 64, 13⟩, ⟨64, 16, 64, 42⟩, ⟨64, 16, 64, 38⟩, ⟨64, 16, 64, 30⟩, ⟨64, 16, 64, 19⟩, ⟨64, 20, 64, 29⟩, ⟨64, 33, 64, 38⟩, ⟨64, 41, 64, 42⟩, ⟨65, 4, 65, 105⟩, ⟨65, 4, 65, 12⟩, ⟨65, 15, 65, 105⟩, ⟨65, 15, 65, 68⟩, ⟨65, 15, 65, 18⟩, ⟨65, 19, 65, 67⟩, ⟨65, 20, 65, 61⟩, ⟨65, 20, 65, 49⟩, ⟨65, 20, 65, 33⟩, ⟨65, 37, 65, 48⟩, ⟨65, 37, 65, 44⟩, ⟨65, 47, 65, 48⟩, ⟨65, 52, 65, 61⟩, ⟨65, 66, 65, 67⟩, ⟨65, 71, 65, 105⟩, ⟨65, 71, 65, 82⟩, ⟨65, 83, 65, 104⟩, ⟨65, 83, 65, 99⟩, ⟨65, 83, 65, 86⟩, ⟨65, 87, 65, 98⟩, ⟨65, 87, 65, 94⟩, ⟨65, 97, 65, 98⟩, ⟨65, 102, 65, 104⟩, ⟨66, 4, 66, 112⟩, ⟨66, 4, 66, 14⟩, ⟨66, 17, 66, 112⟩, ⟨66, 17, 66, 75⟩, ⟨66, 17, 66, 20⟩, ⟨66, 21, 66, 74⟩, ⟨66, 22, 66, 68⟩, ⟨66, 22, 66, 58⟩, ⟨66, 22, 66, 30⟩, ⟨66, 33, 66, 58⟩, ⟨66, 33, 66, 51⟩, ⟨66, 33, 66, 36⟩, ⟨66, 37, 66, 50⟩, ⟨66, 54, 66, 58⟩, ⟨66, 61, 66, 68⟩, ⟨66, 73, 66, 74⟩, ⟨66, 78, 66, 112⟩, ⟨66, 78, 66, 89⟩, ⟨66, 90, 66, 111⟩, ⟨66, 90, 66, 106⟩, ⟨66, 90, 66, 93⟩, ⟨66, 94, 66, 105⟩, ⟨66, 94, 66, 101⟩, ⟨66, 104, 66, 105⟩, ⟨66, 109, 66, 111⟩, ⟨67, 4, 67, 76⟩, ⟨67, 11, 67, 76⟩, ⟨67, 11, 67, 63⟩, ⟨67, 12, 67, 49⟩, ⟨67, 12, 67, 38⟩, ⟨67, 12, 67, 25⟩, ⟨67, 28, 67, 38⟩, ⟨67, 41, 67, 49⟩, ⟨67, 53, 67, 63⟩, ⟨67, 66, 67, 76⟩],
  [],
  []⟩
theorem em__law_spread : (emSs nN__law_spread ir_spread nE__law_spread).1 = defBody st__law_spread := by rfl
theorem ok__law_spread : okSs nN__law_spread (defScope st__law_spread) ir_spread nE__law_spread = true := by decide +kernel
theorem sc__law_spread : FnScope nN__law_spread ["_law_cell", "_law_at"] (defScope st__law_spread) := ⟨rfl, rfl, rfl, by decide +kernel, rfl, by decide +kernel, by decide +kernel⟩

abbrev st__law_take : Stmt := top 23
def nN__law_take : List Str := ["_law_pen", "_law_many", "_law_at", "_law_cell", "_law_found"]
def nE__law_take : Em := ⟨[⟨77, 4, 85, 53⟩, ⟨77, 7, 77, 30⟩, ⟨77, 7, 77, 18⟩, ⟨77, 7, 77, 15⟩, ⟨77, 16, 77, 17⟩, ⟨77, 21, 77, 30⟩, ⟨78, 8, 78, 29⟩, ⟨78, 8, 78, 15⟩, ⟨78, 18, 78, 29⟩, ⟨78, 18, 78, 26⟩, ⟨78, 27, 78, 28⟩, ⟨79, 8, 79, 21⟩, ⟨79, 8, 79, 17⟩, ⟨79, 20, 79, 21⟩, ⟨80, 8, 83, 104⟩, ⟨80, 11, 80, 37⟩, ⟨80, 11, 80, 18⟩, ⟨80, 21, 80, 37⟩, ⟨80, 21, 80, 24⟩, ⟨80, 25, 80, 36⟩, ⟨80, 25, 80, 33⟩, ⟨80, 34, 80, 35⟩, ⟨81, 12, 81, 44⟩, ⟨81, 12, 81, 21⟩, ⟨81, 24, 81, 44⟩, ⟨81, 24, 81, 35⟩, ⟨81, 24, 81, 32⟩, ⟨81, 33, 81, 34⟩, ⟨81, 36, 81, 43⟩, ⟨82, 8, 83, 104⟩, ⟨82, 13, 82, 33⟩, ⟨82, 13, 82, 29⟩, ⟨82, 13, 82, 16⟩, ⟨82, 17, 82, 28⟩, ⟨82, 17, 82, 25⟩, ⟨82, 26, 82, 27⟩, ⟨82, 32, 82, 33⟩, ⟨83, 12, 83, 104⟩, ⟨83, 12, 83, 21⟩, ⟨83, 24, 83, 104⟩, ⟨83, 24, 83, 81⟩, ⟨83, 24, 83, 27⟩, ⟨83, 28, 83, 80⟩, ⟨83, 28, 83, 39⟩, ⟨83, 28, 83, 36⟩, ⟨83, 37, 83, 38⟩, ⟨83, 40, 83, 79⟩, ⟨83, 40, 83, 60⟩, ⟨83, 40, 83, 43⟩, ⟨83, 44, 83, 59⟩, ⟨83, 44, 83, 55⟩, ⟨83, 44, 83, 51⟩, ⟨83, 54, 83, 55⟩, ⟨83, 58, 83, 59⟩, ⟨83, 63, 83, 79⟩, ⟨83, 63, 83, 66⟩, ⟨83, 67, 83, 78⟩, ⟨83, 67, 83, 75⟩, ⟨83, 76, 83, 77⟩, ⟨83, 85, 83, 103⟩, ⟨83, 85, 83, 93⟩, ⟨83, 85, 83, 87⟩, ⟨83, 91, 83, 93⟩, ⟨83, 96, 83, 103⟩, ⟨84, 8, 84, 33⟩, ⟨84, 8, 84, 19⟩, ⟨84, 8, 84, 16⟩, ⟨84, 17, 84, 18⟩, ⟨84, 22, 84, 33⟩, ⟨84, 22, 84, 29⟩, ⟨84, 32, 84, 33⟩, ⟨85, 8, 85, 53⟩, ⟨85, 8, 85, 19⟩, ⟨85, 8, 85, 16⟩, ⟨85, 17, 85, 18⟩, ⟨85, 22, 85, 53⟩, ⟨85, 22, 85, 33⟩, ⟨85, 34, 85, 43⟩, ⟨85, 45, 85, 52⟩, ⟨86, 4, 86, 45⟩, ⟨86, 4, 86, 14⟩, ⟨86, 17, 86, 45⟩, ⟨86, 17, 86, 33⟩, ⟨86, 17, 86, 20⟩, ⟨86, 21, 86, 32⟩, ⟨86, 21, 86, 29⟩, ⟨86, 30, 86, 31⟩, ⟨86, 36, 86, 45⟩, ⟨87, 4, 87, 42⟩, ⟨87, 4, 87, 15⟩, ⟨87, 4, 87, 12⟩, ⟨87, 13, 87, 14⟩, ⟨87, 18, 87, 42⟩, ⟨87, 18, 87, 29⟩, ⟨87, 18, 87, 26⟩, ⟨87, 27, 87, 28⟩, ⟨87, 33, 87, 42⟩, ⟨88, 4, 88, 21⟩, ⟨88, 11, 88, 21⟩],
  [],
  []⟩
theorem em__law_take : (emSs nN__law_take ir_take nE__law_take).1 = defBody st__law_take := by rfl
theorem ok__law_take : okSs nN__law_take (defScope st__law_take) ir_take nE__law_take = true := by decide +kernel
theorem sc__law_take : FnScope nN__law_take ["_law_pen", "_law_many"] (defScope st__law_take) := ⟨rfl, rfl, rfl, by decide +kernel, rfl, by decide +kernel, by decide +kernel⟩

abbrev st__law_kept_right : Stmt := top 27
def nN__law_kept_right : List Str := ["_law_value", "_law_kept", "_law_some", "_law_words", "_law_word", "_law_fault"]
def nE__law_kept_right : Em := ⟨[⟨118, 4, 118, 32⟩, ⟨118, 4, 118, 13⟩, ⟨118, 16, 118, 32⟩, ⟨118, 16, 118, 20⟩, ⟨118, 21, 118, 31⟩, ⟨119, 4, 119, 141⟩, ⟨119, 4, 119, 13⟩, ⟨119, 16, 119, 141⟩, ⟨119, 17, 119, 42⟩, ⟨119, 17, 119, 30⟩, ⟨119, 31, 119, 41⟩, ⟨119, 44, 119, 66⟩, ⟨119, 44, 119, 54⟩, ⟨119, 55, 119, 65⟩, ⟨119, 68, 119, 88⟩, ⟨119, 68, 119, 76⟩, ⟨119, 77, 119, 87⟩, ⟨119, 90, 119, 115⟩, ⟨119, 90, 119, 103⟩, ⟨119, 104, 119, 114⟩, ⟨119, 117, 119, 140⟩, ⟨119, 117, 119, 128⟩, ⟨119, 129, 119, 139⟩, ⟨120, 4, 120, 38⟩, ⟨120, 4, 120, 38⟩, ⟨120, 4, 120, 20⟩, ⟨120, 4, 120, 13⟩, ⟨120, 21, 120, 37⟩, ⟨120, 21, 120, 25⟩, ⟨120, 26, 120, 36⟩, ⟨121, 4, 121, 114⟩, ⟨121, 4, 121, 14⟩, ⟨121, 17, 121, 114⟩, ⟨121, 18, 121, 45⟩, ⟨121, 18, 121, 33⟩, ⟨121, 18, 121, 27⟩, ⟨121, 30, 121, 33⟩, ⟨121, 36, 121, 45⟩, ⟨121, 50, 121, 59⟩, ⟨121, 63, 121, 113⟩, ⟨121, 64, 121, 72⟩, ⟨121, 74, 121, 80⟩, ⟨121, 82, 121, 86⟩, ⟨121, 88, 121, 96⟩, ⟨121, 98, 121, 104⟩, ⟨121, 106, 121, 112⟩, ⟨122, 4, 122, 113⟩, ⟨122, 11, 122, 113⟩, ⟨122, 11, 122, 79⟩, ⟨122, 11, 122, 65⟩, ⟨122, 12, 122, 36⟩, ⟨122, 12, 122, 24⟩, ⟨122, 25, 122, 35⟩, ⟨122, 41, 122, 51⟩, ⟨122, 55, 122, 64⟩, ⟨122, 69, 122, 79⟩, ⟨122, 84, 122, 113⟩, ⟨122, 84, 122, 100⟩, ⟨122, 84, 122, 88⟩, ⟨122, 89, 122, 99⟩, ⟨122, 104, 122, 113⟩],
  [{ kind := .function, names := [(".0", .local), ("_law_word", .local), ("_law_kept", .free)], isGenerator := false, isCoroutine := false, more := [] },
   { kind := .function, names := [(".0", .local), ("_law_fault", .local), ("_law_refusal", .globalImplicit)], isGenerator := false, isCoroutine := false, more := [] }],
  []⟩
theorem em__law_kept_right (adr : Str → Nat) : (emSs nN__law_kept_right (ir__law_kept_right adr) nE__law_kept_right).1 = defBody st__law_kept_right := by rfl
theorem ok__law_kept_right (adr : Str → Nat) : okSs nN__law_kept_right (defScope st__law_kept_right) (ir__law_kept_right adr) nE__law_kept_right = true := by kernel_rfl
theorem sc__law_kept_right : FnScope nN__law_kept_right ["_law_value"] (defScope st__law_kept_right) := ⟨rfl, rfl, rfl, by decide +kernel, rfl, by decide +kernel, by decide +kernel⟩

abbrev st__law_one : Stmt := top 24
def nN__law_one : List Str := ["_law_pen", "_law_some"]
def nE__law_one : Em := ⟨[⟨90, 4, 90, 57⟩, ⟨90, 11, 90, 57⟩, ⟨90, 11, 90, 20⟩, ⟨90, 21, 90, 56⟩, ⟨90, 21, 90, 30⟩, ⟨90, 31, 90, 39⟩, ⟨90, 41, 90, 55⟩, ⟨90, 41, 90, 44⟩, ⟨90, 45, 90, 54⟩],
  [],
  []⟩
theorem em__law_one : (emSs nN__law_one ir_one nE__law_one).1 = defBody st__law_one := by rfl
theorem ok__law_one : okSs nN__law_one (defScope st__law_one) ir_one nE__law_one = true := by decide +kernel
theorem sc__law_one : FnScope nN__law_one ["_law_pen", "_law_some"] (defScope st__law_one) := ⟨rfl, rfl, rfl, by decide +kernel, rfl, by decide +kernel, by decide +kernel⟩

abbrev st_law : Stmt := top 28
def nN_law : List Str := ["_law_script", "_law_pen", "_law_base", "_law_text", "_law_step", "_law_some"]
def nE_law : Em := ⟨[⟨124, 4, 124, 37⟩, ⟨124, 4, 124, 12⟩, ⟨124, 15, 124, 37⟩, ⟨124, 15, 124, 24⟩, ⟨124, 25, 124, 36⟩, ⟨125, 4, 125, 33⟩, ⟨125, 4, 125, 13⟩, ⟨125, 16, 125, 33⟩, ⟨125, 16, 125, 25⟩, ⟨125, 26, 125, 32⟩, ⟨126, 4, 127, 20⟩, ⟨126, 7, 126, 81⟩, ⟨126, 7, 126, 40⟩, ⟨126, 7, 126, 30⟩, ⟨126, 7, 126, 19⟩, ⟨126, 20, 126, 29⟩, ⟨126, 34, 126, 40⟩, ⟨126, 44, 126, 81⟩, ⟨126, 48, 126, 81⟩, ⟨126, 48, 126, 58⟩, ⟨126, 59, 126, 68⟩, ⟨126, 70, 126, 80⟩, ⟨127, 8, 127, 20⟩, ⟨127, 15, 127, 20⟩, ⟨128, 4, 130, 24⟩, ⟨128, 8, 128, 17⟩, ⟨128, 21, 128, 40⟩, ⟨128, 22, 128, 24⟩, ⟨128, 26, 128, 34⟩, ⟨128, 36, 128, 39⟩, ⟨129, 8, 130, 24⟩, ⟨129, 11, 129, 42⟩, ⟨129, 15, 129, 42⟩, ⟨129, 15, 129, 31⟩, ⟨129, 32, 129, 41⟩, ⟨130, 12, 130, 24⟩, ⟨130, 19, 130, 24⟩, ⟨131, 4, 134, 24⟩, ⟨131, 8, 131, 17⟩, ⟨131, 21, 131, 29⟩, ⟨131, 21, 131, 26⟩, ⟨131, 27, 131, 28⟩, ⟨132, 8, 132, 129⟩, ⟨132, 8, 132, 17⟩, ⟨132, 20, 132, 129⟩, ⟨132, 21, 132, 44⟩, ⟨132, 21, 132, 30⟩, ⟨132, 31, 132, 39⟩, ⟨132, 41, 132, 43⟩, ⟨132, 46, 132, 48⟩, ⟨132, 47, 132, 48⟩, ⟨132, 50, 132, 54⟩, ⟨132, 56, 132, 60⟩, ⟨132, 62, 132, 65⟩, ⟨132, 67, 132, 69⟩, ⟨132, 71, 132, 77⟩, ⟨132, 72, 132, 73⟩, ⟨132, 75, 132, 76⟩, ⟨132, 79, 132, 82⟩, ⟨132, 80, 132, 81⟩, ⟨132, 84, 132, 86⟩, ⟨132, 88, 132, 96⟩, ⟨132, 88, 132, 90⟩, ⟨132, 94, 132, 96⟩, ⟨132, 98, 132, 128⟩, ⟨132, 99, 132, 121⟩, ⟨132, 99, 132, 108⟩, ⟨132, 109, 132, 117⟩, ⟨132, 119, 132, 120⟩, ⟨132, 123, 132, 127⟩, ⟨133, 8, 134, 24⟩, ⟨133, 11, 133, 61⟩, ⟨133, 15, 133, 61⟩, ⟨133, 15, 133, 30⟩, ⟨133, 31, 133, 60⟩, ⟨133, 31, 133, 39⟩, ⟨133, 40, 133, 48⟩, ⟨133, 50, 133, 59⟩, ⟨134, 12, 134, 24⟩, ⟨134, 19, 134, 24⟩, ⟨135, 4, 135, 15⟩, ⟨135, 11, 135, 15⟩],
  [],
  []⟩
theorem em_law (adr : Str → Nat) : (emSs nN_law (.cons (.set 1 (.call "_law_open" FNo (.cons (.var 0) .nil))) (irr_law adr)) nE_law).1 = defBody st_law := by rfl
theorem ok_law (adr : Str → Nat) : okSs nN_law (defScope st_law) (.cons (.set 1 (.call "_law_open" FNo (.cons (.var 0) .nil))) (irr_law adr)) nE_law = true := by kernel_rfl
theorem sc_law : FnScope nN_law ["_law_script"] (defScope st_law) := ⟨rfl, rfl, rfl, by decide +kernel, rfl, by decide +kernel, by decide +kernel⟩
abbrev st_XFull : Stmt := inClass (top 18) 0
theorem tx_XFull : XITx "PoolError" "Full.__init__" "limit" st_XFull := ⟨⟨rfl, rfl, rfl, by decide +kernel, rfl, by decide +kernel, by decide +kernel⟩, ⟨_, _, _, _, _, _, _, _, _, _, _, rfl, rfl⟩, by decide +kernel, (fun _ _ _ _ _ _ us hl => match us, hl with | [_, _], _ => rfl), by decide +kernel⟩
abbrev st_XInvalidMark : Stmt := inClass (top 17) 0
theorem tx_XInvalidMark : XITx "PoolError" "InvalidMark.__init__" "number" st_XInvalidMark := ⟨⟨rfl, rfl, rfl, by decide +kernel, rfl, by decide +kernel, by decide +kernel⟩, ⟨_, _, _, _, _, _, _, _, _, _, _, rfl, rfl⟩, by decide +kernel, (fun _ _ _ _ _ _ us hl => match us, hl with | [_, _], _ => rfl), by decide +kernel⟩
abbrev st_XInvalidServer : Stmt := inClass (top 13) 0
theorem tx_XInvalidServer : XITx "PoolError" "InvalidServer.__init__" "server" st_XInvalidServer := ⟨⟨rfl, rfl, rfl, by decide +kernel, rfl, by decide +kernel, by decide +kernel⟩, ⟨_, _, _, _, _, _, _, _, _, _, _, rfl, rfl⟩, by decide +kernel, (fun _ _ _ _ _ _ us hl => match us, hl with | [_, _], _ => rfl), by decide +kernel⟩
abbrev st_XInvalidTicket : Stmt := inClass (top 16) 0
theorem tx_XInvalidTicket : XITx "PoolError" "InvalidTicket.__init__" "ticket" st_XInvalidTicket := ⟨⟨rfl, rfl, rfl, by decide +kernel, rfl, by decide +kernel, by decide +kernel⟩, ⟨_, _, _, _, _, _, _, _, _, _, _, rfl, rfl⟩, by decide +kernel, (fun _ _ _ _ _ _ us hl => match us, hl with | [_, _], _ => rfl), by decide +kernel⟩
abbrev st_XServerDown : Stmt := inClass (top 14) 0
theorem tx_XServerDown : XITx "PoolError" "ServerDown.__init__" "server" st_XServerDown := ⟨⟨rfl, rfl, rfl, by decide +kernel, rfl, by decide +kernel, by decide +kernel⟩, ⟨_, _, _, _, _, _, _, _, _, _, _, rfl, rfl⟩, by decide +kernel, (fun _ _ _ _ _ _ us hl => match us, hl with | [_, _], _ => rfl), by decide +kernel⟩
abbrev st_XServerUp : Stmt := inClass (top 15) 0
theorem tx_XServerUp : XITx "PoolError" "ServerUp.__init__" "server" st_XServerUp := ⟨⟨rfl, rfl, rfl, by decide +kernel, rfl, by decide +kernel, by decide +kernel⟩, ⟨_, _, _, _, _, _, _, _, _, _, _, rfl, rfl⟩, by decide +kernel, (fun _ _ _ _ _ _ us hl => match us, hl with | [_, _], _ => rfl), by decide +kernel⟩

structure Top (K : PySem.W.Frag) (mg : Str → Option Value) : Prop where
  d__law_open : DefAt K mg "_law_open" st__law_open
  d__law_refusal : DefAt K mg "_law_refusal" st__law_refusal
  d__law_plain_right : DefAt K mg "_law_plain_right" st__law_plain_right
  d__law_spread : DefAt K mg "_law_spread" st__law_spread
  d__law_take : DefAt K mg "_law_take" st__law_take
  d__law_kept_right : DefAt K mg "_law_kept_right" st__law_kept_right
  d__law_one : DefAt K mg "_law_one" st__law_one
  d_law : DefAt K mg "law" st_law
  x_DoesNotFit : ∀ (P : Program) (w : World) (base : Heap), OwnX ⟨P, w, K, mg, base⟩ "DoesNotFit" (adrM mg "DoesNotFit")
  x_InvalidClaim : ∀ (P : Program) (w : World) (base : Heap), OwnX ⟨P, w, K, mg, base⟩ "InvalidClaim" (adrM mg "InvalidClaim")
  x_InvalidClaims : ∀ (P : Program) (w : World) (base : Heap), OwnX ⟨P, w, K, mg, base⟩ "InvalidClaims" (adrM mg "InvalidClaims")
  x_InvalidKind : ∀ (P : Program) (w : World) (base : Heap), OwnX ⟨P, w, K, mg, base⟩ "InvalidKind" (adrM mg "InvalidKind")
  x_InvalidNumber : ∀ (P : Program) (w : World) (base : Heap), OwnX ⟨P, w, K, mg, base⟩ "InvalidNumber" (adrM mg "InvalidNumber")
  x_InvalidPool : ∀ (P : Program) (w : World) (base : Heap), OwnX ⟨P, w, K, mg, base⟩ "InvalidPool" (adrM mg "InvalidPool")
  x_InvalidSeating : ∀ (P : Program) (w : World) (base : Heap), OwnX ⟨P, w, K, mg, base⟩ "InvalidSeating" (adrM mg "InvalidSeating")
  x_InvalidTime : ∀ (P : Program) (w : World) (base : Heap), OwnX ⟨P, w, K, mg, base⟩ "InvalidTime" (adrM mg "InvalidTime")
  x_InvalidWorths : ∀ (P : Program) (w : World) (base : Heap), OwnX ⟨P, w, K, mg, base⟩ "InvalidWorths" (adrM mg "InvalidWorths")
  x_NotACertificate : ∀ (P : Program) (w : World) (base : Heap), OwnX ⟨P, w, K, mg, base⟩ "NotACertificate" (adrM mg "NotACertificate")
  x_PoolError : ∀ (P : Program) (w : World) (base : Heap), OwnX ⟨P, w, K, mg, base⟩ "PoolError" (adrM mg "PoolError")
  x_Refused : ∀ (P : Program) (w : World) (base : Heap), OwnX ⟨P, w, K, mg, base⟩ "Refused" (adrM mg "Refused")
  i_DoesNotFit : ∀ (P : Program) (w : World) (base : Heap) (k : Nat), (askOf ⟨P, w, K, mg, base⟩ k).isx "DoesNotFit" (adrM mg) ["DoesNotFit", "Full", "InvalidClaim", "InvalidClaims", "InvalidKind", "InvalidMark", "InvalidNumber", "InvalidPool", "InvalidSeating", "InvalidServer", "InvalidTicket", "InvalidTime", "InvalidWorths", "NotACertificate", "PoolError", "Refused", "ServerDown", "ServerUp"] (fun c => c == ("DoesNotFit" : Str))
  i_Full : ∀ (P : Program) (w : World) (base : Heap) (k : Nat), (askOf ⟨P, w, K, mg, base⟩ k).isx "Full" (adrM mg) ["DoesNotFit", "Full", "InvalidClaim", "InvalidClaims", "InvalidKind", "InvalidMark", "InvalidNumber", "InvalidPool", "InvalidSeating", "InvalidServer", "InvalidTicket", "InvalidTime", "InvalidWorths", "NotACertificate", "PoolError", "Refused", "ServerDown", "ServerUp"] (fun c => c == ("Full" : Str))
  i_InvalidClaim : ∀ (P : Program) (w : World) (base : Heap) (k : Nat), (askOf ⟨P, w, K, mg, base⟩ k).isx "InvalidClaim" (adrM mg) ["DoesNotFit", "Full", "InvalidClaim", "InvalidClaims", "InvalidKind", "InvalidMark", "InvalidNumber", "InvalidPool", "InvalidSeating", "InvalidServer", "InvalidTicket", "InvalidTime", "InvalidWorths", "NotACertificate", "PoolError", "Refused", "ServerDown", "ServerUp"] (fun c => c == ("InvalidClaim" : Str))
  i_InvalidClaims : ∀ (P : Program) (w : World) (base : Heap) (k : Nat), (askOf ⟨P, w, K, mg, base⟩ k).isx "InvalidClaims" (adrM mg) ["DoesNotFit", "Full", "InvalidClaim", "InvalidClaims", "InvalidKind", "InvalidMark", "InvalidNumber", "InvalidPool", "InvalidSeating", "InvalidServer", "InvalidTicket", "InvalidTime", "InvalidWorths", "NotACertificate", "PoolError", "Refused", "ServerDown", "ServerUp"] (fun c => c == ("InvalidClaims" : Str))
  i_InvalidKind : ∀ (P : Program) (w : World) (base : Heap) (k : Nat), (askOf ⟨P, w, K, mg, base⟩ k).isx "InvalidKind" (adrM mg) ["DoesNotFit", "Full", "InvalidClaim", "InvalidClaims", "InvalidKind", "InvalidMark", "InvalidNumber", "InvalidPool", "InvalidSeating", "InvalidServer", "InvalidTicket", "InvalidTime", "InvalidWorths", "NotACertificate", "PoolError", "Refused", "ServerDown", "ServerUp"] (fun c => c == ("InvalidKind" : Str))
  i_InvalidMark : ∀ (P : Program) (w : World) (base : Heap) (k : Nat), (askOf ⟨P, w, K, mg, base⟩ k).isx "InvalidMark" (adrM mg) ["DoesNotFit", "Full", "InvalidClaim", "InvalidClaims", "InvalidKind", "InvalidMark", "InvalidNumber", "InvalidPool", "InvalidSeating", "InvalidServer", "InvalidTicket", "InvalidTime", "InvalidWorths", "NotACertificate", "PoolError", "Refused", "ServerDown", "ServerUp"] (fun c => c == ("InvalidMark" : Str))
  i_InvalidNumber : ∀ (P : Program) (w : World) (base : Heap) (k : Nat), (askOf ⟨P, w, K, mg, base⟩ k).isx "InvalidNumber" (adrM mg) ["DoesNotFit", "Full", "InvalidClaim", "InvalidClaims", "InvalidKind", "InvalidMark", "InvalidNumber", "InvalidPool", "InvalidSeating", "InvalidServer", "InvalidTicket", "InvalidTime", "InvalidWorths", "NotACertificate", "PoolError", "Refused", "ServerDown", "ServerUp"] (fun c => c == ("InvalidNumber" : Str))
  i_InvalidPool : ∀ (P : Program) (w : World) (base : Heap) (k : Nat), (askOf ⟨P, w, K, mg, base⟩ k).isx "InvalidPool" (adrM mg) ["DoesNotFit", "Full", "InvalidClaim", "InvalidClaims", "InvalidKind", "InvalidMark", "InvalidNumber", "InvalidPool", "InvalidSeating", "InvalidServer", "InvalidTicket", "InvalidTime", "InvalidWorths", "NotACertificate", "PoolError", "Refused", "ServerDown", "ServerUp"] (fun c => c == ("InvalidPool" : Str))
  i_InvalidSeating : ∀ (P : Program) (w : World) (base : Heap) (k : Nat), (askOf ⟨P, w, K, mg, base⟩ k).isx "InvalidSeating" (adrM mg) ["DoesNotFit", "Full", "InvalidClaim", "InvalidClaims", "InvalidKind", "InvalidMark", "InvalidNumber", "InvalidPool", "InvalidSeating", "InvalidServer", "InvalidTicket", "InvalidTime", "InvalidWorths", "NotACertificate", "PoolError", "Refused", "ServerDown", "ServerUp"] (fun c => c == ("InvalidSeating" : Str))
  i_InvalidServer : ∀ (P : Program) (w : World) (base : Heap) (k : Nat), (askOf ⟨P, w, K, mg, base⟩ k).isx "InvalidServer" (adrM mg) ["DoesNotFit", "Full", "InvalidClaim", "InvalidClaims", "InvalidKind", "InvalidMark", "InvalidNumber", "InvalidPool", "InvalidSeating", "InvalidServer", "InvalidTicket", "InvalidTime", "InvalidWorths", "NotACertificate", "PoolError", "Refused", "ServerDown", "ServerUp"] (fun c => c == ("InvalidServer" : Str))
  i_InvalidTicket : ∀ (P : Program) (w : World) (base : Heap) (k : Nat), (askOf ⟨P, w, K, mg, base⟩ k).isx "InvalidTicket" (adrM mg) ["DoesNotFit", "Full", "InvalidClaim", "InvalidClaims", "InvalidKind", "InvalidMark", "InvalidNumber", "InvalidPool", "InvalidSeating", "InvalidServer", "InvalidTicket", "InvalidTime", "InvalidWorths", "NotACertificate", "PoolError", "Refused", "ServerDown", "ServerUp"] (fun c => c == ("InvalidTicket" : Str))
  i_InvalidTime : ∀ (P : Program) (w : World) (base : Heap) (k : Nat), (askOf ⟨P, w, K, mg, base⟩ k).isx "InvalidTime" (adrM mg) ["DoesNotFit", "Full", "InvalidClaim", "InvalidClaims", "InvalidKind", "InvalidMark", "InvalidNumber", "InvalidPool", "InvalidSeating", "InvalidServer", "InvalidTicket", "InvalidTime", "InvalidWorths", "NotACertificate", "PoolError", "Refused", "ServerDown", "ServerUp"] (fun c => c == ("InvalidTime" : Str))
  i_InvalidWorths : ∀ (P : Program) (w : World) (base : Heap) (k : Nat), (askOf ⟨P, w, K, mg, base⟩ k).isx "InvalidWorths" (adrM mg) ["DoesNotFit", "Full", "InvalidClaim", "InvalidClaims", "InvalidKind", "InvalidMark", "InvalidNumber", "InvalidPool", "InvalidSeating", "InvalidServer", "InvalidTicket", "InvalidTime", "InvalidWorths", "NotACertificate", "PoolError", "Refused", "ServerDown", "ServerUp"] (fun c => c == ("InvalidWorths" : Str))
  i_NotACertificate : ∀ (P : Program) (w : World) (base : Heap) (k : Nat), (askOf ⟨P, w, K, mg, base⟩ k).isx "NotACertificate" (adrM mg) ["DoesNotFit", "Full", "InvalidClaim", "InvalidClaims", "InvalidKind", "InvalidMark", "InvalidNumber", "InvalidPool", "InvalidSeating", "InvalidServer", "InvalidTicket", "InvalidTime", "InvalidWorths", "NotACertificate", "PoolError", "Refused", "ServerDown", "ServerUp"] (fun c => c == ("NotACertificate" : Str))
  i_PoolError : ∀ (P : Program) (w : World) (base : Heap) (k : Nat), (askOf ⟨P, w, K, mg, base⟩ k).isx "PoolError" (adrM mg) ["DoesNotFit", "Full", "InvalidClaim", "InvalidClaims", "InvalidKind", "InvalidMark", "InvalidNumber", "InvalidPool", "InvalidSeating", "InvalidServer", "InvalidTicket", "InvalidTime", "InvalidWorths", "NotACertificate", "PoolError", "Refused", "ServerDown", "ServerUp"] (fun _ => true)
  i_Refused : ∀ (P : Program) (w : World) (base : Heap) (k : Nat), (askOf ⟨P, w, K, mg, base⟩ k).isx "Refused" (adrM mg) ["DoesNotFit", "Full", "InvalidClaim", "InvalidClaims", "InvalidKind", "InvalidMark", "InvalidNumber", "InvalidPool", "InvalidSeating", "InvalidServer", "InvalidTicket", "InvalidTime", "InvalidWorths", "NotACertificate", "PoolError", "Refused", "ServerDown", "ServerUp"] (fun c => c == ("Refused" : Str))
  i_ServerDown : ∀ (P : Program) (w : World) (base : Heap) (k : Nat), (askOf ⟨P, w, K, mg, base⟩ k).isx "ServerDown" (adrM mg) ["DoesNotFit", "Full", "InvalidClaim", "InvalidClaims", "InvalidKind", "InvalidMark", "InvalidNumber", "InvalidPool", "InvalidSeating", "InvalidServer", "InvalidTicket", "InvalidTime", "InvalidWorths", "NotACertificate", "PoolError", "Refused", "ServerDown", "ServerUp"] (fun c => c == ("ServerDown" : Str))
  i_ServerUp : ∀ (P : Program) (w : World) (base : Heap) (k : Nat), (askOf ⟨P, w, K, mg, base⟩ k).isx "ServerUp" (adrM mg) ["DoesNotFit", "Full", "InvalidClaim", "InvalidClaims", "InvalidKind", "InvalidMark", "InvalidNumber", "InvalidPool", "InvalidSeating", "InvalidServer", "InvalidTicket", "InvalidTime", "InvalidWorths", "NotACertificate", "PoolError", "Refused", "ServerDown", "ServerUp"] (fun c => c == ("ServerUp" : Str))
  i_ValueError : ∀ (P : Program) (w : World) (base : Heap) (k : Nat), (askOf ⟨P, w, K, mg, base⟩ k).isx "ValueError" (adrM mg) ["DoesNotFit", "Full", "InvalidClaim", "InvalidClaims", "InvalidKind", "InvalidMark", "InvalidNumber", "InvalidPool", "InvalidSeating", "InvalidServer", "InvalidTicket", "InvalidTime", "InvalidWorths", "NotACertificate", "PoolError", "Refused", "ServerDown", "ServerUp"] (fun _ => true)
  k_Full : KeptX K mg "Full" "Full.__init__" "limit" st_XFull
  k_InvalidMark : KeptX K mg "InvalidMark" "InvalidMark.__init__" "number" st_XInvalidMark
  k_InvalidServer : KeptX K mg "InvalidServer" "InvalidServer.__init__" "server" st_XInvalidServer
  k_InvalidTicket : KeptX K mg "InvalidTicket" "InvalidTicket.__init__" "ticket" st_XInvalidTicket
  k_ServerDown : KeptX K mg "ServerDown" "ServerDown.__init__" "server" st_XServerDown
  k_ServerUp : KeptX K mg "ServerUp" "ServerUp.__init__" "server" st_XServerUp
  ba_PoolError : BaseAt K mg "PoolError"
  bl : ∀ x, x ∈ bnames → mg x = none
section
variable {W : Wd}
theorem C__law_open (T : Top W.K W.mg) : Call1 W 1 "_law_open" 1 (spOpen W.K) := by
  exact open_at T.d__law_open nE__law_open sc__law_open T.bl em__law_open ok__law_open (fun _ _ _ _ _ _ us hl => match us, hl with | [_], _ => rfl)
theorem C__law_refusal (T : Top W.K W.mg) : Call1 W 1 "_law_refusal" 1 (spF (F__law_refusal_v7 (adrM W.mg)) 1) := by
  have ask : askSs (askOf W 0) (ir__law_refusal_v7 (adrM W.mg)) := by
    unfold ir__law_refusal_v7; simp only [askSs, askS, askE, askEs, askO, askSr]
    repeat' with_reducible apply And.intro
    all_goals first | exact trivial | exact (all_cons (T.k_Full.at) all_nil) | exact (all_cons (T.k_InvalidMark.at) all_nil) | exact (all_cons (T.k_InvalidServer.at) (all_cons (T.k_ServerDown.at) (all_cons (T.k_ServerUp.at) all_nil))) | exact (all_cons (T.k_InvalidTicket.at) all_nil) | exact T.i_DoesNotFit W.P W.w W.base _ | exact T.i_Full W.P W.w W.base _ | exact T.i_InvalidClaim W.P W.w W.base _ | exact T.i_InvalidClaims W.P W.w W.base _ | exact T.i_InvalidKind W.P W.w W.base _ | exact T.i_InvalidMark W.P W.w W.base _ | exact T.i_InvalidNumber W.P W.w W.base _ | exact T.i_InvalidPool W.P W.w W.base _ | exact T.i_InvalidSeating W.P W.w W.base _ | exact T.i_InvalidServer W.P W.w W.base _ | exact T.i_InvalidTicket W.P W.w W.base _ | exact T.i_InvalidTime W.P W.w W.base _ | exact T.i_InvalidWorths W.P W.w W.base _ | exact T.i_NotACertificate W.P W.w W.base _ | exact T.i_PoolError W.P W.w W.base _ | exact T.i_Refused W.P W.w W.base _ | exact T.i_ServerDown W.P W.w W.base _ | exact T.i_ServerUp W.P W.w W.base _ | exact T.i_ValueError W.P W.w W.base _
  exact def_at T.d__law_refusal (ir__law_refusal_v7 (adrM W.mg)) nE__law_refusal sc__law_refusal T.bl (em__law_refusal _) (ok__law_refusal _) ask (fun _ _ _ _ _ _ us hl => match us, hl with | [_], _ => rfl)
theorem C__law_plain_right (T : Top W.K W.mg) : Call1 W 4 "_law_plain_right" 1 (spF (F__law_plain_right (adrM W.mg)) 1) := by
  have c__law_refusal := (C__law_refusal T).mono (show 1 ≤ 3 by decide)
  have ask : askSs (askOf W 3) (ir__law_plain_right (adrM W.mg)) := by
    unfold ir__law_plain_right; simp only [askSs, askS, askE, askEs, askO, askSr]
    repeat' with_reducible apply And.intro
    all_goals first | exact trivial | exact newC_of (T.x_DoesNotFit W.P W.w W.base) | exact newC_of (T.x_InvalidClaim W.P W.w W.base) | exact newC_of (T.x_InvalidClaims W.P W.w W.base) | exact newC_of (T.x_InvalidKind W.P W.w W.base) | exact newC_of (T.x_InvalidNumber W.P W.w W.base) | exact newC_of (T.x_InvalidPool W.P W.w W.base) | exact newC_of (T.x_InvalidSeating W.P W.w W.base) | exact newC_of (T.x_InvalidTime W.P W.w W.base) | exact newC_of (T.x_InvalidWorths W.P W.w W.base) | exact newC_of (T.x_NotACertificate W.P W.w W.base) | exact newC_of (T.x_Refused W.P W.w W.base) | exact c__law_refusal
  exact def_at T.d__law_plain_right (ir__law_plain_right (adrM W.mg)) nE__law_plain_right sc__law_plain_right T.bl (em__law_plain_right _) (ok__law_plain_right _) ask (fun _ _ _ _ _ _ us hl => match us, hl with | [_], _ => rfl)
theorem C__law_spread (T : Top W.K W.mg) : Call1 W 1 "_law_spread" 2 (spF (runF 8 ir_spread) 2) := by
  have ask : askSs (askOf W 0) ir_spread := by
    unfold ir_spread; simp only [askSs, askS, askE, askEs, askO, askSr]
    repeat' with_reducible apply And.intro
    all_goals first | exact trivial
  exact def_at T.d__law_spread ir_spread nE__law_spread sc__law_spread T.bl em__law_spread ok__law_spread ask (fun _ _ _ _ _ _ us hl => match us, hl with | [_, _], _ => rfl)
theorem C__law_take (T : Top W.K W.mg) : Call1 W 2 "_law_take" 2 (spF FTake 2) := by
  have c__law_spread := (C__law_spread T).mono (show 1 ≤ 1 by decide)
  have ask : askSs (askOf W 1) ir_take := by
    unfold ir_take; simp only [askSs, askS, askE, askEs, askO, askSr]
    repeat' with_reducible apply And.intro
    all_goals first | exact trivial | exact c__law_spread
  exact def_imp FTake_run (def_at T.d__law_take ir_take nE__law_take sc__law_take T.bl em__law_take ok__law_take ask (fun _ _ _ _ _ _ us hl => match us, hl with | [_, _], _ => rfl))
theorem C__law_kept_right (T : Top W.K W.mg) : Call1 W 4 "_law_kept_right" 1 (spF (F__law_kept_right (adrM W.mg)) 1) := by
  have c__law_refusal := (C__law_refusal T).mono (show 1 ≤ 3 by decide)
  have ask : askSs (askOf W 3) (ir__law_kept_right (adrM W.mg)) := by
    unfold ir__law_kept_right; simp only [askSs, askS, askE, askEs, askO, askSr]
    repeat' with_reducible apply And.intro
    all_goals first | exact trivial | exact T.k_Full.new (by decide) tx_XFull T.ba_PoolError T.bl | exact T.k_InvalidMark.new (by decide) tx_XInvalidMark T.ba_PoolError T.bl | exact T.k_InvalidServer.new (by decide) tx_XInvalidServer T.ba_PoolError T.bl | exact T.k_InvalidTicket.new (by decide) tx_XInvalidTicket T.ba_PoolError T.bl | exact T.k_ServerDown.new (by decide) tx_XServerDown T.ba_PoolError T.bl | exact T.k_ServerUp.new (by decide) tx_XServerUp T.ba_PoolError T.bl | exact c__law_refusal
  exact def_at T.d__law_kept_right (ir__law_kept_right (adrM W.mg)) nE__law_kept_right sc__law_kept_right T.bl (em__law_kept_right _) (ok__law_kept_right _) ask (fun _ _ _ _ _ _ us hl => match us, hl with | [_], _ => rfl)
theorem C__law_one (T : Top W.K W.mg) : Call1 W 3 "_law_one" 2 spOne := by
  have c__law_take := (C__law_take T).mono (show 2 ≤ 2 by decide)
  exact one_at T.d__law_one nE__law_one sc__law_one T.bl em__law_one ok__law_one c__law_take (fun _ _ _ _ _ _ us hl => match us, hl with | [_, _], _ => rfl)
theorem C_law (T : Top W.K W.mg) : Call1 W 4 "_law_open" 1 (spOpen W.K) ∧ askSs (askOf W 4) (irr_law (adrM W.mg)) := by
  have c__law_open := (C__law_open T).mono (show 1 ≤ 4 by decide)
  have c__law_refusal := (C__law_refusal T).mono (show 1 ≤ 4 by decide)
  have c__law_plain_right := (C__law_plain_right T).mono (show 4 ≤ 4 by decide)
  have c__law_take := (C__law_take T).mono (show 2 ≤ 4 by decide)
  have c__law_kept_right := (C__law_kept_right T).mono (show 4 ≤ 4 by decide)
  have c__law_one := (C__law_one T).mono (show 3 ≤ 4 by decide)
  refine ⟨c__law_open, ?_⟩
  unfold irr_law; simp only [askSs, askS, askE, askEs, askO, askSr]; repeat' with_reducible apply And.intro
  all_goals first | exact trivial | exact newC_of (T.x_PoolError W.P W.w W.base) | exact c__law_open | exact c__law_refusal | exact c__law_plain_right | exact c__law_take | exact c__law_kept_right | exact c__law_one | exact T.i_ValueError W.P W.w W.base _
end
end K1

set_option Elab.async false
set_option linter.all false
set_option maxRecDepth 1000000
set_option maxHeartbeats 8000000
set_option pp.maxSteps 300
set_option pp.deepTerms.threshold 6
namespace K1
open PySem L2 Fs
section
variable {s : S} {Q : D → Tg → S → Prop} {adr : Str → Nat} {names : List Str} {sub : Str → Bool} {c f x : Str} {d : D} {i : Nat} {a : IE}
theorem w_isXK {b : Bool} (hv : rd s i = some (excK adr c f d, false)) (hn : c ∈ names) (hb : sub c = b) (h : Q (.bool b) .fz s) : WE (.isX x adr names sub (.var i)) s Q := by
  refine ⟨.bool b, .fz, s, ?_, h⟩
  rw [evalE, ev_var hv]
  show ((if c ∈ names ∧ ((adr c : Nat) : Int) = (adr c : Nat) then some (sub c) else none) >>= _) = _
  rw [if_pos ⟨hn, rfl⟩, hb]
  rfl
theorem w_newX {o : Option Str} (h : WE a s fun d t s1 => Q (newXD adr x o d) .fz (s1.keep t)) : WE (.newX x adr o a) s Q := by
  obtain ⟨d, t, s1, e, q⟩ := h
  exact ⟨_, _, _, by rw [evalE, e]; rfl, q⟩
theorem w_xat (hv : rd s i = some (excK adr c f d, false)) (hn : c ∈ names) (h : Q d .fz s) : WE (.xat i f adr names) s Q := by
  refine ⟨d, .fz, s, ?_, h⟩
  rw [evalE, hv]
  show ((if c ∈ names ∧ ((adr c : Nat) : Int) = (adr c : Nat) ∧ f = f then some d else none) >>= _) = _
  rw [if_pos ⟨hn, rfl, rfl⟩]
  rfl
theorem d_addSW {a b c : Str} {Q : D → Tg → Prop} (hl : c.length ≤ 1000000) (h : Q (.str ((a ++ b) ++ c)) .fz) (z : (a ++ b).length ≤ 100 := by decide) : WD .Add (.str (a ++ b)) (.str c) Q := by
  refine ⟨(.str ((a ++ b) ++ c), false), ?_, h⟩
  show (if (a ++ b).length + c.length ≤ sizeLine then some ((PyData.str ((a ++ b) ++ c) : D), false) else none) = _
  exact if_pos (by rw [sizeL]; omega)
theorem k_eqS {a b : Str} {Q : Bool → Prop} (h : Q (decide (a = b))) : WK .Eq (.str a) (.str b) Q := k_eq rfl (by rw [PyData.eqv]; exact h)
/-- what is shown, not long -/
def RepK (d : D) : Prop := (good 60 d && d.showable && decide (d.shown.length ≤ sizeLine)) = true
end
end K1

set_option Elab.async false
set_option linter.all false
set_option maxRecDepth 1000000
set_option maxHeartbeats 8000000
set_option pp.maxSteps 300
set_option pp.deepTerms.threshold 6
namespace K1
open PySem L2 Fs
section
variable {adr : Str → Nat} {pn : Option Pn} {Q : D → Bool → Option Pn → Prop} {d : D}
theorem c_ref_Refused (h : Q (.str "refused") false pn) : WC (F__law_refusal_v7 adr) [excD adr "Refused"] pn Q := by
  refine w_run ?_
  unfold ir__law_refusal_v7
  (repeat' first | refine' w_isX (c := "Refused") rfl (by decide) rfl ?_ | refine' f_cnt rfl rfl ?_ | refine' f_idx rfl (by decide) ?_ | fail | fail_if_success skip)
  refine ⟨by decide, ?_⟩
  (repeat' first | refine' w_isX (c := "Refused") rfl (by decide) rfl ?_ | refine' f_cnt rfl rfl ?_ | refine' f_idx rfl (by decide) ?_ | fail | fail_if_success skip)
  refine w1_ite ?_
  (repeat' first | refine' w_isX (c := "Refused") rfl (by decide) rfl ?_ | refine' f_cnt rfl rfl ?_ | refine' f_idx rfl (by decide) ?_ | fail | fail_if_success skip)
  refine ⟨fun z => absurd z (by decide), fun _ => ?_⟩
  refine ws_nil ?_
  (repeat' first | refine' w_isX (c := "Refused") rfl (by decide) rfl ?_ | refine' f_cnt rfl rfl ?_ | refine' f_idx rfl (by decide) ?_ | fail | fail_if_success skip)
  refine w1_ite ?_
  (repeat' first | fail | fail_if_success skip)
  refine ⟨fun _ => ?_, fun z => absurd z (by decide)⟩
  (repeat' first | fail | refine' w1_ite ?_)
  exact h
theorem c_ref_InvalidPool (h : Q (.str "pool") false pn) : WC (F__law_refusal_v7 adr) [excD adr "InvalidPool"] pn Q := by
  refine w_run ?_
  unfold ir__law_refusal_v7
  (repeat' first | refine' w_isX (c := "InvalidPool") rfl (by decide) rfl ?_ | refine' f_cnt rfl rfl ?_ | refine' f_idx rfl (by decide) ?_ | fail | fail_if_success skip)
  refine ⟨by decide, ?_⟩
  (repeat' first | refine' w_isX (c := "InvalidPool") rfl (by decide) rfl ?_ | refine' f_cnt rfl rfl ?_ | refine' f_idx rfl (by decide) ?_ | fail | fail_if_success skip)
  refine w1_ite ?_
  (repeat' first | refine' w_isX (c := "InvalidPool") rfl (by decide) rfl ?_ | refine' f_cnt rfl rfl ?_ | refine' f_idx rfl (by decide) ?_ | fail | fail_if_success skip)
  refine ⟨fun z => absurd z (by decide), fun _ => ?_⟩
  refine ws_nil ?_
  (repeat' first | refine' w_isX (c := "InvalidPool") rfl (by decide) rfl ?_ | refine' f_cnt rfl rfl ?_ | refine' f_idx rfl (by decide) ?_ | fail | fail_if_success skip)
  refine w1_ite ?_
  (repeat' first | fail | fail_if_success skip)
  refine ⟨fun _ => ?_, fun z => absurd z (by decide)⟩
  (repeat' first | fail | refine' w1_ite ?_)
  exact h
theorem c_ref_InvalidClaims (h : Q (.str "claims") false pn) : WC (F__law_refusal_v7 adr) [excD adr "InvalidClaims"] pn Q := by
  refine w_run ?_
  unfold ir__law_refusal_v7
  (repeat' first | refine' w_isX (c := "InvalidClaims") rfl (by decide) rfl ?_ | refine' f_cnt rfl rfl ?_ | refine' f_idx rfl (by decide) ?_ | fail | fail_if_success skip)
  refine ⟨by decide, ?_⟩
  (repeat' first | refine' w_isX (c := "InvalidClaims") rfl (by decide) rfl ?_ | refine' f_cnt rfl rfl ?_ | refine' f_idx rfl (by decide) ?_ | fail | fail_if_success skip)
  refine w1_ite ?_
  (repeat' first | refine' w_isX (c := "InvalidClaims") rfl (by decide) rfl ?_ | refine' f_cnt rfl rfl ?_ | refine' f_idx rfl (by decide) ?_ | fail | fail_if_success skip)
  refine ⟨fun z => absurd z (by decide), fun _ => ?_⟩
  refine ws_nil ?_
  (repeat' first | refine' w_isX (c := "InvalidClaims") rfl (by decide) rfl ?_ | refine' f_cnt rfl rfl ?_ | refine' f_idx rfl (by decide) ?_ | fail | fail_if_success skip)
  refine w1_ite ?_
  (repeat' first | fail | fail_if_success skip)
  refine ⟨fun _ => ?_, fun z => absurd z (by decide)⟩
  (repeat' first | fail | refine' w1_ite ?_)
  exact h
theorem c_ref_InvalidClaim (h : Q (.str "claim") false pn) : WC (F__law_refusal_v7 adr) [excD adr "InvalidClaim"] pn Q := by
  refine w_run ?_
  unfold ir__law_refusal_v7
  (repeat' first | refine' w_isX (c := "InvalidClaim") rfl (by decide) rfl ?_ | refine' f_cnt rfl rfl ?_ | refine' f_idx rfl (by decide) ?_ | fail | fail_if_success skip)
  refine ⟨by decide, ?_⟩
  (repeat' first | refine' w_isX (c := "InvalidClaim") rfl (by decide) rfl ?_ | refine' f_cnt rfl rfl ?_ | refine' f_idx rfl (by decide) ?_ | fail | fail_if_success skip)
  refine w1_ite ?_
  (repeat' first | refine' w_isX (c := "InvalidClaim") rfl (by decide) rfl ?_ | refine' f_cnt rfl rfl ?_ | refine' f_idx rfl (by decide) ?_ | fail | fail_if_success skip)
  refine ⟨fun z => absurd z (by decide), fun _ => ?_⟩
  refine ws_nil ?_
  (repeat' first | refine' w_isX (c := "InvalidClaim") rfl (by decide) rfl ?_ | refine' f_cnt rfl rfl ?_ | refine' f_idx rfl (by decide) ?_ | fail | fail_if_success skip)
  refine w1_ite ?_
  (repeat' first | fail | fail_if_success skip)
  refine ⟨fun _ => ?_, fun z => absurd z (by decide)⟩
  (repeat' first | fail | refine' w1_ite ?_)
  exact h
theorem c_ref_InvalidServer (hr : RepK d) (hl : d.shown.length ≤ 1000000) (h : Q (.str ((("server" : Str) ++ " ") ++ d.shown)) false pn) : WC (F__law_refusal_v7 adr) [excK adr "InvalidServer" "server" d] pn Q := by
  refine w_run ?_
  unfold ir__law_refusal_v7
  (repeat' first | refine' w_isXK (c := "InvalidServer") rfl (by decide) rfl ?_ | refine' f_cnt rfl rfl ?_ | refine' f_idx rfl (by decide) ?_ | fail | fail_if_success skip)
  refine ⟨by decide, ?_⟩
  (repeat' first | refine' w_isXK (c := "InvalidServer") rfl (by decide) rfl ?_ | refine' f_cnt rfl rfl ?_ | refine' f_idx rfl (by decide) ?_ | fail | fail_if_success skip)
  refine w1_ite ?_
  (repeat' first | refine' w_isXK (c := "InvalidServer") rfl (by decide) rfl ?_ | refine' f_cnt rfl rfl ?_ | refine' f_idx rfl (by decide) ?_ | fail | fail_if_success skip)
  refine ⟨fun z => absurd z (by decide), fun _ => ?_⟩
  refine ws_nil ?_
  (repeat' first | refine' w_isXK (c := "InvalidServer") rfl (by decide) rfl ?_ | refine' f_cnt rfl rfl ?_ | refine' f_idx rfl (by decide) ?_ | fail | fail_if_success skip)
  refine w1_ite ?_
  (repeat' first | fail | fail_if_success skip)
  refine ⟨fun z => absurd z (by decide), fun _ => ?_⟩
  refine ws_nil ?_
  (repeat' first | fail | fail_if_success skip)
  refine w1_ite ?_
  (repeat' first | refine' k_eqS ?_ | fail | fail_if_success skip)
  refine ⟨true, by decide +kernel, true, rfl, ?_⟩
  refine ⟨fun _ => ?_, fun z => absurd z (by decide)⟩
  (repeat' first | refine' w_xat (c := "InvalidServer") rfl (by decide) ?_ | refine' f_repr hr ?_ | refine' d_addSW hl ?_ | refine' k_eqS ?_ | fail | refine' w1_ite ?_)
  exact h
end
end K1

set_option Elab.async false
set_option linter.all false
set_option maxRecDepth 1000000
set_option maxHeartbeats 8000000
set_option pp.maxSteps 300
set_option pp.deepTerms.threshold 6
namespace K1
open PySem L2 Fs
section
variable {adr : Str → Nat} {pn : Option Pn} {Q : D → Bool → Option Pn → Prop} {d : D}
theorem c_ref_InvalidTime (h : Q (.str "time") false pn) : WC (F__law_refusal_v7 adr) [excD adr "InvalidTime"] pn Q := by
  refine w_run ?_
  unfold ir__law_refusal_v7
  (repeat' first | refine' w_isX (c := "InvalidTime") rfl (by decide) rfl ?_ | refine' f_cnt rfl rfl ?_ | refine' f_idx rfl (by decide) ?_ | fail | fail_if_success skip)
  refine ⟨by decide, ?_⟩
  (repeat' first | refine' w_isX (c := "InvalidTime") rfl (by decide) rfl ?_ | refine' f_cnt rfl rfl ?_ | refine' f_idx rfl (by decide) ?_ | fail | fail_if_success skip)
  refine w1_ite ?_
  (repeat' first | refine' w_isX (c := "InvalidTime") rfl (by decide) rfl ?_ | refine' f_cnt rfl rfl ?_ | refine' f_idx rfl (by decide) ?_ | fail | fail_if_success skip)
  refine ⟨fun z => absurd z (by decide), fun _ => ?_⟩
  refine ws_nil ?_
  (repeat' first | refine' w_isX (c := "InvalidTime") rfl (by decide) rfl ?_ | refine' f_cnt rfl rfl ?_ | refine' f_idx rfl (by decide) ?_ | fail | fail_if_success skip)
  refine w1_ite ?_
  (repeat' first | fail | fail_if_success skip)
  refine ⟨fun _ => ?_, fun z => absurd z (by decide)⟩
  (repeat' first | fail | refine' w1_ite ?_)
  exact h
theorem c_ref_InvalidKind (h : Q (.str "kind") false pn) : WC (F__law_refusal_v7 adr) [excD adr "InvalidKind"] pn Q := by
  refine w_run ?_
  unfold ir__law_refusal_v7
  (repeat' first | refine' w_isX (c := "InvalidKind") rfl (by decide) rfl ?_ | refine' f_cnt rfl rfl ?_ | refine' f_idx rfl (by decide) ?_ | fail | fail_if_success skip)
  refine ⟨by decide, ?_⟩
  (repeat' first | refine' w_isX (c := "InvalidKind") rfl (by decide) rfl ?_ | refine' f_cnt rfl rfl ?_ | refine' f_idx rfl (by decide) ?_ | fail | fail_if_success skip)
  refine w1_ite ?_
  (repeat' first | refine' w_isX (c := "InvalidKind") rfl (by decide) rfl ?_ | refine' f_cnt rfl rfl ?_ | refine' f_idx rfl (by decide) ?_ | fail | fail_if_success skip)
  refine ⟨fun z => absurd z (by decide), fun _ => ?_⟩
  refine ws_nil ?_
  (repeat' first | refine' w_isX (c := "InvalidKind") rfl (by decide) rfl ?_ | refine' f_cnt rfl rfl ?_ | refine' f_idx rfl (by decide) ?_ | fail | fail_if_success skip)
  refine w1_ite ?_
  (repeat' first | fail | fail_if_success skip)
  refine ⟨fun _ => ?_, fun z => absurd z (by decide)⟩
  (repeat' first | fail | refine' w1_ite ?_)
  exact h
theorem c_ref_InvalidNumber (h : Q (.str "number") false pn) : WC (F__law_refusal_v7 adr) [excD adr "InvalidNumber"] pn Q := by
  refine w_run ?_
  unfold ir__law_refusal_v7
  (repeat' first | refine' w_isX (c := "InvalidNumber") rfl (by decide) rfl ?_ | refine' f_cnt rfl rfl ?_ | refine' f_idx rfl (by decide) ?_ | fail | fail_if_success skip)
  refine ⟨by decide, ?_⟩
  (repeat' first | refine' w_isX (c := "InvalidNumber") rfl (by decide) rfl ?_ | refine' f_cnt rfl rfl ?_ | refine' f_idx rfl (by decide) ?_ | fail | fail_if_success skip)
  refine w1_ite ?_
  (repeat' first | refine' w_isX (c := "InvalidNumber") rfl (by decide) rfl ?_ | refine' f_cnt rfl rfl ?_ | refine' f_idx rfl (by decide) ?_ | fail | fail_if_success skip)
  refine ⟨fun z => absurd z (by decide), fun _ => ?_⟩
  refine ws_nil ?_
  (repeat' first | refine' w_isX (c := "InvalidNumber") rfl (by decide) rfl ?_ | refine' f_cnt rfl rfl ?_ | refine' f_idx rfl (by decide) ?_ | fail | fail_if_success skip)
  refine w1_ite ?_
  (repeat' first | fail | fail_if_success skip)
  refine ⟨fun _ => ?_, fun z => absurd z (by decide)⟩
  (repeat' first | fail | refine' w1_ite ?_)
  exact h
theorem c_ref_InvalidSeating (h : Q (.str "places") false pn) : WC (F__law_refusal_v7 adr) [excD adr "InvalidSeating"] pn Q := by
  refine w_run ?_
  unfold ir__law_refusal_v7
  (repeat' first | refine' w_isX (c := "InvalidSeating") rfl (by decide) rfl ?_ | refine' f_cnt rfl rfl ?_ | refine' f_idx rfl (by decide) ?_ | fail | fail_if_success skip)
  refine ⟨by decide, ?_⟩
  (repeat' first | refine' w_isX (c := "InvalidSeating") rfl (by decide) rfl ?_ | refine' f_cnt rfl rfl ?_ | refine' f_idx rfl (by decide) ?_ | fail | fail_if_success skip)
  refine w1_ite ?_
  (repeat' first | refine' w_isX (c := "InvalidSeating") rfl (by decide) rfl ?_ | refine' f_cnt rfl rfl ?_ | refine' f_idx rfl (by decide) ?_ | fail | fail_if_success skip)
  refine ⟨fun z => absurd z (by decide), fun _ => ?_⟩
  refine ws_nil ?_
  (repeat' first | refine' w_isX (c := "InvalidSeating") rfl (by decide) rfl ?_ | refine' f_cnt rfl rfl ?_ | refine' f_idx rfl (by decide) ?_ | fail | fail_if_success skip)
  refine w1_ite ?_
  (repeat' first | fail | fail_if_success skip)
  refine ⟨fun _ => ?_, fun z => absurd z (by decide)⟩
  (repeat' first | fail | refine' w1_ite ?_)
  exact h
theorem c_ref_ServerDown (hr : RepK d) (hl : d.shown.length ≤ 1000000) (h : Q (.str ((("down" : Str) ++ " ") ++ d.shown)) false pn) : WC (F__law_refusal_v7 adr) [excK adr "ServerDown" "server" d] pn Q := by
  refine w_run ?_
  unfold ir__law_refusal_v7
  (repeat' first | refine' w_isXK (c := "ServerDown") rfl (by decide) rfl ?_ | refine' f_cnt rfl rfl ?_ | refine' f_idx rfl (by decide) ?_ | fail | fail_if_success skip)
  refine ⟨by decide, ?_⟩
  (repeat' first | refine' w_isXK (c := "ServerDown") rfl (by decide) rfl ?_ | refine' f_cnt rfl rfl ?_ | refine' f_idx rfl (by decide) ?_ | fail | fail_if_success skip)
  refine w1_ite ?_
  (repeat' first | refine' w_isXK (c := "ServerDown") rfl (by decide) rfl ?_ | refine' f_cnt rfl rfl ?_ | refine' f_idx rfl (by decide) ?_ | fail | fail_if_success skip)
  refine ⟨fun z => absurd z (by decide), fun _ => ?_⟩
  refine ws_nil ?_
  (repeat' first | refine' w_isXK (c := "ServerDown") rfl (by decide) rfl ?_ | refine' f_cnt rfl rfl ?_ | refine' f_idx rfl (by decide) ?_ | fail | fail_if_success skip)
  refine w1_ite ?_
  (repeat' first | fail | fail_if_success skip)
  refine ⟨fun z => absurd z (by decide), fun _ => ?_⟩
  refine ws_nil ?_
  (repeat' first | fail | fail_if_success skip)
  refine w1_ite ?_
  (repeat' first | refine' k_eqS ?_ | fail | fail_if_success skip)
  refine ⟨true, by decide +kernel, true, rfl, ?_⟩
  refine ⟨fun _ => ?_, fun z => absurd z (by decide)⟩
  (repeat' first | refine' w_xat (c := "ServerDown") rfl (by decide) ?_ | refine' f_repr hr ?_ | refine' d_addSW hl ?_ | refine' k_eqS ?_ | fail | refine' w1_ite ?_)
  exact h
end
end K1

set_option Elab.async false
set_option linter.all false
set_option maxRecDepth 1000000
set_option maxHeartbeats 8000000
set_option pp.maxSteps 300
set_option pp.deepTerms.threshold 6
namespace K1
open PySem L2 Fs
section
variable {adr : Str → Nat} {pn : Option Pn} {Q : D → Bool → Option Pn → Prop} {d : D}
theorem c_ref_InvalidWorths (h : Q (.str "worths") false pn) : WC (F__law_refusal_v7 adr) [excD adr "InvalidWorths"] pn Q := by
  refine w_run ?_
  unfold ir__law_refusal_v7
  (repeat' first | refine' w_isX (c := "InvalidWorths") rfl (by decide) rfl ?_ | refine' f_cnt rfl rfl ?_ | refine' f_idx rfl (by decide) ?_ | fail | fail_if_success skip)
  refine ⟨by decide, ?_⟩
  (repeat' first | refine' w_isX (c := "InvalidWorths") rfl (by decide) rfl ?_ | refine' f_cnt rfl rfl ?_ | refine' f_idx rfl (by decide) ?_ | fail | fail_if_success skip)
  refine w1_ite ?_
  (repeat' first | refine' w_isX (c := "InvalidWorths") rfl (by decide) rfl ?_ | refine' f_cnt rfl rfl ?_ | refine' f_idx rfl (by decide) ?_ | fail | fail_if_success skip)
  refine ⟨fun z => absurd z (by decide), fun _ => ?_⟩
  refine ws_nil ?_
  (repeat' first | refine' w_isX (c := "InvalidWorths") rfl (by decide) rfl ?_ | refine' f_cnt rfl rfl ?_ | refine' f_idx rfl (by decide) ?_ | fail | fail_if_success skip)
  refine w1_ite ?_
  (repeat' first | fail | fail_if_success skip)
  refine ⟨fun _ => ?_, fun z => absurd z (by decide)⟩
  (repeat' first | fail | refine' w1_ite ?_)
  exact h
theorem c_ref_DoesNotFit (h : Q (.str "no fit") false pn) : WC (F__law_refusal_v7 adr) [excD adr "DoesNotFit"] pn Q := by
  refine w_run ?_
  unfold ir__law_refusal_v7
  (repeat' first | refine' w_isX (c := "DoesNotFit") rfl (by decide) rfl ?_ | refine' f_cnt rfl rfl ?_ | refine' f_idx rfl (by decide) ?_ | fail | fail_if_success skip)
  refine ⟨by decide, ?_⟩
  (repeat' first | refine' w_isX (c := "DoesNotFit") rfl (by decide) rfl ?_ | refine' f_cnt rfl rfl ?_ | refine' f_idx rfl (by decide) ?_ | fail | fail_if_success skip)
  refine w1_ite ?_
  (repeat' first | refine' w_isX (c := "DoesNotFit") rfl (by decide) rfl ?_ | refine' f_cnt rfl rfl ?_ | refine' f_idx rfl (by decide) ?_ | fail | fail_if_success skip)
  refine ⟨fun z => absurd z (by decide), fun _ => ?_⟩
  refine ws_nil ?_
  (repeat' first | refine' w_isX (c := "DoesNotFit") rfl (by decide) rfl ?_ | refine' f_cnt rfl rfl ?_ | refine' f_idx rfl (by decide) ?_ | fail | fail_if_success skip)
  refine w1_ite ?_
  (repeat' first | fail | fail_if_success skip)
  refine ⟨fun _ => ?_, fun z => absurd z (by decide)⟩
  (repeat' first | fail | refine' w1_ite ?_)
  exact h
theorem c_ref_NotACertificate (h : Q (.str "form") false pn) : WC (F__law_refusal_v7 adr) [excD adr "NotACertificate"] pn Q := by
  refine w_run ?_
  unfold ir__law_refusal_v7
  (repeat' first | refine' w_isX (c := "NotACertificate") rfl (by decide) rfl ?_ | refine' f_cnt rfl rfl ?_ | refine' f_idx rfl (by decide) ?_ | fail | fail_if_success skip)
  refine ⟨by decide, ?_⟩
  (repeat' first | refine' w_isX (c := "NotACertificate") rfl (by decide) rfl ?_ | refine' f_cnt rfl rfl ?_ | refine' f_idx rfl (by decide) ?_ | fail | fail_if_success skip)
  refine w1_ite ?_
  (repeat' first | refine' w_isX (c := "NotACertificate") rfl (by decide) rfl ?_ | refine' f_cnt rfl rfl ?_ | refine' f_idx rfl (by decide) ?_ | fail | fail_if_success skip)
  refine ⟨fun z => absurd z (by decide), fun _ => ?_⟩
  refine ws_nil ?_
  (repeat' first | refine' w_isX (c := "NotACertificate") rfl (by decide) rfl ?_ | refine' f_cnt rfl rfl ?_ | refine' f_idx rfl (by decide) ?_ | fail | fail_if_success skip)
  refine w1_ite ?_
  (repeat' first | fail | fail_if_success skip)
  refine ⟨fun _ => ?_, fun z => absurd z (by decide)⟩
  (repeat' first | fail | refine' w1_ite ?_)
  exact h
theorem c_ref_ServerUp (hr : RepK d) (hl : d.shown.length ≤ 1000000) (h : Q (.str ((("up" : Str) ++ " ") ++ d.shown)) false pn) : WC (F__law_refusal_v7 adr) [excK adr "ServerUp" "server" d] pn Q := by
  refine w_run ?_
  unfold ir__law_refusal_v7
  (repeat' first | refine' w_isXK (c := "ServerUp") rfl (by decide) rfl ?_ | refine' f_cnt rfl rfl ?_ | refine' f_idx rfl (by decide) ?_ | fail | fail_if_success skip)
  refine ⟨by decide, ?_⟩
  (repeat' first | refine' w_isXK (c := "ServerUp") rfl (by decide) rfl ?_ | refine' f_cnt rfl rfl ?_ | refine' f_idx rfl (by decide) ?_ | fail | fail_if_success skip)
  refine w1_ite ?_
  (repeat' first | refine' w_isXK (c := "ServerUp") rfl (by decide) rfl ?_ | refine' f_cnt rfl rfl ?_ | refine' f_idx rfl (by decide) ?_ | fail | fail_if_success skip)
  refine ⟨fun z => absurd z (by decide), fun _ => ?_⟩
  refine ws_nil ?_
  (repeat' first | refine' w_isXK (c := "ServerUp") rfl (by decide) rfl ?_ | refine' f_cnt rfl rfl ?_ | refine' f_idx rfl (by decide) ?_ | fail | fail_if_success skip)
  refine w1_ite ?_
  (repeat' first | fail | fail_if_success skip)
  refine ⟨fun z => absurd z (by decide), fun _ => ?_⟩
  refine ws_nil ?_
  (repeat' first | fail | fail_if_success skip)
  refine w1_ite ?_
  (repeat' first | refine' k_eqS ?_ | fail | fail_if_success skip)
  refine ⟨true, by decide +kernel, true, rfl, ?_⟩
  refine ⟨fun _ => ?_, fun z => absurd z (by decide)⟩
  (repeat' first | refine' w_xat (c := "ServerUp") rfl (by decide) ?_ | refine' f_repr hr ?_ | refine' d_addSW hl ?_ | refine' k_eqS ?_ | fail | refine' w1_ite ?_)
  exact h
end
end K1

set_option Elab.async false
set_option linter.all false
set_option maxRecDepth 1000000
set_option maxHeartbeats 8000000
set_option pp.maxSteps 300
set_option pp.deepTerms.threshold 6
namespace K1
open PySem L2 Fs
section
variable {adr : Str → Nat} {pn : Option Pn} {Q : D → Bool → Option Pn → Prop} {d : D}
theorem c_ref_InvalidTicket (hr : RepK d) (hl : d.shown.length ≤ 1000000) (h : Q (.str ((("ticket" : Str) ++ " ") ++ d.shown)) false pn) : WC (F__law_refusal_v7 adr) [excK adr "InvalidTicket" "ticket" d] pn Q := by
  refine w_run ?_
  unfold ir__law_refusal_v7
  (repeat' first | refine' w_isXK (c := "InvalidTicket") rfl (by decide) rfl ?_ | refine' f_cnt rfl rfl ?_ | refine' f_idx rfl (by decide) ?_ | fail | fail_if_success skip)
  refine ⟨by decide, ?_⟩
  (repeat' first | refine' w_isXK (c := "InvalidTicket") rfl (by decide) rfl ?_ | refine' f_cnt rfl rfl ?_ | refine' f_idx rfl (by decide) ?_ | fail | fail_if_success skip)
  refine w1_ite ?_
  (repeat' first | refine' w_isXK (c := "InvalidTicket") rfl (by decide) rfl ?_ | refine' f_cnt rfl rfl ?_ | refine' f_idx rfl (by decide) ?_ | fail | fail_if_success skip)
  refine ⟨fun z => absurd z (by decide), fun _ => ?_⟩
  refine ws_nil ?_
  (repeat' first | refine' w_isXK (c := "InvalidTicket") rfl (by decide) rfl ?_ | refine' f_cnt rfl rfl ?_ | refine' f_idx rfl (by decide) ?_ | fail | fail_if_success skip)
  refine w1_ite ?_
  (repeat' first | fail | fail_if_success skip)
  refine ⟨fun z => absurd z (by decide), fun _ => ?_⟩
  refine ws_nil ?_
  (repeat' first | fail | fail_if_success skip)
  refine w1_ite ?_
  (repeat' first | refine' k_eqS ?_ | fail | fail_if_success skip)
  refine ⟨false, by decide +kernel, false, rfl, ?_⟩
  refine ⟨fun z => absurd z (by decide), fun _ => ?_⟩
  refine ws_nil ?_
  (repeat' first | fail | fail_if_success skip)
  refine w1_ite ?_
  (repeat' first | refine' k_eqS ?_ | fail | fail_if_success skip)
  refine ⟨fun _ => ?_, fun z => absurd z (by decide)⟩
  (repeat' first | refine' w_xat (c := "InvalidTicket") rfl (by decide) ?_ | refine' f_repr hr ?_ | refine' d_addSW hl ?_ | refine' k_eqS ?_ | fail | refine' w1_ite ?_)
  exact h
theorem c_ref_InvalidMark (hr : RepK d) (hl : d.shown.length ≤ 1000000) (h : Q (.str ((("mark" : Str) ++ " ") ++ d.shown)) false pn) : WC (F__law_refusal_v7 adr) [excK adr "InvalidMark" "number" d] pn Q := by
  refine w_run ?_
  unfold ir__law_refusal_v7
  (repeat' first | refine' w_isXK (c := "InvalidMark") rfl (by decide) rfl ?_ | refine' f_cnt rfl rfl ?_ | refine' f_idx rfl (by decide) ?_ | fail | fail_if_success skip)
  refine ⟨by decide, ?_⟩
  (repeat' first | refine' w_isXK (c := "InvalidMark") rfl (by decide) rfl ?_ | refine' f_cnt rfl rfl ?_ | refine' f_idx rfl (by decide) ?_ | fail | fail_if_success skip)
  refine w1_ite ?_
  (repeat' first | refine' w_isXK (c := "InvalidMark") rfl (by decide) rfl ?_ | refine' f_cnt rfl rfl ?_ | refine' f_idx rfl (by decide) ?_ | fail | fail_if_success skip)
  refine ⟨fun z => absurd z (by decide), fun _ => ?_⟩
  refine ws_nil ?_
  (repeat' first | refine' w_isXK (c := "InvalidMark") rfl (by decide) rfl ?_ | refine' f_cnt rfl rfl ?_ | refine' f_idx rfl (by decide) ?_ | fail | fail_if_success skip)
  refine w1_ite ?_
  (repeat' first | fail | fail_if_success skip)
  refine ⟨fun z => absurd z (by decide), fun _ => ?_⟩
  refine ws_nil ?_
  (repeat' first | fail | fail_if_success skip)
  refine w1_ite ?_
  (repeat' first | refine' k_eqS ?_ | fail | fail_if_success skip)
  refine ⟨false, by decide +kernel, false, rfl, ?_⟩
  refine ⟨fun z => absurd z (by decide), fun _ => ?_⟩
  refine ws_nil ?_
  (repeat' first | fail | fail_if_success skip)
  refine w1_ite ?_
  (repeat' first | refine' k_eqS ?_ | fail | fail_if_success skip)
  refine ⟨fun z => absurd z (by decide), fun _ => ?_⟩
  refine ws_nil ?_
  (repeat' first | fail | fail_if_success skip)
  (repeat' first | refine' w_iteT ?_ | refine' w_xat (c := "InvalidMark") rfl (by decide) ?_ | refine' f_repr hr ?_ | refine' d_addSW hl ?_ | refine' k_eqS ?_ | fail | refine' w1_ite ?_)
  exact h
end
end K1

set_option Elab.async false
set_option linter.all false
set_option maxRecDepth 1000000
set_option maxHeartbeats 8000000
set_option pp.maxSteps 300
set_option pp.deepTerms.threshold 6
namespace K1
open PySem L2 Fs
section
variable {adr : Str → Nat} {pn : Option Pn} {Q : D → Bool → Option Pn → Prop} {d : D}
theorem c_ref_Full (hr : RepK d) (hl : d.shown.length ≤ 1000000) (h : Q (.str ((("full" : Str) ++ " ") ++ d.shown)) false pn) : WC (F__law_refusal_v7 adr) [excK adr "Full" "limit" d] pn Q := by
  refine w_run ?_
  unfold ir__law_refusal_v7
  (repeat' first | refine' w_isXK (c := "Full") rfl (by decide) rfl ?_ | refine' f_cnt rfl rfl ?_ | refine' f_idx rfl (by decide) ?_ | fail | fail_if_success skip)
  refine ⟨by decide, ?_⟩
  (repeat' first | refine' w_isXK (c := "Full") rfl (by decide) rfl ?_ | refine' f_cnt rfl rfl ?_ | refine' f_idx rfl (by decide) ?_ | fail | fail_if_success skip)
  refine w1_ite ?_
  (repeat' first | refine' w_isXK (c := "Full") rfl (by decide) rfl ?_ | refine' f_cnt rfl rfl ?_ | refine' f_idx rfl (by decide) ?_ | fail | fail_if_success skip)
  refine ⟨fun z => absurd z (by decide), fun _ => ?_⟩
  refine ws_nil ?_
  (repeat' first | refine' w_isXK (c := "Full") rfl (by decide) rfl ?_ | refine' f_cnt rfl rfl ?_ | refine' f_idx rfl (by decide) ?_ | fail | fail_if_success skip)
  refine w1_ite ?_
  (repeat' first | fail | fail_if_success skip)
  refine ⟨fun z => absurd z (by decide), fun _ => ?_⟩
  refine ws_nil ?_
  (repeat' first | fail | fail_if_success skip)
  refine w1_ite ?_
  (repeat' first | refine' k_eqS ?_ | fail | fail_if_success skip)
  refine ⟨false, by decide +kernel, false, rfl, ?_⟩
  refine ⟨fun z => absurd z (by decide), fun _ => ?_⟩
  refine ws_nil ?_
  (repeat' first | fail | fail_if_success skip)
  refine w1_ite ?_
  (repeat' first | refine' k_eqS ?_ | fail | fail_if_success skip)
  refine ⟨fun z => absurd z (by decide), fun _ => ?_⟩
  refine ws_nil ?_
  (repeat' first | fail | fail_if_success skip)
  (repeat' first | refine' w_iteF ?_ | refine' w_xat (c := "Full") rfl (by decide) ?_ | refine' f_repr hr ?_ | refine' d_addSW hl ?_ | refine' k_eqS ?_ | fail | refine' w1_ite ?_)
  exact h
end
end K1

set_option Elab.async false
set_option linter.all false
set_option maxRecDepth 1000000
set_option maxHeartbeats 8000000
set_option pp.maxSteps 300
set_option pp.deepTerms.threshold 6
namespace K1
open PySem L2 Fs
section
variable {adr : Str → Nat} {pn : Option Pn} {Q : D → Bool → Option Pn → Prop} {d : D}
theorem c_more (h : Q (.str "more") false pn) : WC (F__law_refusal_v7 adr) [excD adr "PoolError"] pn Q := by
  refine w_run ?_
  unfold ir__law_refusal_v7
  (repeat' first | refine' w_isX (c := "PoolError") rfl (by decide) rfl ?_ | refine' f_cnt rfl rfl ?_ | refine' f_idx rfl (by decide) ?_ | fail | fail_if_success skip)
  refine ⟨by decide, ?_⟩
  (repeat' first | refine' w_isX (c := "PoolError") rfl (by decide) rfl ?_ | refine' f_cnt rfl rfl ?_ | refine' f_idx rfl (by decide) ?_ | fail | fail_if_success skip)
  refine w1_ite ?_
  (repeat' first | refine' w_isX (c := "PoolError") rfl (by decide) rfl ?_ | refine' f_cnt rfl rfl ?_ | refine' f_idx rfl (by decide) ?_ | fail | fail_if_success skip)
  refine ⟨fun _ => ?_, fun z => absurd z (by decide)⟩
  (repeat' first | fail | refine' w1_ite ?_)
  exact h
theorem eqv_strs : ∀ l : List Str, PyData.eqvAll (l.map .str) (l.map .str) = true
  | [] => by simp [PyData.eqvAll]
  | x :: l => by rw [List.map_cons, PyData.eqvAll, eqv_strs l]; simp [PyData.eqv]
def plW : List (Str × Str) := [("Refused", "refused"), ("InvalidPool", "pool"), ("InvalidClaims", "claims"), ("InvalidClaim", "claim"), ("InvalidTime", "time"), ("InvalidKind", "kind"), ("InvalidNumber", "number"), ("InvalidSeating", "places"), ("InvalidWorths", "worths"), ("DoesNotFit", "no fit"), ("NotACertificate", "form")]
theorem c_plW {q : Str × Str} (hq : q ∈ plW) (h : Q (.str q.2) false pn) : WC (F__law_refusal_v7 adr) [excD adr q.1] pn Q := by
  simp only [plW, List.mem_cons, List.not_mem_nil, or_false] at hq
  rcases hq with rfl | rfl | rfl | rfl | rfl | rfl | rfl | rfl | rfl | rfl | rfl
  · exact c_ref_Refused h
  · exact c_ref_InvalidPool h
  · exact c_ref_InvalidClaims h
  · exact c_ref_InvalidClaim h
  · exact c_ref_InvalidTime h
  · exact c_ref_InvalidKind h
  · exact c_ref_InvalidNumber h
  · exact c_ref_InvalidSeating h
  · exact c_ref_InvalidWorths h
  · exact c_ref_DoesNotFit h
  · exact c_ref_NotACertificate h
theorem c_plain_right {x : Str} (h : Q (.bool true) false pn) : WC (F__law_plain_right adr) [.str x] pn Q := by
  refine w_run ?_
  unfold ir__law_plain_right
  (repeat' first | refine' w_newX ?_ | fail | fail_if_success skip)
  refine wlc_all (xs := plW) (g := fun q => excD adr q.1) (f := fun q => .str q.2) rfl rfl (lenOk (by decide)) (fun q hq => ?_) rfl ?_
  · (repeat' first | refine' c_plW hq ?_ | fail | fail_if_success skip)
  (repeat' first | fail | fail_if_success skip)
  refine ⟨true, by decide +kernel, ?_⟩
  (repeat' first | fail | refine' w1_ite ?_)
  exact h
def kpW (v : D) : List (Str × Str × Str) := [("InvalidServer", "server", "server"), ("ServerDown", "server", "down"), ("ServerUp", "server", "up"), ("InvalidTicket", "ticket", "ticket"), ("InvalidMark", "number", "mark"), ("Full", "limit", "full")]
theorem c_kpW {v : D} (hr : RepK v) (hl : v.shown.length ≤ 1000000) {q : Str × Str × Str} (hq : q ∈ kpW v) (h : Q (.str ((q.2.2 ++ " ") ++ v.shown)) false pn) : WC (F__law_refusal_v7 adr) [excK adr q.1 q.2.1 v] pn Q := by
  simp only [kpW, List.mem_cons, List.not_mem_nil, or_false] at hq
  rcases hq with rfl | rfl | rfl | rfl | rfl | rfl
  · exact c_ref_InvalidServer hr hl h
  · exact c_ref_ServerDown hr hl h
  · exact c_ref_ServerUp hr hl h
  · exact c_ref_InvalidTicket hr hl h
  · exact c_ref_InvalidMark hr hl h
  · exact c_ref_Full hr hl h
/-- the words of the kept ones -/
def wdL (v : D) : List D := (["server", "down", "up", "ticket", "mark", "full"] : List Str).map fun w => .str ((w ++ " ") ++ v.shown)
def okV (v : D) : Bool := (good 60 v && v.showable && decide (v.shown.length ≤ sizeLine)) && (decide (v.shown.length ≤ 1000) && good 60 (.list (wdL v)))
theorem c_kept_right {v : D} (hv : okV v = true) (h : Q (.bool true) false pn) : WC (F__law_kept_right adr) [v] pn Q := by
  obtain ⟨hr, h2⟩ := Bool.and_eq_true_iff.mp hv
  obtain ⟨h3, hg⟩ := Bool.and_eq_true_iff.mp h2
  have hl : v.shown.length ≤ 1000 := of_decide_eq_true h3
  have hr : RepK v := hr
  refine w_run ?_
  unfold ir__law_kept_right
  (repeat' first | refine' f_repr hr ?_ | refine' w_newX ?_ | fail | fail_if_success skip)
  refine ⟨(show (5 : Nat) < sizeLine by rw [sizeL]; omega), ?_⟩
  (repeat' first | fail | fail_if_success skip)
  refine wlc_all (xs := (["server", "down", "up", "ticket", "mark", "full"] : List Str)) (g := .str) (f := fun w => .str ((w ++ " ") ++ v.shown)) rfl rfl (lenOk (by decide)) (fun w hw => ?_) rfl ?_
  · simp only [List.mem_cons, List.not_mem_nil, or_false] at hw
    rcases hw with rfl | rfl | rfl | rfl | rfl | rfl
    all_goals (repeat' first | refine' d_addSW (Nat.le_trans hl (by decide)) ?_ | fail | fail_if_success skip)
  (repeat' first | refine' ws_cons (w1_ret (w_and (wb_andT ?_))) | fail | fail_if_success skip)
  refine wlc_all (xs := kpW v) (g := fun q => excK adr q.1 q.2.1 v) (f := fun q => .str ((q.2.2 ++ " ") ++ v.shown)) rfl rfl (lenOk (show (6 : Nat) ≤ 1000000 by decide)) (fun q hq => ?_) rfl ?_
  · (repeat' first | refine' c_kpW hr (Nat.le_trans hl (by decide)) hq ?_ | fail | fail_if_success skip)
  (repeat' first | fail | fail_if_success skip)
  refine k_eq (okEq_of hg hg) ?_
  change WV (PyData.bool (PyData.eqv (.list (wdL v)) (.list (wdL v)))) _
  rw [show PyData.eqv (.list (wdL v)) (.list (wdL v)) = true by rw [PyData.eqv]; show PyData.eqvAll (((["server", "down", "up", "ticket", "mark", "full"] : List Str).map fun w => (w ++ " ") ++ v.shown).map PyData.str) (((["server", "down", "up", "ticket", "mark", "full"] : List Str).map fun w => (w ++ " ") ++ v.shown).map PyData.str) = true; exact eqv_strs _]
  refine ⟨true, rfl, rfl, ?_⟩
  (repeat' first | refine' f_repr hr ?_ | refine' k_eqS ?_ | fail | fail_if_success skip)
  change Q (.bool (decide (v.shown = v.shown))) _ _
  rw [decide_eq_true rfl]
  exact h
end
end K1

set_option Elab.async false
set_option linter.all false
set_option maxRecDepth 1000000
set_option maxHeartbeats 8000000
set_option pp.maxSteps 400
set_option pp.deepTerms.threshold 8
namespace K1
open PySem L2 Fs
def vals0 : List D := [.int (-1), .none, .bool true, .str "x", .str "", .tuple [.int 1, .int 2], .list [.int 3], .list [], .int ((10 : Int) ^ Int.toNat 20)]
theorem ok_vals0 : ∀ v ∈ vals0, okV v = true := by decide +kernel
theorem ok_n : ∀ n : Nat, n < 13 → okV (.int (n : Nat)) = true := by decide +kernel
theorem ok_t : ∀ n : Nat, n < 9 → okV (.tuple [.int (n : Nat), .none]) = true := by decide +kernel
theorem hlaw (adr : Str → Nat) (cells : List Int) : ∃ s1, evalSs (irr_law adr) (lawS 6 ⟨cells, 0, 0⟩) = some (.ret (.bool true) false, s1) := by
  refine law_of ?_
  unfold irr_law
  (repeat' first | refine' w_newX ?_ | fail | fail_if_success skip)
  refine w1_iteF (wb_orF ?_)
  (repeat' first | refine' c_more ?_ | fail | fail_if_success skip)
  (repeat' first | refine' w_isX (c := "PoolError") rfl (by decide) rfl ?_ | fail | fail_if_success skip)
  refine wfor_M (xs := (["", "a text", "5"] : List Str)) (g := .str) (fun i s => ∃ x3, s = ⟨[none, pen, some (excD adr "PoolError", false), x3, none, none], some ⟨cells, 0, 0⟩⟩) rfl ⟨none, rfl⟩ ?_ ?_
  · rintro i x s hi ⟨x3, rfl⟩
    (repeat' first | fail | fail_if_success skip)
    refine w1_iteF ?_
    (repeat' first | refine' c_plain_right ?_ | fail | fail_if_success skip)
    exact ⟨_, rfl⟩
  · rintro s ⟨x3, rfl⟩
    (repeat' first | fail | fail_if_success skip)
    refine ⟨by decide, ?_⟩
    refine wfor_rng (fun i s => ∃ x4 x5 p, s = ⟨[none, pen, some (excD adr "PoolError", false), x3, x4, x5], some p⟩ ∧ 0 ≤ p.a ∧ p.a ≤ 10 * i) ⟨none, none, ⟨cells, 0, 0⟩, rfl, by show (0 : Int) ≤ 0; omega, by show (0 : Int) ≤ _; omega⟩ ?_ ?_
    · rintro i s hi ⟨x4, x5, p, rfl, a0, a1⟩
      have hi : (i : Int) < 6 := by simpa using hi
      (repeat' first | fail | fail_if_success skip)
      refine c_take (by omega) (by omega) fun u p1 b1 b2 b3 b4 => ?_
      have b3 : p.a ≤ p1.a := b3
      have b4 : p1.a ≤ p.a + 1 := b4
      (repeat' first | fail | fail_if_success skip)
      refine c_take (by omega) (by show 0 ≤ p1.a ∧ p1.a < _; omega) fun w p2 c1 c2 c3 c4 => ?_
      have c3 : p1.a ≤ p2.a := c3
      have c4 : p2.a ≤ p1.a + 1 := c4
      obtain ⟨u, rfl⟩ : ∃ n : Nat, u = n := ⟨u.toNat, by omega⟩
      obtain ⟨w, rfl⟩ : ∃ n : Nat, w = n := ⟨w.toNat, by omega⟩
      (repeat' first | fail | fail_if_success skip)
      refine w1_iteF ?_
      (repeat' first | fail | fail_if_success skip)
      refine o_one rfl (by simp) (by show 0 ≤ p2.a ∧ p2.a < _; omega) fun d p3 hd d1 d2 => ?_
      have d1 : p2.a ≤ p3.a := d1
      have d2 : p3.a ≤ p2.a + 1 := d2
      have hv : okV d = true := by
        simp only [List.mem_cons, List.not_mem_nil, or_false] at hd
        rcases hd with rfl | rfl | rfl | rfl | rfl | rfl | rfl | rfl | rfl | rfl | rfl
        · exact ok_n u (by omega)
        · exact ok_vals0 _ (by simp [vals0])
        · exact ok_vals0 _ (by simp [vals0])
        · exact ok_vals0 _ (by simp [vals0])
        · exact ok_vals0 _ (by simp [vals0])
        · exact ok_vals0 _ (by simp [vals0])
        · exact ok_vals0 _ (by simp [vals0])
        · exact ok_vals0 _ (by simp [vals0])
        · exact ok_vals0 _ (by simp [vals0])
        · exact ok_vals0 _ (by simp [vals0])
        · exact ok_t w (by omega)
      (repeat' first | refine' c_kept_right hv ?_ | fail | fail_if_success skip)
      exact ⟨_, _, p3, rfl, by omega, by omega⟩
    · rintro s ⟨x4, x5, p, rfl, a0, a1⟩
      (repeat' first | fail | refine' w1_ite ?_)
end K1

open PySem PySem.W PyProof.Rows
set_option maxRecDepth 1000000 in
set_option maxHeartbeats 0 in
theorem PySem.Challenge.cw_floatseats_k01_errors_by_hand_holds : PySem.Challenge.rw_floatseats_k01_errors_by_hand.Holds := by
  refine K1.top_of ?_
  k_fill
  refine Fs.walk_law (l := PySem.Challenge.rw_floatseats_k01_errors_by_hand) (k := 5) (x0 := "_law_script") rfl rfl ⟨rfl, by decide, by decide⟩ (fun w h Y => PySem.W.kIn_of Y) ?F
  case F =>
    intro w mg fa h KX G hmg
    have d__law_open : Fs.DefAt (L2.KOf KX) mg "_law_open" K1.st__law_open := by
      refine' Fs.defAt_mk KX G ?a ?l ?c ?k
      (case a => k_is); (case l => k_is); (case c => k_is); (case k => k_is)
    have d__law_refusal : Fs.DefAt (L2.KOf KX) mg "_law_refusal" K1.st__law_refusal := by
      refine' Fs.defAt_mk KX G ?a ?l ?c ?k
      (case a => k_is); (case l => k_is); (case c => k_is); (case k => k_is)
    have d__law_plain_right : Fs.DefAt (L2.KOf KX) mg "_law_plain_right" K1.st__law_plain_right := by
      refine' Fs.defAt_mk KX G ?a ?l ?c ?k
      (case a => k_is); (case l => k_is); (case c => k_is); (case k => k_is)
    have d__law_spread : Fs.DefAt (L2.KOf KX) mg "_law_spread" K1.st__law_spread := by
      refine' Fs.defAt_mk KX G ?a ?l ?c ?k
      (case a => k_is); (case l => k_is); (case c => k_is); (case k => k_is)
    have d__law_take : Fs.DefAt (L2.KOf KX) mg "_law_take" K1.st__law_take := by
      refine' Fs.defAt_mk KX G ?a ?l ?c ?k
      (case a => k_is); (case l => k_is); (case c => k_is); (case k => k_is)
    have d__law_kept_right : Fs.DefAt (L2.KOf KX) mg "_law_kept_right" K1.st__law_kept_right := by
      refine' Fs.defAt_mk KX G ?a ?l ?c ?k
      (case a => k_is); (case l => k_is); (case c => k_is); (case k => k_is)
    have d__law_one : Fs.DefAt (L2.KOf KX) mg "_law_one" K1.st__law_one := by
      refine' Fs.defAt_mk KX G ?a ?l ?c ?k
      (case a => k_is); (case l => k_is); (case c => k_is); (case k => k_is)
    have d_law : Fs.DefAt (L2.KOf KX) mg "law" K1.st_law := by
      refine' Fs.defAt_mk KX G ?a ?l ?c ?k
      (case a => k_is); (case l => k_is); (case c => k_is); (case k => k_is)
    have e_DoesNotFit := PySem.W.mg_of (n := "DoesNotFit") KX G (by k_is)
    have e_Full := PySem.W.mg_of (n := "Full") KX G (by k_is)
    have e_InvalidClaim := PySem.W.mg_of (n := "InvalidClaim") KX G (by k_is)
    have e_InvalidClaims := PySem.W.mg_of (n := "InvalidClaims") KX G (by k_is)
    have e_InvalidKind := PySem.W.mg_of (n := "InvalidKind") KX G (by k_is)
    have e_InvalidMark := PySem.W.mg_of (n := "InvalidMark") KX G (by k_is)
    have e_InvalidNumber := PySem.W.mg_of (n := "InvalidNumber") KX G (by k_is)
    have e_InvalidPool := PySem.W.mg_of (n := "InvalidPool") KX G (by k_is)
    have e_InvalidSeating := PySem.W.mg_of (n := "InvalidSeating") KX G (by k_is)
    have e_InvalidServer := PySem.W.mg_of (n := "InvalidServer") KX G (by k_is)
    have e_InvalidTicket := PySem.W.mg_of (n := "InvalidTicket") KX G (by k_is)
    have e_InvalidTime := PySem.W.mg_of (n := "InvalidTime") KX G (by k_is)
    have e_InvalidWorths := PySem.W.mg_of (n := "InvalidWorths") KX G (by k_is)
    have e_NotACertificate := PySem.W.mg_of (n := "NotACertificate") KX G (by k_is)
    have e_PoolError := PySem.W.mg_of (n := "PoolError") KX G (by k_is)
    have e_Refused := PySem.W.mg_of (n := "Refused") KX G (by k_is)
    have e_ServerDown := PySem.W.mg_of (n := "ServerDown") KX G (by k_is)
    have e_ServerUp := PySem.W.mg_of (n := "ServerUp") KX G (by k_is)
    have e_ValueError := PySem.W.mg_none_of (n := "ValueError") KX G (by k_is)
    have x_DoesNotFit := Fs.ownX_mk KX e_DoesNotFit (by k_exc) (by k_is) (by k_is) (by k_is)
    have x_InvalidClaim := Fs.ownX_mk KX e_InvalidClaim (by k_exc) (by k_is) (by k_is) (by k_is)
    have x_InvalidClaims := Fs.ownX_mk KX e_InvalidClaims (by k_exc) (by k_is) (by k_is) (by k_is)
    have x_InvalidKind := Fs.ownX_mk KX e_InvalidKind (by k_exc) (by k_is) (by k_is) (by k_is)
    have x_InvalidNumber := Fs.ownX_mk KX e_InvalidNumber (by k_exc) (by k_is) (by k_is) (by k_is)
    have x_InvalidPool := Fs.ownX_mk KX e_InvalidPool (by k_exc) (by k_is) (by k_is) (by k_is)
    have x_InvalidSeating := Fs.ownX_mk KX e_InvalidSeating (by k_exc) (by k_is) (by k_is) (by k_is)
    have x_InvalidTime := Fs.ownX_mk KX e_InvalidTime (by k_exc) (by k_is) (by k_is) (by k_is)
    have x_InvalidWorths := Fs.ownX_mk KX e_InvalidWorths (by k_exc) (by k_is) (by k_is) (by k_is)
    have x_NotACertificate := Fs.ownX_mk KX e_NotACertificate (by k_exc) (by k_is) (by k_is) (by k_is)
    have x_PoolError := Fs.ownX_mk KX e_PoolError (by k_exc) (by k_is) (by k_is) (by k_is)
    have x_Refused := Fs.ownX_mk KX e_Refused (by k_exc) (by k_is) (by k_is) (by k_is)
    have c_DoesNotFit := Fs.excC_mk KX e_DoesNotFit (by k_is) (by k_is) (by k_is) (by k_is) (by k_is) (by k_is) (by k_is) (by k_is)
    have c_Full := Fs.excC_mk KX e_Full (by k_is) (by k_is) (by k_is) (by k_is) (by k_is) (by k_is) (by k_is) (by k_is)
    have c_InvalidClaim := Fs.excC_mk KX e_InvalidClaim (by k_is) (by k_is) (by k_is) (by k_is) (by k_is) (by k_is) (by k_is) (by k_is)
    have c_InvalidClaims := Fs.excC_mk KX e_InvalidClaims (by k_is) (by k_is) (by k_is) (by k_is) (by k_is) (by k_is) (by k_is) (by k_is)
    have c_InvalidKind := Fs.excC_mk KX e_InvalidKind (by k_is) (by k_is) (by k_is) (by k_is) (by k_is) (by k_is) (by k_is) (by k_is)
    have c_InvalidMark := Fs.excC_mk KX e_InvalidMark (by k_is) (by k_is) (by k_is) (by k_is) (by k_is) (by k_is) (by k_is) (by k_is)
    have c_InvalidNumber := Fs.excC_mk KX e_InvalidNumber (by k_is) (by k_is) (by k_is) (by k_is) (by k_is) (by k_is) (by k_is) (by k_is)
    have c_InvalidPool := Fs.excC_mk KX e_InvalidPool (by k_is) (by k_is) (by k_is) (by k_is) (by k_is) (by k_is) (by k_is) (by k_is)
    have c_InvalidSeating := Fs.excC_mk KX e_InvalidSeating (by k_is) (by k_is) (by k_is) (by k_is) (by k_is) (by k_is) (by k_is) (by k_is)
    have c_InvalidServer := Fs.excC_mk KX e_InvalidServer (by k_is) (by k_is) (by k_is) (by k_is) (by k_is) (by k_is) (by k_is) (by k_is)
    have c_InvalidTicket := Fs.excC_mk KX e_InvalidTicket (by k_is) (by k_is) (by k_is) (by k_is) (by k_is) (by k_is) (by k_is) (by k_is)
    have c_InvalidTime := Fs.excC_mk KX e_InvalidTime (by k_is) (by k_is) (by k_is) (by k_is) (by k_is) (by k_is) (by k_is) (by k_is)
    have c_InvalidWorths := Fs.excC_mk KX e_InvalidWorths (by k_is) (by k_is) (by k_is) (by k_is) (by k_is) (by k_is) (by k_is) (by k_is)
    have c_NotACertificate := Fs.excC_mk KX e_NotACertificate (by k_is) (by k_is) (by k_is) (by k_is) (by k_is) (by k_is) (by k_is) (by k_is)
    have c_PoolError := Fs.excC_mk KX e_PoolError (by k_is) (by k_is) (by k_is) (by k_is) (by k_is) (by k_is) (by k_is) (by k_is)
    have c_Refused := Fs.excC_mk KX e_Refused (by k_is) (by k_is) (by k_is) (by k_is) (by k_is) (by k_is) (by k_is) (by k_is)
    have c_ServerDown := Fs.excC_mk KX e_ServerDown (by k_is) (by k_is) (by k_is) (by k_is) (by k_is) (by k_is) (by k_is) (by k_is)
    have c_ServerUp := Fs.excC_mk KX e_ServerUp (by k_is) (by k_is) (by k_is) (by k_is) (by k_is) (by k_is) (by k_is) (by k_is)
    have u_DoesNotFit := Fs.mroOf_mk KX e_DoesNotFit (by k_is) (by rfl)
    have y_DoesNotFit := Fs.tyOf KX e_DoesNotFit (by k_is)
    have u_Full := Fs.mroOf_mk KX e_Full (by k_is) (by rfl)
    have y_Full := Fs.tyOf KX e_Full (by k_is)
    have u_InvalidClaim := Fs.mroOf_mk KX e_InvalidClaim (by k_is) (by rfl)
    have y_InvalidClaim := Fs.tyOf KX e_InvalidClaim (by k_is)
    have u_InvalidClaims := Fs.mroOf_mk KX e_InvalidClaims (by k_is) (by rfl)
    have y_InvalidClaims := Fs.tyOf KX e_InvalidClaims (by k_is)
    have u_InvalidKind := Fs.mroOf_mk KX e_InvalidKind (by k_is) (by rfl)
    have y_InvalidKind := Fs.tyOf KX e_InvalidKind (by k_is)
    have u_InvalidMark := Fs.mroOf_mk KX e_InvalidMark (by k_is) (by rfl)
    have y_InvalidMark := Fs.tyOf KX e_InvalidMark (by k_is)
    have u_InvalidNumber := Fs.mroOf_mk KX e_InvalidNumber (by k_is) (by rfl)
    have y_InvalidNumber := Fs.tyOf KX e_InvalidNumber (by k_is)
    have u_InvalidPool := Fs.mroOf_mk KX e_InvalidPool (by k_is) (by rfl)
    have y_InvalidPool := Fs.tyOf KX e_InvalidPool (by k_is)
    have u_InvalidSeating := Fs.mroOf_mk KX e_InvalidSeating (by k_is) (by rfl)
    have y_InvalidSeating := Fs.tyOf KX e_InvalidSeating (by k_is)
    have u_InvalidServer := Fs.mroOf_mk KX e_InvalidServer (by k_is) (by rfl)
    have y_InvalidServer := Fs.tyOf KX e_InvalidServer (by k_is)
    have u_InvalidTicket := Fs.mroOf_mk KX e_InvalidTicket (by k_is) (by rfl)
    have y_InvalidTicket := Fs.tyOf KX e_InvalidTicket (by k_is)
    have u_InvalidTime := Fs.mroOf_mk KX e_InvalidTime (by k_is) (by rfl)
    have y_InvalidTime := Fs.tyOf KX e_InvalidTime (by k_is)
    have u_InvalidWorths := Fs.mroOf_mk KX e_InvalidWorths (by k_is) (by rfl)
    have y_InvalidWorths := Fs.tyOf KX e_InvalidWorths (by k_is)
    have u_NotACertificate := Fs.mroOf_mk KX e_NotACertificate (by k_is) (by rfl)
    have y_NotACertificate := Fs.tyOf KX e_NotACertificate (by k_is)
    have u_PoolError := Fs.mroOf_mk KX e_PoolError (by k_is) (by rfl)
    have y_PoolError := Fs.tyOf KX e_PoolError (by k_is)
    have u_Refused := Fs.mroOf_mk KX e_Refused (by k_is) (by rfl)
    have y_Refused := Fs.tyOf KX e_Refused (by k_is)
    have u_ServerDown := Fs.mroOf_mk KX e_ServerDown (by k_is) (by rfl)
    have y_ServerDown := Fs.tyOf KX e_ServerDown (by k_is)
    have u_ServerUp := Fs.mroOf_mk KX e_ServerUp (by k_is) (by rfl)
    have y_ServerUp := Fs.tyOf KX e_ServerUp (by k_is)
    have i_DoesNotFit := Fs.isx_ref (names := ["DoesNotFit", "Full", "InvalidClaim", "InvalidClaims", "InvalidKind", "InvalidMark", "InvalidNumber", "InvalidPool", "InvalidSeating", "InvalidServer", "InvalidTicket", "InvalidTime", "InvalidWorths", "NotACertificate", "PoolError", "Refused", "ServerDown", "ServerUp"]) (sub := (fun c => c == ("DoesNotFit" : PySem.Str))) KX e_DoesNotFit (Fs.all_cons ⟨c_DoesNotFit, Fs.kit_at KX e_DoesNotFit (Fs.kit_mro (b := true) u_DoesNotFit u_DoesNotFit y_DoesNotFit (by rfl)) (by decide)⟩ (Fs.all_cons ⟨c_Full, Fs.kit_at KX e_Full (Fs.kit_mro (b := false) u_Full u_DoesNotFit y_DoesNotFit (by rfl)) (by decide)⟩ (Fs.all_cons ⟨c_InvalidClaim, Fs.kit_at KX e_InvalidClaim (Fs.kit_mro (b := false) u_InvalidClaim u_DoesNotFit y_DoesNotFit (by rfl)) (by decide)⟩ (Fs.all_cons ⟨c_InvalidClaims, Fs.kit_at KX e_InvalidClaims (Fs.kit_mro (b := false) u_InvalidClaims u_DoesNotFit y_DoesNotFit (by rfl)) (by decide)⟩ (Fs.all_cons ⟨c_InvalidKind, Fs.kit_at KX e_InvalidKind (Fs.kit_mro (b := false) u_InvalidKind u_DoesNotFit y_DoesNotFit (by rfl)) (by decide)⟩ (Fs.all_cons ⟨c_InvalidMark, Fs.kit_at KX e_InvalidMark (Fs.kit_mro (b := false) u_InvalidMark u_DoesNotFit y_DoesNotFit (by rfl)) (by decide)⟩ (Fs.all_cons ⟨c_InvalidNumber, Fs.kit_at KX e_InvalidNumber (Fs.kit_mro (b := false) u_InvalidNumber u_DoesNotFit y_DoesNotFit (by rfl)) (by decide)⟩ (Fs.all_cons ⟨c_InvalidPool, Fs.kit_at KX e_InvalidPool (Fs.kit_mro (b := false) u_InvalidPool u_DoesNotFit y_DoesNotFit (by rfl)) (by decide)⟩ (Fs.all_cons ⟨c_InvalidSeating, Fs.kit_at KX e_InvalidSeating (Fs.kit_mro (b := false) u_InvalidSeating u_DoesNotFit y_DoesNotFit (by rfl)) (by decide)⟩ (Fs.all_cons ⟨c_InvalidServer, Fs.kit_at KX e_InvalidServer (Fs.kit_mro (b := false) u_InvalidServer u_DoesNotFit y_DoesNotFit (by rfl)) (by decide)⟩ (Fs.all_cons ⟨c_InvalidTicket, Fs.kit_at KX e_InvalidTicket (Fs.kit_mro (b := false) u_InvalidTicket u_DoesNotFit y_DoesNotFit (by rfl)) (by decide)⟩ (Fs.all_cons ⟨c_InvalidTime, Fs.kit_at KX e_InvalidTime (Fs.kit_mro (b := false) u_InvalidTime u_DoesNotFit y_DoesNotFit (by rfl)) (by decide)⟩ (Fs.all_cons ⟨c_InvalidWorths, Fs.kit_at KX e_InvalidWorths (Fs.kit_mro (b := false) u_InvalidWorths u_DoesNotFit y_DoesNotFit (by rfl)) (by decide)⟩ (Fs.all_cons ⟨c_NotACertificate, Fs.kit_at KX e_NotACertificate (Fs.kit_mro (b := false) u_NotACertificate u_DoesNotFit y_DoesNotFit (by rfl)) (by decide)⟩ (Fs.all_cons ⟨c_PoolError, Fs.kit_at KX e_PoolError (Fs.kit_mro (b := false) u_PoolError u_DoesNotFit y_DoesNotFit (by rfl)) (by decide)⟩ (Fs.all_cons ⟨c_Refused, Fs.kit_at KX e_Refused (Fs.kit_mro (b := false) u_Refused u_DoesNotFit y_DoesNotFit (by rfl)) (by decide)⟩ (Fs.all_cons ⟨c_ServerDown, Fs.kit_at KX e_ServerDown (Fs.kit_mro (b := false) u_ServerDown u_DoesNotFit y_DoesNotFit (by rfl)) (by decide)⟩ (Fs.all_cons ⟨c_ServerUp, Fs.kit_at KX e_ServerUp (Fs.kit_mro (b := false) u_ServerUp u_DoesNotFit y_DoesNotFit (by rfl)) (by decide)⟩ Fs.all_nil))))))))))))))))))
    have i_Full := Fs.isx_ref (names := ["DoesNotFit", "Full", "InvalidClaim", "InvalidClaims", "InvalidKind", "InvalidMark", "InvalidNumber", "InvalidPool", "InvalidSeating", "InvalidServer", "InvalidTicket", "InvalidTime", "InvalidWorths", "NotACertificate", "PoolError", "Refused", "ServerDown", "ServerUp"]) (sub := (fun c => c == ("Full" : PySem.Str))) KX e_Full (Fs.all_cons ⟨c_DoesNotFit, Fs.kit_at KX e_DoesNotFit (Fs.kit_mro (b := false) u_DoesNotFit u_Full y_Full (by rfl)) (by decide)⟩ (Fs.all_cons ⟨c_Full, Fs.kit_at KX e_Full (Fs.kit_mro (b := true) u_Full u_Full y_Full (by rfl)) (by decide)⟩ (Fs.all_cons ⟨c_InvalidClaim, Fs.kit_at KX e_InvalidClaim (Fs.kit_mro (b := false) u_InvalidClaim u_Full y_Full (by rfl)) (by decide)⟩ (Fs.all_cons ⟨c_InvalidClaims, Fs.kit_at KX e_InvalidClaims (Fs.kit_mro (b := false) u_InvalidClaims u_Full y_Full (by rfl)) (by decide)⟩ (Fs.all_cons ⟨c_InvalidKind, Fs.kit_at KX e_InvalidKind (Fs.kit_mro (b := false) u_InvalidKind u_Full y_Full (by rfl)) (by decide)⟩ (Fs.all_cons ⟨c_InvalidMark, Fs.kit_at KX e_InvalidMark (Fs.kit_mro (b := false) u_InvalidMark u_Full y_Full (by rfl)) (by decide)⟩ (Fs.all_cons ⟨c_InvalidNumber, Fs.kit_at KX e_InvalidNumber (Fs.kit_mro (b := false) u_InvalidNumber u_Full y_Full (by rfl)) (by decide)⟩ (Fs.all_cons ⟨c_InvalidPool, Fs.kit_at KX e_InvalidPool (Fs.kit_mro (b := false) u_InvalidPool u_Full y_Full (by rfl)) (by decide)⟩ (Fs.all_cons ⟨c_InvalidSeating, Fs.kit_at KX e_InvalidSeating (Fs.kit_mro (b := false) u_InvalidSeating u_Full y_Full (by rfl)) (by decide)⟩ (Fs.all_cons ⟨c_InvalidServer, Fs.kit_at KX e_InvalidServer (Fs.kit_mro (b := false) u_InvalidServer u_Full y_Full (by rfl)) (by decide)⟩ (Fs.all_cons ⟨c_InvalidTicket, Fs.kit_at KX e_InvalidTicket (Fs.kit_mro (b := false) u_InvalidTicket u_Full y_Full (by rfl)) (by decide)⟩ (Fs.all_cons ⟨c_InvalidTime, Fs.kit_at KX e_InvalidTime (Fs.kit_mro (b := false) u_InvalidTime u_Full y_Full (by rfl)) (by decide)⟩ (Fs.all_cons ⟨c_InvalidWorths, Fs.kit_at KX e_InvalidWorths (Fs.kit_mro (b := false) u_InvalidWorths u_Full y_Full (by rfl)) (by decide)⟩ (Fs.all_cons ⟨c_NotACertificate, Fs.kit_at KX e_NotACertificate (Fs.kit_mro (b := false) u_NotACertificate u_Full y_Full (by rfl)) (by decide)⟩ (Fs.all_cons ⟨c_PoolError, Fs.kit_at KX e_PoolError (Fs.kit_mro (b := false) u_PoolError u_Full y_Full (by rfl)) (by decide)⟩ (Fs.all_cons ⟨c_Refused, Fs.kit_at KX e_Refused (Fs.kit_mro (b := false) u_Refused u_Full y_Full (by rfl)) (by decide)⟩ (Fs.all_cons ⟨c_ServerDown, Fs.kit_at KX e_ServerDown (Fs.kit_mro (b := false) u_ServerDown u_Full y_Full (by rfl)) (by decide)⟩ (Fs.all_cons ⟨c_ServerUp, Fs.kit_at KX e_ServerUp (Fs.kit_mro (b := false) u_ServerUp u_Full y_Full (by rfl)) (by decide)⟩ Fs.all_nil))))))))))))))))))
    have i_InvalidClaim := Fs.isx_ref (names := ["DoesNotFit", "Full", "InvalidClaim", "InvalidClaims", "InvalidKind", "InvalidMark", "InvalidNumber", "InvalidPool", "InvalidSeating", "InvalidServer", "InvalidTicket", "InvalidTime", "InvalidWorths", "NotACertificate", "PoolError", "Refused", "ServerDown", "ServerUp"]) (sub := (fun c => c == ("InvalidClaim" : PySem.Str))) KX e_InvalidClaim (Fs.all_cons ⟨c_DoesNotFit, Fs.kit_at KX e_DoesNotFit (Fs.kit_mro (b := false) u_DoesNotFit u_InvalidClaim y_InvalidClaim (by rfl)) (by decide)⟩ (Fs.all_cons ⟨c_Full, Fs.kit_at KX e_Full (Fs.kit_mro (b := false) u_Full u_InvalidClaim y_InvalidClaim (by rfl)) (by decide)⟩ (Fs.all_cons ⟨c_InvalidClaim, Fs.kit_at KX e_InvalidClaim (Fs.kit_mro (b := true) u_InvalidClaim u_InvalidClaim y_InvalidClaim (by rfl)) (by decide)⟩ (Fs.all_cons ⟨c_InvalidClaims, Fs.kit_at KX e_InvalidClaims (Fs.kit_mro (b := false) u_InvalidClaims u_InvalidClaim y_InvalidClaim (by rfl)) (by decide)⟩ (Fs.all_cons ⟨c_InvalidKind, Fs.kit_at KX e_InvalidKind (Fs.kit_mro (b := false) u_InvalidKind u_InvalidClaim y_InvalidClaim (by rfl)) (by decide)⟩ (Fs.all_cons ⟨c_InvalidMark, Fs.kit_at KX e_InvalidMark (Fs.kit_mro (b := false) u_InvalidMark u_InvalidClaim y_InvalidClaim (by rfl)) (by decide)⟩ (Fs.all_cons ⟨c_InvalidNumber, Fs.kit_at KX e_InvalidNumber (Fs.kit_mro (b := false) u_InvalidNumber u_InvalidClaim y_InvalidClaim (by rfl)) (by decide)⟩ (Fs.all_cons ⟨c_InvalidPool, Fs.kit_at KX e_InvalidPool (Fs.kit_mro (b := false) u_InvalidPool u_InvalidClaim y_InvalidClaim (by rfl)) (by decide)⟩ (Fs.all_cons ⟨c_InvalidSeating, Fs.kit_at KX e_InvalidSeating (Fs.kit_mro (b := false) u_InvalidSeating u_InvalidClaim y_InvalidClaim (by rfl)) (by decide)⟩ (Fs.all_cons ⟨c_InvalidServer, Fs.kit_at KX e_InvalidServer (Fs.kit_mro (b := false) u_InvalidServer u_InvalidClaim y_InvalidClaim (by rfl)) (by decide)⟩ (Fs.all_cons ⟨c_InvalidTicket, Fs.kit_at KX e_InvalidTicket (Fs.kit_mro (b := false) u_InvalidTicket u_InvalidClaim y_InvalidClaim (by rfl)) (by decide)⟩ (Fs.all_cons ⟨c_InvalidTime, Fs.kit_at KX e_InvalidTime (Fs.kit_mro (b := false) u_InvalidTime u_InvalidClaim y_InvalidClaim (by rfl)) (by decide)⟩ (Fs.all_cons ⟨c_InvalidWorths, Fs.kit_at KX e_InvalidWorths (Fs.kit_mro (b := false) u_InvalidWorths u_InvalidClaim y_InvalidClaim (by rfl)) (by decide)⟩ (Fs.all_cons ⟨c_NotACertificate, Fs.kit_at KX e_NotACertificate (Fs.kit_mro (b := false) u_NotACertificate u_InvalidClaim y_InvalidClaim (by rfl)) (by decide)⟩ (Fs.all_cons ⟨c_PoolError, Fs.kit_at KX e_PoolError (Fs.kit_mro (b := false) u_PoolError u_InvalidClaim y_InvalidClaim (by rfl)) (by decide)⟩ (Fs.all_cons ⟨c_Refused, Fs.kit_at KX e_Refused (Fs.kit_mro (b := false) u_Refused u_InvalidClaim y_InvalidClaim (by rfl)) (by decide)⟩ (Fs.all_cons ⟨c_ServerDown, Fs.kit_at KX e_ServerDown (Fs.kit_mro (b := false) u_ServerDown u_InvalidClaim y_InvalidClaim (by rfl)) (by decide)⟩ (Fs.all_cons ⟨c_ServerUp, Fs.kit_at KX e_ServerUp (Fs.kit_mro (b := false) u_ServerUp u_InvalidClaim y_InvalidClaim (by rfl)) (by decide)⟩ Fs.all_nil))))))))))))))))))
    have i_InvalidClaims := Fs.isx_ref (names := ["DoesNotFit", "Full", "InvalidClaim", "InvalidClaims", "InvalidKind", "InvalidMark", "InvalidNumber", "InvalidPool", "InvalidSeating", "InvalidServer", "InvalidTicket", "InvalidTime", "InvalidWorths", "NotACertificate", "PoolError", "Refused", "ServerDown", "ServerUp"]) (sub := (fun c => c == ("InvalidClaims" : PySem.Str))) KX e_InvalidClaims (Fs.all_cons ⟨c_DoesNotFit, Fs.kit_at KX e_DoesNotFit (Fs.kit_mro (b := false) u_DoesNotFit u_InvalidClaims y_InvalidClaims (by rfl)) (by decide)⟩ (Fs.all_cons ⟨c_Full, Fs.kit_at KX e_Full (Fs.kit_mro (b := false) u_Full u_InvalidClaims y_InvalidClaims (by rfl)) (by decide)⟩ (Fs.all_cons ⟨c_InvalidClaim, Fs.kit_at KX e_InvalidClaim (Fs.kit_mro (b := false) u_InvalidClaim u_InvalidClaims y_InvalidClaims (by rfl)) (by decide)⟩ (Fs.all_cons ⟨c_InvalidClaims, Fs.kit_at KX e_InvalidClaims (Fs.kit_mro (b := true) u_InvalidClaims u_InvalidClaims y_InvalidClaims (by rfl)) (by decide)⟩ (Fs.all_cons ⟨c_InvalidKind, Fs.kit_at KX e_InvalidKind (Fs.kit_mro (b := false) u_InvalidKind u_InvalidClaims y_InvalidClaims (by rfl)) (by decide)⟩ (Fs.all_cons ⟨c_InvalidMark, Fs.kit_at KX e_InvalidMark (Fs.kit_mro (b := false) u_InvalidMark u_InvalidClaims y_InvalidClaims (by rfl)) (by decide)⟩ (Fs.all_cons ⟨c_InvalidNumber, Fs.kit_at KX e_InvalidNumber (Fs.kit_mro (b := false) u_InvalidNumber u_InvalidClaims y_InvalidClaims (by rfl)) (by decide)⟩ (Fs.all_cons ⟨c_InvalidPool, Fs.kit_at KX e_InvalidPool (Fs.kit_mro (b := false) u_InvalidPool u_InvalidClaims y_InvalidClaims (by rfl)) (by decide)⟩ (Fs.all_cons ⟨c_InvalidSeating, Fs.kit_at KX e_InvalidSeating (Fs.kit_mro (b := false) u_InvalidSeating u_InvalidClaims y_InvalidClaims (by rfl)) (by decide)⟩ (Fs.all_cons ⟨c_InvalidServer, Fs.kit_at KX e_InvalidServer (Fs.kit_mro (b := false) u_InvalidServer u_InvalidClaims y_InvalidClaims (by rfl)) (by decide)⟩ (Fs.all_cons ⟨c_InvalidTicket, Fs.kit_at KX e_InvalidTicket (Fs.kit_mro (b := false) u_InvalidTicket u_InvalidClaims y_InvalidClaims (by rfl)) (by decide)⟩ (Fs.all_cons ⟨c_InvalidTime, Fs.kit_at KX e_InvalidTime (Fs.kit_mro (b := false) u_InvalidTime u_InvalidClaims y_InvalidClaims (by rfl)) (by decide)⟩ (Fs.all_cons ⟨c_InvalidWorths, Fs.kit_at KX e_InvalidWorths (Fs.kit_mro (b := false) u_InvalidWorths u_InvalidClaims y_InvalidClaims (by rfl)) (by decide)⟩ (Fs.all_cons ⟨c_NotACertificate, Fs.kit_at KX e_NotACertificate (Fs.kit_mro (b := false) u_NotACertificate u_InvalidClaims y_InvalidClaims (by rfl)) (by decide)⟩ (Fs.all_cons ⟨c_PoolError, Fs.kit_at KX e_PoolError (Fs.kit_mro (b := false) u_PoolError u_InvalidClaims y_InvalidClaims (by rfl)) (by decide)⟩ (Fs.all_cons ⟨c_Refused, Fs.kit_at KX e_Refused (Fs.kit_mro (b := false) u_Refused u_InvalidClaims y_InvalidClaims (by rfl)) (by decide)⟩ (Fs.all_cons ⟨c_ServerDown, Fs.kit_at KX e_ServerDown (Fs.kit_mro (b := false) u_ServerDown u_InvalidClaims y_InvalidClaims (by rfl)) (by decide)⟩ (Fs.all_cons ⟨c_ServerUp, Fs.kit_at KX e_ServerUp (Fs.kit_mro (b := false) u_ServerUp u_InvalidClaims y_InvalidClaims (by rfl)) (by decide)⟩ Fs.all_nil))))))))))))))))))
    have i_InvalidKind := Fs.isx_ref (names := ["DoesNotFit", "Full", "InvalidClaim", "InvalidClaims", "InvalidKind", "InvalidMark", "InvalidNumber", "InvalidPool", "InvalidSeating", "InvalidServer", "InvalidTicket", "InvalidTime", "InvalidWorths", "NotACertificate", "PoolError", "Refused", "ServerDown", "ServerUp"]) (sub := (fun c => c == ("InvalidKind" : PySem.Str))) KX e_InvalidKind (Fs.all_cons ⟨c_DoesNotFit, Fs.kit_at KX e_DoesNotFit (Fs.kit_mro (b := false) u_DoesNotFit u_InvalidKind y_InvalidKind (by rfl)) (by decide)⟩ (Fs.all_cons ⟨c_Full, Fs.kit_at KX e_Full (Fs.kit_mro (b := false) u_Full u_InvalidKind y_InvalidKind (by rfl)) (by decide)⟩ (Fs.all_cons ⟨c_InvalidClaim, Fs.kit_at KX e_InvalidClaim (Fs.kit_mro (b := false) u_InvalidClaim u_InvalidKind y_InvalidKind (by rfl)) (by decide)⟩ (Fs.all_cons ⟨c_InvalidClaims, Fs.kit_at KX e_InvalidClaims (Fs.kit_mro (b := false) u_InvalidClaims u_InvalidKind y_InvalidKind (by rfl)) (by decide)⟩ (Fs.all_cons ⟨c_InvalidKind, Fs.kit_at KX e_InvalidKind (Fs.kit_mro (b := true) u_InvalidKind u_InvalidKind y_InvalidKind (by rfl)) (by decide)⟩ (Fs.all_cons ⟨c_InvalidMark, Fs.kit_at KX e_InvalidMark (Fs.kit_mro (b := false) u_InvalidMark u_InvalidKind y_InvalidKind (by rfl)) (by decide)⟩ (Fs.all_cons ⟨c_InvalidNumber, Fs.kit_at KX e_InvalidNumber (Fs.kit_mro (b := false) u_InvalidNumber u_InvalidKind y_InvalidKind (by rfl)) (by decide)⟩ (Fs.all_cons ⟨c_InvalidPool, Fs.kit_at KX e_InvalidPool (Fs.kit_mro (b := false) u_InvalidPool u_InvalidKind y_InvalidKind (by rfl)) (by decide)⟩ (Fs.all_cons ⟨c_InvalidSeating, Fs.kit_at KX e_InvalidSeating (Fs.kit_mro (b := false) u_InvalidSeating u_InvalidKind y_InvalidKind (by rfl)) (by decide)⟩ (Fs.all_cons ⟨c_InvalidServer, Fs.kit_at KX e_InvalidServer (Fs.kit_mro (b := false) u_InvalidServer u_InvalidKind y_InvalidKind (by rfl)) (by decide)⟩ (Fs.all_cons ⟨c_InvalidTicket, Fs.kit_at KX e_InvalidTicket (Fs.kit_mro (b := false) u_InvalidTicket u_InvalidKind y_InvalidKind (by rfl)) (by decide)⟩ (Fs.all_cons ⟨c_InvalidTime, Fs.kit_at KX e_InvalidTime (Fs.kit_mro (b := false) u_InvalidTime u_InvalidKind y_InvalidKind (by rfl)) (by decide)⟩ (Fs.all_cons ⟨c_InvalidWorths, Fs.kit_at KX e_InvalidWorths (Fs.kit_mro (b := false) u_InvalidWorths u_InvalidKind y_InvalidKind (by rfl)) (by decide)⟩ (Fs.all_cons ⟨c_NotACertificate, Fs.kit_at KX e_NotACertificate (Fs.kit_mro (b := false) u_NotACertificate u_InvalidKind y_InvalidKind (by rfl)) (by decide)⟩ (Fs.all_cons ⟨c_PoolError, Fs.kit_at KX e_PoolError (Fs.kit_mro (b := false) u_PoolError u_InvalidKind y_InvalidKind (by rfl)) (by decide)⟩ (Fs.all_cons ⟨c_Refused, Fs.kit_at KX e_Refused (Fs.kit_mro (b := false) u_Refused u_InvalidKind y_InvalidKind (by rfl)) (by decide)⟩ (Fs.all_cons ⟨c_ServerDown, Fs.kit_at KX e_ServerDown (Fs.kit_mro (b := false) u_ServerDown u_InvalidKind y_InvalidKind (by rfl)) (by decide)⟩ (Fs.all_cons ⟨c_ServerUp, Fs.kit_at KX e_ServerUp (Fs.kit_mro (b := false) u_ServerUp u_InvalidKind y_InvalidKind (by rfl)) (by decide)⟩ Fs.all_nil))))))))))))))))))
    have i_InvalidMark := Fs.isx_ref (names := ["DoesNotFit", "Full", "InvalidClaim", "InvalidClaims", "InvalidKind", "InvalidMark", "InvalidNumber", "InvalidPool", "InvalidSeating", "InvalidServer", "InvalidTicket", "InvalidTime", "InvalidWorths", "NotACertificate", "PoolError", "Refused", "ServerDown", "ServerUp"]) (sub := (fun c => c == ("InvalidMark" : PySem.Str))) KX e_InvalidMark (Fs.all_cons ⟨c_DoesNotFit, Fs.kit_at KX e_DoesNotFit (Fs.kit_mro (b := false) u_DoesNotFit u_InvalidMark y_InvalidMark (by rfl)) (by decide)⟩ (Fs.all_cons ⟨c_Full, Fs.kit_at KX e_Full (Fs.kit_mro (b := false) u_Full u_InvalidMark y_InvalidMark (by rfl)) (by decide)⟩ (Fs.all_cons ⟨c_InvalidClaim, Fs.kit_at KX e_InvalidClaim (Fs.kit_mro (b := false) u_InvalidClaim u_InvalidMark y_InvalidMark (by rfl)) (by decide)⟩ (Fs.all_cons ⟨c_InvalidClaims, Fs.kit_at KX e_InvalidClaims (Fs.kit_mro (b := false) u_InvalidClaims u_InvalidMark y_InvalidMark (by rfl)) (by decide)⟩ (Fs.all_cons ⟨c_InvalidKind, Fs.kit_at KX e_InvalidKind (Fs.kit_mro (b := false) u_InvalidKind u_InvalidMark y_InvalidMark (by rfl)) (by decide)⟩ (Fs.all_cons ⟨c_InvalidMark, Fs.kit_at KX e_InvalidMark (Fs.kit_mro (b := true) u_InvalidMark u_InvalidMark y_InvalidMark (by rfl)) (by decide)⟩ (Fs.all_cons ⟨c_InvalidNumber, Fs.kit_at KX e_InvalidNumber (Fs.kit_mro (b := false) u_InvalidNumber u_InvalidMark y_InvalidMark (by rfl)) (by decide)⟩ (Fs.all_cons ⟨c_InvalidPool, Fs.kit_at KX e_InvalidPool (Fs.kit_mro (b := false) u_InvalidPool u_InvalidMark y_InvalidMark (by rfl)) (by decide)⟩ (Fs.all_cons ⟨c_InvalidSeating, Fs.kit_at KX e_InvalidSeating (Fs.kit_mro (b := false) u_InvalidSeating u_InvalidMark y_InvalidMark (by rfl)) (by decide)⟩ (Fs.all_cons ⟨c_InvalidServer, Fs.kit_at KX e_InvalidServer (Fs.kit_mro (b := false) u_InvalidServer u_InvalidMark y_InvalidMark (by rfl)) (by decide)⟩ (Fs.all_cons ⟨c_InvalidTicket, Fs.kit_at KX e_InvalidTicket (Fs.kit_mro (b := false) u_InvalidTicket u_InvalidMark y_InvalidMark (by rfl)) (by decide)⟩ (Fs.all_cons ⟨c_InvalidTime, Fs.kit_at KX e_InvalidTime (Fs.kit_mro (b := false) u_InvalidTime u_InvalidMark y_InvalidMark (by rfl)) (by decide)⟩ (Fs.all_cons ⟨c_InvalidWorths, Fs.kit_at KX e_InvalidWorths (Fs.kit_mro (b := false) u_InvalidWorths u_InvalidMark y_InvalidMark (by rfl)) (by decide)⟩ (Fs.all_cons ⟨c_NotACertificate, Fs.kit_at KX e_NotACertificate (Fs.kit_mro (b := false) u_NotACertificate u_InvalidMark y_InvalidMark (by rfl)) (by decide)⟩ (Fs.all_cons ⟨c_PoolError, Fs.kit_at KX e_PoolError (Fs.kit_mro (b := false) u_PoolError u_InvalidMark y_InvalidMark (by rfl)) (by decide)⟩ (Fs.all_cons ⟨c_Refused, Fs.kit_at KX e_Refused (Fs.kit_mro (b := false) u_Refused u_InvalidMark y_InvalidMark (by rfl)) (by decide)⟩ (Fs.all_cons ⟨c_ServerDown, Fs.kit_at KX e_ServerDown (Fs.kit_mro (b := false) u_ServerDown u_InvalidMark y_InvalidMark (by rfl)) (by decide)⟩ (Fs.all_cons ⟨c_ServerUp, Fs.kit_at KX e_ServerUp (Fs.kit_mro (b := false) u_ServerUp u_InvalidMark y_InvalidMark (by rfl)) (by decide)⟩ Fs.all_nil))))))))))))))))))
    have i_InvalidNumber := Fs.isx_ref (names := ["DoesNotFit", "Full", "InvalidClaim", "InvalidClaims", "InvalidKind", "InvalidMark", "InvalidNumber", "InvalidPool", "InvalidSeating", "InvalidServer", "InvalidTicket", "InvalidTime", "InvalidWorths", "NotACertificate", "PoolError", "Refused", "ServerDown", "ServerUp"]) (sub := (fun c => c == ("InvalidNumber" : PySem.Str))) KX e_InvalidNumber (Fs.all_cons ⟨c_DoesNotFit, Fs.kit_at KX e_DoesNotFit (Fs.kit_mro (b := false) u_DoesNotFit u_InvalidNumber y_InvalidNumber (by rfl)) (by decide)⟩ (Fs.all_cons ⟨c_Full, Fs.kit_at KX e_Full (Fs.kit_mro (b := false) u_Full u_InvalidNumber y_InvalidNumber (by rfl)) (by decide)⟩ (Fs.all_cons ⟨c_InvalidClaim, Fs.kit_at KX e_InvalidClaim (Fs.kit_mro (b := false) u_InvalidClaim u_InvalidNumber y_InvalidNumber (by rfl)) (by decide)⟩ (Fs.all_cons ⟨c_InvalidClaims, Fs.kit_at KX e_InvalidClaims (Fs.kit_mro (b := false) u_InvalidClaims u_InvalidNumber y_InvalidNumber (by rfl)) (by decide)⟩ (Fs.all_cons ⟨c_InvalidKind, Fs.kit_at KX e_InvalidKind (Fs.kit_mro (b := false) u_InvalidKind u_InvalidNumber y_InvalidNumber (by rfl)) (by decide)⟩ (Fs.all_cons ⟨c_InvalidMark, Fs.kit_at KX e_InvalidMark (Fs.kit_mro (b := false) u_InvalidMark u_InvalidNumber y_InvalidNumber (by rfl)) (by decide)⟩ (Fs.all_cons ⟨c_InvalidNumber, Fs.kit_at KX e_InvalidNumber (Fs.kit_mro (b := true) u_InvalidNumber u_InvalidNumber y_InvalidNumber (by rfl)) (by decide)⟩ (Fs.all_cons ⟨c_InvalidPool, Fs.kit_at KX e_InvalidPool (Fs.kit_mro (b := false) u_InvalidPool u_InvalidNumber y_InvalidNumber (by rfl)) (by decide)⟩ (Fs.all_cons ⟨c_InvalidSeating, Fs.kit_at KX e_InvalidSeating (Fs.kit_mro (b := false) u_InvalidSeating u_InvalidNumber y_InvalidNumber (by rfl)) (by decide)⟩ (Fs.all_cons ⟨c_InvalidServer, Fs.kit_at KX e_InvalidServer (Fs.kit_mro (b := false) u_InvalidServer u_InvalidNumber y_InvalidNumber (by rfl)) (by decide)⟩ (Fs.all_cons ⟨c_InvalidTicket, Fs.kit_at KX e_InvalidTicket (Fs.kit_mro (b := false) u_InvalidTicket u_InvalidNumber y_InvalidNumber (by rfl)) (by decide)⟩ (Fs.all_cons ⟨c_InvalidTime, Fs.kit_at KX e_InvalidTime (Fs.kit_mro (b := false) u_InvalidTime u_InvalidNumber y_InvalidNumber (by rfl)) (by decide)⟩ (Fs.all_cons ⟨c_InvalidWorths, Fs.kit_at KX e_InvalidWorths (Fs.kit_mro (b := false) u_InvalidWorths u_InvalidNumber y_InvalidNumber (by rfl)) (by decide)⟩ (Fs.all_cons ⟨c_NotACertificate, Fs.kit_at KX e_NotACertificate (Fs.kit_mro (b := false) u_NotACertificate u_InvalidNumber y_InvalidNumber (by rfl)) (by decide)⟩ (Fs.all_cons ⟨c_PoolError, Fs.kit_at KX e_PoolError (Fs.kit_mro (b := false) u_PoolError u_InvalidNumber y_InvalidNumber (by rfl)) (by decide)⟩ (Fs.all_cons ⟨c_Refused, Fs.kit_at KX e_Refused (Fs.kit_mro (b := false) u_Refused u_InvalidNumber y_InvalidNumber (by rfl)) (by decide)⟩ (Fs.all_cons ⟨c_ServerDown, Fs.kit_at KX e_ServerDown (Fs.kit_mro (b := false) u_ServerDown u_InvalidNumber y_InvalidNumber (by rfl)) (by decide)⟩ (Fs.all_cons ⟨c_ServerUp, Fs.kit_at KX e_ServerUp (Fs.kit_mro (b := false) u_ServerUp u_InvalidNumber y_InvalidNumber (by rfl)) (by decide)⟩ Fs.all_nil))))))))))))))))))
    have i_InvalidPool := Fs.isx_ref (names := ["DoesNotFit", "Full", "InvalidClaim", "InvalidClaims", "InvalidKind", "InvalidMark", "InvalidNumber", "InvalidPool", "InvalidSeating", "InvalidServer", "InvalidTicket", "InvalidTime", "InvalidWorths", "NotACertificate", "PoolError", "Refused", "ServerDown", "ServerUp"]) (sub := (fun c => c == ("InvalidPool" : PySem.Str))) KX e_InvalidPool (Fs.all_cons ⟨c_DoesNotFit, Fs.kit_at KX e_DoesNotFit (Fs.kit_mro (b := false) u_DoesNotFit u_InvalidPool y_InvalidPool (by rfl)) (by decide)⟩ (Fs.all_cons ⟨c_Full, Fs.kit_at KX e_Full (Fs.kit_mro (b := false) u_Full u_InvalidPool y_InvalidPool (by rfl)) (by decide)⟩ (Fs.all_cons ⟨c_InvalidClaim, Fs.kit_at KX e_InvalidClaim (Fs.kit_mro (b := false) u_InvalidClaim u_InvalidPool y_InvalidPool (by rfl)) (by decide)⟩ (Fs.all_cons ⟨c_InvalidClaims, Fs.kit_at KX e_InvalidClaims (Fs.kit_mro (b := false) u_InvalidClaims u_InvalidPool y_InvalidPool (by rfl)) (by decide)⟩ (Fs.all_cons ⟨c_InvalidKind, Fs.kit_at KX e_InvalidKind (Fs.kit_mro (b := false) u_InvalidKind u_InvalidPool y_InvalidPool (by rfl)) (by decide)⟩ (Fs.all_cons ⟨c_InvalidMark, Fs.kit_at KX e_InvalidMark (Fs.kit_mro (b := false) u_InvalidMark u_InvalidPool y_InvalidPool (by rfl)) (by decide)⟩ (Fs.all_cons ⟨c_InvalidNumber, Fs.kit_at KX e_InvalidNumber (Fs.kit_mro (b := false) u_InvalidNumber u_InvalidPool y_InvalidPool (by rfl)) (by decide)⟩ (Fs.all_cons ⟨c_InvalidPool, Fs.kit_at KX e_InvalidPool (Fs.kit_mro (b := true) u_InvalidPool u_InvalidPool y_InvalidPool (by rfl)) (by decide)⟩ (Fs.all_cons ⟨c_InvalidSeating, Fs.kit_at KX e_InvalidSeating (Fs.kit_mro (b := false) u_InvalidSeating u_InvalidPool y_InvalidPool (by rfl)) (by decide)⟩ (Fs.all_cons ⟨c_InvalidServer, Fs.kit_at KX e_InvalidServer (Fs.kit_mro (b := false) u_InvalidServer u_InvalidPool y_InvalidPool (by rfl)) (by decide)⟩ (Fs.all_cons ⟨c_InvalidTicket, Fs.kit_at KX e_InvalidTicket (Fs.kit_mro (b := false) u_InvalidTicket u_InvalidPool y_InvalidPool (by rfl)) (by decide)⟩ (Fs.all_cons ⟨c_InvalidTime, Fs.kit_at KX e_InvalidTime (Fs.kit_mro (b := false) u_InvalidTime u_InvalidPool y_InvalidPool (by rfl)) (by decide)⟩ (Fs.all_cons ⟨c_InvalidWorths, Fs.kit_at KX e_InvalidWorths (Fs.kit_mro (b := false) u_InvalidWorths u_InvalidPool y_InvalidPool (by rfl)) (by decide)⟩ (Fs.all_cons ⟨c_NotACertificate, Fs.kit_at KX e_NotACertificate (Fs.kit_mro (b := false) u_NotACertificate u_InvalidPool y_InvalidPool (by rfl)) (by decide)⟩ (Fs.all_cons ⟨c_PoolError, Fs.kit_at KX e_PoolError (Fs.kit_mro (b := false) u_PoolError u_InvalidPool y_InvalidPool (by rfl)) (by decide)⟩ (Fs.all_cons ⟨c_Refused, Fs.kit_at KX e_Refused (Fs.kit_mro (b := false) u_Refused u_InvalidPool y_InvalidPool (by rfl)) (by decide)⟩ (Fs.all_cons ⟨c_ServerDown, Fs.kit_at KX e_ServerDown (Fs.kit_mro (b := false) u_ServerDown u_InvalidPool y_InvalidPool (by rfl)) (by decide)⟩ (Fs.all_cons ⟨c_ServerUp, Fs.kit_at KX e_ServerUp (Fs.kit_mro (b := false) u_ServerUp u_InvalidPool y_InvalidPool (by rfl)) (by decide)⟩ Fs.all_nil))))))))))))))))))
    have i_InvalidSeating := Fs.isx_ref (names := ["DoesNotFit", "Full", "InvalidClaim", "InvalidClaims", "InvalidKind", "InvalidMark", "InvalidNumber", "InvalidPool", "InvalidSeating", "InvalidServer", "InvalidTicket", "InvalidTime", "InvalidWorths", "NotACertificate", "PoolError", "Refused", "ServerDown", "ServerUp"]) (sub := (fun c => c == ("InvalidSeating" : PySem.Str))) KX e_InvalidSeating (Fs.all_cons ⟨c_DoesNotFit, Fs.kit_at KX e_DoesNotFit (Fs.kit_mro (b := false) u_DoesNotFit u_InvalidSeating y_InvalidSeating (by rfl)) (by decide)⟩ (Fs.all_cons ⟨c_Full, Fs.kit_at KX e_Full (Fs.kit_mro (b := false) u_Full u_InvalidSeating y_InvalidSeating (by rfl)) (by decide)⟩ (Fs.all_cons ⟨c_InvalidClaim, Fs.kit_at KX e_InvalidClaim (Fs.kit_mro (b := false) u_InvalidClaim u_InvalidSeating y_InvalidSeating (by rfl)) (by decide)⟩ (Fs.all_cons ⟨c_InvalidClaims, Fs.kit_at KX e_InvalidClaims (Fs.kit_mro (b := false) u_InvalidClaims u_InvalidSeating y_InvalidSeating (by rfl)) (by decide)⟩ (Fs.all_cons ⟨c_InvalidKind, Fs.kit_at KX e_InvalidKind (Fs.kit_mro (b := false) u_InvalidKind u_InvalidSeating y_InvalidSeating (by rfl)) (by decide)⟩ (Fs.all_cons ⟨c_InvalidMark, Fs.kit_at KX e_InvalidMark (Fs.kit_mro (b := false) u_InvalidMark u_InvalidSeating y_InvalidSeating (by rfl)) (by decide)⟩ (Fs.all_cons ⟨c_InvalidNumber, Fs.kit_at KX e_InvalidNumber (Fs.kit_mro (b := false) u_InvalidNumber u_InvalidSeating y_InvalidSeating (by rfl)) (by decide)⟩ (Fs.all_cons ⟨c_InvalidPool, Fs.kit_at KX e_InvalidPool (Fs.kit_mro (b := false) u_InvalidPool u_InvalidSeating y_InvalidSeating (by rfl)) (by decide)⟩ (Fs.all_cons ⟨c_InvalidSeating, Fs.kit_at KX e_InvalidSeating (Fs.kit_mro (b := true) u_InvalidSeating u_InvalidSeating y_InvalidSeating (by rfl)) (by decide)⟩ (Fs.all_cons ⟨c_InvalidServer, Fs.kit_at KX e_InvalidServer (Fs.kit_mro (b := false) u_InvalidServer u_InvalidSeating y_InvalidSeating (by rfl)) (by decide)⟩ (Fs.all_cons ⟨c_InvalidTicket, Fs.kit_at KX e_InvalidTicket (Fs.kit_mro (b := false) u_InvalidTicket u_InvalidSeating y_InvalidSeating (by rfl)) (by decide)⟩ (Fs.all_cons ⟨c_InvalidTime, Fs.kit_at KX e_InvalidTime (Fs.kit_mro (b := false) u_InvalidTime u_InvalidSeating y_InvalidSeating (by rfl)) (by decide)⟩ (Fs.all_cons ⟨c_InvalidWorths, Fs.kit_at KX e_InvalidWorths (Fs.kit_mro (b := false) u_InvalidWorths u_InvalidSeating y_InvalidSeating (by rfl)) (by decide)⟩ (Fs.all_cons ⟨c_NotACertificate, Fs.kit_at KX e_NotACertificate (Fs.kit_mro (b := false) u_NotACertificate u_InvalidSeating y_InvalidSeating (by rfl)) (by decide)⟩ (Fs.all_cons ⟨c_PoolError, Fs.kit_at KX e_PoolError (Fs.kit_mro (b := false) u_PoolError u_InvalidSeating y_InvalidSeating (by rfl)) (by decide)⟩ (Fs.all_cons ⟨c_Refused, Fs.kit_at KX e_Refused (Fs.kit_mro (b := false) u_Refused u_InvalidSeating y_InvalidSeating (by rfl)) (by decide)⟩ (Fs.all_cons ⟨c_ServerDown, Fs.kit_at KX e_ServerDown (Fs.kit_mro (b := false) u_ServerDown u_InvalidSeating y_InvalidSeating (by rfl)) (by decide)⟩ (Fs.all_cons ⟨c_ServerUp, Fs.kit_at KX e_ServerUp (Fs.kit_mro (b := false) u_ServerUp u_InvalidSeating y_InvalidSeating (by rfl)) (by decide)⟩ Fs.all_nil))))))))))))))))))
    have i_InvalidServer := Fs.isx_ref (names := ["DoesNotFit", "Full", "InvalidClaim", "InvalidClaims", "InvalidKind", "InvalidMark", "InvalidNumber", "InvalidPool", "InvalidSeating", "InvalidServer", "InvalidTicket", "InvalidTime", "InvalidWorths", "NotACertificate", "PoolError", "Refused", "ServerDown", "ServerUp"]) (sub := (fun c => c == ("InvalidServer" : PySem.Str))) KX e_InvalidServer (Fs.all_cons ⟨c_DoesNotFit, Fs.kit_at KX e_DoesNotFit (Fs.kit_mro (b := false) u_DoesNotFit u_InvalidServer y_InvalidServer (by rfl)) (by decide)⟩ (Fs.all_cons ⟨c_Full, Fs.kit_at KX e_Full (Fs.kit_mro (b := false) u_Full u_InvalidServer y_InvalidServer (by rfl)) (by decide)⟩ (Fs.all_cons ⟨c_InvalidClaim, Fs.kit_at KX e_InvalidClaim (Fs.kit_mro (b := false) u_InvalidClaim u_InvalidServer y_InvalidServer (by rfl)) (by decide)⟩ (Fs.all_cons ⟨c_InvalidClaims, Fs.kit_at KX e_InvalidClaims (Fs.kit_mro (b := false) u_InvalidClaims u_InvalidServer y_InvalidServer (by rfl)) (by decide)⟩ (Fs.all_cons ⟨c_InvalidKind, Fs.kit_at KX e_InvalidKind (Fs.kit_mro (b := false) u_InvalidKind u_InvalidServer y_InvalidServer (by rfl)) (by decide)⟩ (Fs.all_cons ⟨c_InvalidMark, Fs.kit_at KX e_InvalidMark (Fs.kit_mro (b := false) u_InvalidMark u_InvalidServer y_InvalidServer (by rfl)) (by decide)⟩ (Fs.all_cons ⟨c_InvalidNumber, Fs.kit_at KX e_InvalidNumber (Fs.kit_mro (b := false) u_InvalidNumber u_InvalidServer y_InvalidServer (by rfl)) (by decide)⟩ (Fs.all_cons ⟨c_InvalidPool, Fs.kit_at KX e_InvalidPool (Fs.kit_mro (b := false) u_InvalidPool u_InvalidServer y_InvalidServer (by rfl)) (by decide)⟩ (Fs.all_cons ⟨c_InvalidSeating, Fs.kit_at KX e_InvalidSeating (Fs.kit_mro (b := false) u_InvalidSeating u_InvalidServer y_InvalidServer (by rfl)) (by decide)⟩ (Fs.all_cons ⟨c_InvalidServer, Fs.kit_at KX e_InvalidServer (Fs.kit_mro (b := true) u_InvalidServer u_InvalidServer y_InvalidServer (by rfl)) (by decide)⟩ (Fs.all_cons ⟨c_InvalidTicket, Fs.kit_at KX e_InvalidTicket (Fs.kit_mro (b := false) u_InvalidTicket u_InvalidServer y_InvalidServer (by rfl)) (by decide)⟩ (Fs.all_cons ⟨c_InvalidTime, Fs.kit_at KX e_InvalidTime (Fs.kit_mro (b := false) u_InvalidTime u_InvalidServer y_InvalidServer (by rfl)) (by decide)⟩ (Fs.all_cons ⟨c_InvalidWorths, Fs.kit_at KX e_InvalidWorths (Fs.kit_mro (b := false) u_InvalidWorths u_InvalidServer y_InvalidServer (by rfl)) (by decide)⟩ (Fs.all_cons ⟨c_NotACertificate, Fs.kit_at KX e_NotACertificate (Fs.kit_mro (b := false) u_NotACertificate u_InvalidServer y_InvalidServer (by rfl)) (by decide)⟩ (Fs.all_cons ⟨c_PoolError, Fs.kit_at KX e_PoolError (Fs.kit_mro (b := false) u_PoolError u_InvalidServer y_InvalidServer (by rfl)) (by decide)⟩ (Fs.all_cons ⟨c_Refused, Fs.kit_at KX e_Refused (Fs.kit_mro (b := false) u_Refused u_InvalidServer y_InvalidServer (by rfl)) (by decide)⟩ (Fs.all_cons ⟨c_ServerDown, Fs.kit_at KX e_ServerDown (Fs.kit_mro (b := false) u_ServerDown u_InvalidServer y_InvalidServer (by rfl)) (by decide)⟩ (Fs.all_cons ⟨c_ServerUp, Fs.kit_at KX e_ServerUp (Fs.kit_mro (b := false) u_ServerUp u_InvalidServer y_InvalidServer (by rfl)) (by decide)⟩ Fs.all_nil))))))))))))))))))
    have i_InvalidTicket := Fs.isx_ref (names := ["DoesNotFit", "Full", "InvalidClaim", "InvalidClaims", "InvalidKind", "InvalidMark", "InvalidNumber", "InvalidPool", "InvalidSeating", "InvalidServer", "InvalidTicket", "InvalidTime", "InvalidWorths", "NotACertificate", "PoolError", "Refused", "ServerDown", "ServerUp"]) (sub := (fun c => c == ("InvalidTicket" : PySem.Str))) KX e_InvalidTicket (Fs.all_cons ⟨c_DoesNotFit, Fs.kit_at KX e_DoesNotFit (Fs.kit_mro (b := false) u_DoesNotFit u_InvalidTicket y_InvalidTicket (by rfl)) (by decide)⟩ (Fs.all_cons ⟨c_Full, Fs.kit_at KX e_Full (Fs.kit_mro (b := false) u_Full u_InvalidTicket y_InvalidTicket (by rfl)) (by decide)⟩ (Fs.all_cons ⟨c_InvalidClaim, Fs.kit_at KX e_InvalidClaim (Fs.kit_mro (b := false) u_InvalidClaim u_InvalidTicket y_InvalidTicket (by rfl)) (by decide)⟩ (Fs.all_cons ⟨c_InvalidClaims, Fs.kit_at KX e_InvalidClaims (Fs.kit_mro (b := false) u_InvalidClaims u_InvalidTicket y_InvalidTicket (by rfl)) (by decide)⟩ (Fs.all_cons ⟨c_InvalidKind, Fs.kit_at KX e_InvalidKind (Fs.kit_mro (b := false) u_InvalidKind u_InvalidTicket y_InvalidTicket (by rfl)) (by decide)⟩ (Fs.all_cons ⟨c_InvalidMark, Fs.kit_at KX e_InvalidMark (Fs.kit_mro (b := false) u_InvalidMark u_InvalidTicket y_InvalidTicket (by rfl)) (by decide)⟩ (Fs.all_cons ⟨c_InvalidNumber, Fs.kit_at KX e_InvalidNumber (Fs.kit_mro (b := false) u_InvalidNumber u_InvalidTicket y_InvalidTicket (by rfl)) (by decide)⟩ (Fs.all_cons ⟨c_InvalidPool, Fs.kit_at KX e_InvalidPool (Fs.kit_mro (b := false) u_InvalidPool u_InvalidTicket y_InvalidTicket (by rfl)) (by decide)⟩ (Fs.all_cons ⟨c_InvalidSeating, Fs.kit_at KX e_InvalidSeating (Fs.kit_mro (b := false) u_InvalidSeating u_InvalidTicket y_InvalidTicket (by rfl)) (by decide)⟩ (Fs.all_cons ⟨c_InvalidServer, Fs.kit_at KX e_InvalidServer (Fs.kit_mro (b := false) u_InvalidServer u_InvalidTicket y_InvalidTicket (by rfl)) (by decide)⟩ (Fs.all_cons ⟨c_InvalidTicket, Fs.kit_at KX e_InvalidTicket (Fs.kit_mro (b := true) u_InvalidTicket u_InvalidTicket y_InvalidTicket (by rfl)) (by decide)⟩ (Fs.all_cons ⟨c_InvalidTime, Fs.kit_at KX e_InvalidTime (Fs.kit_mro (b := false) u_InvalidTime u_InvalidTicket y_InvalidTicket (by rfl)) (by decide)⟩ (Fs.all_cons ⟨c_InvalidWorths, Fs.kit_at KX e_InvalidWorths (Fs.kit_mro (b := false) u_InvalidWorths u_InvalidTicket y_InvalidTicket (by rfl)) (by decide)⟩ (Fs.all_cons ⟨c_NotACertificate, Fs.kit_at KX e_NotACertificate (Fs.kit_mro (b := false) u_NotACertificate u_InvalidTicket y_InvalidTicket (by rfl)) (by decide)⟩ (Fs.all_cons ⟨c_PoolError, Fs.kit_at KX e_PoolError (Fs.kit_mro (b := false) u_PoolError u_InvalidTicket y_InvalidTicket (by rfl)) (by decide)⟩ (Fs.all_cons ⟨c_Refused, Fs.kit_at KX e_Refused (Fs.kit_mro (b := false) u_Refused u_InvalidTicket y_InvalidTicket (by rfl)) (by decide)⟩ (Fs.all_cons ⟨c_ServerDown, Fs.kit_at KX e_ServerDown (Fs.kit_mro (b := false) u_ServerDown u_InvalidTicket y_InvalidTicket (by rfl)) (by decide)⟩ (Fs.all_cons ⟨c_ServerUp, Fs.kit_at KX e_ServerUp (Fs.kit_mro (b := false) u_ServerUp u_InvalidTicket y_InvalidTicket (by rfl)) (by decide)⟩ Fs.all_nil))))))))))))))))))
    have i_InvalidTime := Fs.isx_ref (names := ["DoesNotFit", "Full", "InvalidClaim", "InvalidClaims", "InvalidKind", "InvalidMark", "InvalidNumber", "InvalidPool", "InvalidSeating", "InvalidServer", "InvalidTicket", "InvalidTime", "InvalidWorths", "NotACertificate", "PoolError", "Refused", "ServerDown", "ServerUp"]) (sub := (fun c => c == ("InvalidTime" : PySem.Str))) KX e_InvalidTime (Fs.all_cons ⟨c_DoesNotFit, Fs.kit_at KX e_DoesNotFit (Fs.kit_mro (b := false) u_DoesNotFit u_InvalidTime y_InvalidTime (by rfl)) (by decide)⟩ (Fs.all_cons ⟨c_Full, Fs.kit_at KX e_Full (Fs.kit_mro (b := false) u_Full u_InvalidTime y_InvalidTime (by rfl)) (by decide)⟩ (Fs.all_cons ⟨c_InvalidClaim, Fs.kit_at KX e_InvalidClaim (Fs.kit_mro (b := false) u_InvalidClaim u_InvalidTime y_InvalidTime (by rfl)) (by decide)⟩ (Fs.all_cons ⟨c_InvalidClaims, Fs.kit_at KX e_InvalidClaims (Fs.kit_mro (b := false) u_InvalidClaims u_InvalidTime y_InvalidTime (by rfl)) (by decide)⟩ (Fs.all_cons ⟨c_InvalidKind, Fs.kit_at KX e_InvalidKind (Fs.kit_mro (b := false) u_InvalidKind u_InvalidTime y_InvalidTime (by rfl)) (by decide)⟩ (Fs.all_cons ⟨c_InvalidMark, Fs.kit_at KX e_InvalidMark (Fs.kit_mro (b := false) u_InvalidMark u_InvalidTime y_InvalidTime (by rfl)) (by decide)⟩ (Fs.all_cons ⟨c_InvalidNumber, Fs.kit_at KX e_InvalidNumber (Fs.kit_mro (b := false) u_InvalidNumber u_InvalidTime y_InvalidTime (by rfl)) (by decide)⟩ (Fs.all_cons ⟨c_InvalidPool, Fs.kit_at KX e_InvalidPool (Fs.kit_mro (b := false) u_InvalidPool u_InvalidTime y_InvalidTime (by rfl)) (by decide)⟩ (Fs.all_cons ⟨c_InvalidSeating, Fs.kit_at KX e_InvalidSeating (Fs.kit_mro (b := false) u_InvalidSeating u_InvalidTime y_InvalidTime (by rfl)) (by decide)⟩ (Fs.all_cons ⟨c_InvalidServer, Fs.kit_at KX e_InvalidServer (Fs.kit_mro (b := false) u_InvalidServer u_InvalidTime y_InvalidTime (by rfl)) (by decide)⟩ (Fs.all_cons ⟨c_InvalidTicket, Fs.kit_at KX e_InvalidTicket (Fs.kit_mro (b := false) u_InvalidTicket u_InvalidTime y_InvalidTime (by rfl)) (by decide)⟩ (Fs.all_cons ⟨c_InvalidTime, Fs.kit_at KX e_InvalidTime (Fs.kit_mro (b := true) u_InvalidTime u_InvalidTime y_InvalidTime (by rfl)) (by decide)⟩ (Fs.all_cons ⟨c_InvalidWorths, Fs.kit_at KX e_InvalidWorths (Fs.kit_mro (b := false) u_InvalidWorths u_InvalidTime y_InvalidTime (by rfl)) (by decide)⟩ (Fs.all_cons ⟨c_NotACertificate, Fs.kit_at KX e_NotACertificate (Fs.kit_mro (b := false) u_NotACertificate u_InvalidTime y_InvalidTime (by rfl)) (by decide)⟩ (Fs.all_cons ⟨c_PoolError, Fs.kit_at KX e_PoolError (Fs.kit_mro (b := false) u_PoolError u_InvalidTime y_InvalidTime (by rfl)) (by decide)⟩ (Fs.all_cons ⟨c_Refused, Fs.kit_at KX e_Refused (Fs.kit_mro (b := false) u_Refused u_InvalidTime y_InvalidTime (by rfl)) (by decide)⟩ (Fs.all_cons ⟨c_ServerDown, Fs.kit_at KX e_ServerDown (Fs.kit_mro (b := false) u_ServerDown u_InvalidTime y_InvalidTime (by rfl)) (by decide)⟩ (Fs.all_cons ⟨c_ServerUp, Fs.kit_at KX e_ServerUp (Fs.kit_mro (b := false) u_ServerUp u_InvalidTime y_InvalidTime (by rfl)) (by decide)⟩ Fs.all_nil))))))))))))))))))
    have i_InvalidWorths := Fs.isx_ref (names := ["DoesNotFit", "Full", "InvalidClaim", "InvalidClaims", "InvalidKind", "InvalidMark", "InvalidNumber", "InvalidPool", "InvalidSeating", "InvalidServer", "InvalidTicket", "InvalidTime", "InvalidWorths", "NotACertificate", "PoolError", "Refused", "ServerDown", "ServerUp"]) (sub := (fun c => c == ("InvalidWorths" : PySem.Str))) KX e_InvalidWorths (Fs.all_cons ⟨c_DoesNotFit, Fs.kit_at KX e_DoesNotFit (Fs.kit_mro (b := false) u_DoesNotFit u_InvalidWorths y_InvalidWorths (by rfl)) (by decide)⟩ (Fs.all_cons ⟨c_Full, Fs.kit_at KX e_Full (Fs.kit_mro (b := false) u_Full u_InvalidWorths y_InvalidWorths (by rfl)) (by decide)⟩ (Fs.all_cons ⟨c_InvalidClaim, Fs.kit_at KX e_InvalidClaim (Fs.kit_mro (b := false) u_InvalidClaim u_InvalidWorths y_InvalidWorths (by rfl)) (by decide)⟩ (Fs.all_cons ⟨c_InvalidClaims, Fs.kit_at KX e_InvalidClaims (Fs.kit_mro (b := false) u_InvalidClaims u_InvalidWorths y_InvalidWorths (by rfl)) (by decide)⟩ (Fs.all_cons ⟨c_InvalidKind, Fs.kit_at KX e_InvalidKind (Fs.kit_mro (b := false) u_InvalidKind u_InvalidWorths y_InvalidWorths (by rfl)) (by decide)⟩ (Fs.all_cons ⟨c_InvalidMark, Fs.kit_at KX e_InvalidMark (Fs.kit_mro (b := false) u_InvalidMark u_InvalidWorths y_InvalidWorths (by rfl)) (by decide)⟩ (Fs.all_cons ⟨c_InvalidNumber, Fs.kit_at KX e_InvalidNumber (Fs.kit_mro (b := false) u_InvalidNumber u_InvalidWorths y_InvalidWorths (by rfl)) (by decide)⟩ (Fs.all_cons ⟨c_InvalidPool, Fs.kit_at KX e_InvalidPool (Fs.kit_mro (b := false) u_InvalidPool u_InvalidWorths y_InvalidWorths (by rfl)) (by decide)⟩ (Fs.all_cons ⟨c_InvalidSeating, Fs.kit_at KX e_InvalidSeating (Fs.kit_mro (b := false) u_InvalidSeating u_InvalidWorths y_InvalidWorths (by rfl)) (by decide)⟩ (Fs.all_cons ⟨c_InvalidServer, Fs.kit_at KX e_InvalidServer (Fs.kit_mro (b := false) u_InvalidServer u_InvalidWorths y_InvalidWorths (by rfl)) (by decide)⟩ (Fs.all_cons ⟨c_InvalidTicket, Fs.kit_at KX e_InvalidTicket (Fs.kit_mro (b := false) u_InvalidTicket u_InvalidWorths y_InvalidWorths (by rfl)) (by decide)⟩ (Fs.all_cons ⟨c_InvalidTime, Fs.kit_at KX e_InvalidTime (Fs.kit_mro (b := false) u_InvalidTime u_InvalidWorths y_InvalidWorths (by rfl)) (by decide)⟩ (Fs.all_cons ⟨c_InvalidWorths, Fs.kit_at KX e_InvalidWorths (Fs.kit_mro (b := true) u_InvalidWorths u_InvalidWorths y_InvalidWorths (by rfl)) (by decide)⟩ (Fs.all_cons ⟨c_NotACertificate, Fs.kit_at KX e_NotACertificate (Fs.kit_mro (b := false) u_NotACertificate u_InvalidWorths y_InvalidWorths (by rfl)) (by decide)⟩ (Fs.all_cons ⟨c_PoolError, Fs.kit_at KX e_PoolError (Fs.kit_mro (b := false) u_PoolError u_InvalidWorths y_InvalidWorths (by rfl)) (by decide)⟩ (Fs.all_cons ⟨c_Refused, Fs.kit_at KX e_Refused (Fs.kit_mro (b := false) u_Refused u_InvalidWorths y_InvalidWorths (by rfl)) (by decide)⟩ (Fs.all_cons ⟨c_ServerDown, Fs.kit_at KX e_ServerDown (Fs.kit_mro (b := false) u_ServerDown u_InvalidWorths y_InvalidWorths (by rfl)) (by decide)⟩ (Fs.all_cons ⟨c_ServerUp, Fs.kit_at KX e_ServerUp (Fs.kit_mro (b := false) u_ServerUp u_InvalidWorths y_InvalidWorths (by rfl)) (by decide)⟩ Fs.all_nil))))))))))))))))))
    have i_NotACertificate := Fs.isx_ref (names := ["DoesNotFit", "Full", "InvalidClaim", "InvalidClaims", "InvalidKind", "InvalidMark", "InvalidNumber", "InvalidPool", "InvalidSeating", "InvalidServer", "InvalidTicket", "InvalidTime", "InvalidWorths", "NotACertificate", "PoolError", "Refused", "ServerDown", "ServerUp"]) (sub := (fun c => c == ("NotACertificate" : PySem.Str))) KX e_NotACertificate (Fs.all_cons ⟨c_DoesNotFit, Fs.kit_at KX e_DoesNotFit (Fs.kit_mro (b := false) u_DoesNotFit u_NotACertificate y_NotACertificate (by rfl)) (by decide)⟩ (Fs.all_cons ⟨c_Full, Fs.kit_at KX e_Full (Fs.kit_mro (b := false) u_Full u_NotACertificate y_NotACertificate (by rfl)) (by decide)⟩ (Fs.all_cons ⟨c_InvalidClaim, Fs.kit_at KX e_InvalidClaim (Fs.kit_mro (b := false) u_InvalidClaim u_NotACertificate y_NotACertificate (by rfl)) (by decide)⟩ (Fs.all_cons ⟨c_InvalidClaims, Fs.kit_at KX e_InvalidClaims (Fs.kit_mro (b := false) u_InvalidClaims u_NotACertificate y_NotACertificate (by rfl)) (by decide)⟩ (Fs.all_cons ⟨c_InvalidKind, Fs.kit_at KX e_InvalidKind (Fs.kit_mro (b := false) u_InvalidKind u_NotACertificate y_NotACertificate (by rfl)) (by decide)⟩ (Fs.all_cons ⟨c_InvalidMark, Fs.kit_at KX e_InvalidMark (Fs.kit_mro (b := false) u_InvalidMark u_NotACertificate y_NotACertificate (by rfl)) (by decide)⟩ (Fs.all_cons ⟨c_InvalidNumber, Fs.kit_at KX e_InvalidNumber (Fs.kit_mro (b := false) u_InvalidNumber u_NotACertificate y_NotACertificate (by rfl)) (by decide)⟩ (Fs.all_cons ⟨c_InvalidPool, Fs.kit_at KX e_InvalidPool (Fs.kit_mro (b := false) u_InvalidPool u_NotACertificate y_NotACertificate (by rfl)) (by decide)⟩ (Fs.all_cons ⟨c_InvalidSeating, Fs.kit_at KX e_InvalidSeating (Fs.kit_mro (b := false) u_InvalidSeating u_NotACertificate y_NotACertificate (by rfl)) (by decide)⟩ (Fs.all_cons ⟨c_InvalidServer, Fs.kit_at KX e_InvalidServer (Fs.kit_mro (b := false) u_InvalidServer u_NotACertificate y_NotACertificate (by rfl)) (by decide)⟩ (Fs.all_cons ⟨c_InvalidTicket, Fs.kit_at KX e_InvalidTicket (Fs.kit_mro (b := false) u_InvalidTicket u_NotACertificate y_NotACertificate (by rfl)) (by decide)⟩ (Fs.all_cons ⟨c_InvalidTime, Fs.kit_at KX e_InvalidTime (Fs.kit_mro (b := false) u_InvalidTime u_NotACertificate y_NotACertificate (by rfl)) (by decide)⟩ (Fs.all_cons ⟨c_InvalidWorths, Fs.kit_at KX e_InvalidWorths (Fs.kit_mro (b := false) u_InvalidWorths u_NotACertificate y_NotACertificate (by rfl)) (by decide)⟩ (Fs.all_cons ⟨c_NotACertificate, Fs.kit_at KX e_NotACertificate (Fs.kit_mro (b := true) u_NotACertificate u_NotACertificate y_NotACertificate (by rfl)) (by decide)⟩ (Fs.all_cons ⟨c_PoolError, Fs.kit_at KX e_PoolError (Fs.kit_mro (b := false) u_PoolError u_NotACertificate y_NotACertificate (by rfl)) (by decide)⟩ (Fs.all_cons ⟨c_Refused, Fs.kit_at KX e_Refused (Fs.kit_mro (b := false) u_Refused u_NotACertificate y_NotACertificate (by rfl)) (by decide)⟩ (Fs.all_cons ⟨c_ServerDown, Fs.kit_at KX e_ServerDown (Fs.kit_mro (b := false) u_ServerDown u_NotACertificate y_NotACertificate (by rfl)) (by decide)⟩ (Fs.all_cons ⟨c_ServerUp, Fs.kit_at KX e_ServerUp (Fs.kit_mro (b := false) u_ServerUp u_NotACertificate y_NotACertificate (by rfl)) (by decide)⟩ Fs.all_nil))))))))))))))))))
    have i_PoolError := Fs.isx_ref (names := ["DoesNotFit", "Full", "InvalidClaim", "InvalidClaims", "InvalidKind", "InvalidMark", "InvalidNumber", "InvalidPool", "InvalidSeating", "InvalidServer", "InvalidTicket", "InvalidTime", "InvalidWorths", "NotACertificate", "PoolError", "Refused", "ServerDown", "ServerUp"]) (sub := (fun _ => true)) KX e_PoolError (Fs.all_cons ⟨c_DoesNotFit, Fs.kit_at KX e_DoesNotFit (Fs.kit_mro (b := true) u_DoesNotFit u_PoolError y_PoolError (by rfl)) (by decide)⟩ (Fs.all_cons ⟨c_Full, Fs.kit_at KX e_Full (Fs.kit_mro (b := true) u_Full u_PoolError y_PoolError (by rfl)) (by decide)⟩ (Fs.all_cons ⟨c_InvalidClaim, Fs.kit_at KX e_InvalidClaim (Fs.kit_mro (b := true) u_InvalidClaim u_PoolError y_PoolError (by rfl)) (by decide)⟩ (Fs.all_cons ⟨c_InvalidClaims, Fs.kit_at KX e_InvalidClaims (Fs.kit_mro (b := true) u_InvalidClaims u_PoolError y_PoolError (by rfl)) (by decide)⟩ (Fs.all_cons ⟨c_InvalidKind, Fs.kit_at KX e_InvalidKind (Fs.kit_mro (b := true) u_InvalidKind u_PoolError y_PoolError (by rfl)) (by decide)⟩ (Fs.all_cons ⟨c_InvalidMark, Fs.kit_at KX e_InvalidMark (Fs.kit_mro (b := true) u_InvalidMark u_PoolError y_PoolError (by rfl)) (by decide)⟩ (Fs.all_cons ⟨c_InvalidNumber, Fs.kit_at KX e_InvalidNumber (Fs.kit_mro (b := true) u_InvalidNumber u_PoolError y_PoolError (by rfl)) (by decide)⟩ (Fs.all_cons ⟨c_InvalidPool, Fs.kit_at KX e_InvalidPool (Fs.kit_mro (b := true) u_InvalidPool u_PoolError y_PoolError (by rfl)) (by decide)⟩ (Fs.all_cons ⟨c_InvalidSeating, Fs.kit_at KX e_InvalidSeating (Fs.kit_mro (b := true) u_InvalidSeating u_PoolError y_PoolError (by rfl)) (by decide)⟩ (Fs.all_cons ⟨c_InvalidServer, Fs.kit_at KX e_InvalidServer (Fs.kit_mro (b := true) u_InvalidServer u_PoolError y_PoolError (by rfl)) (by decide)⟩ (Fs.all_cons ⟨c_InvalidTicket, Fs.kit_at KX e_InvalidTicket (Fs.kit_mro (b := true) u_InvalidTicket u_PoolError y_PoolError (by rfl)) (by decide)⟩ (Fs.all_cons ⟨c_InvalidTime, Fs.kit_at KX e_InvalidTime (Fs.kit_mro (b := true) u_InvalidTime u_PoolError y_PoolError (by rfl)) (by decide)⟩ (Fs.all_cons ⟨c_InvalidWorths, Fs.kit_at KX e_InvalidWorths (Fs.kit_mro (b := true) u_InvalidWorths u_PoolError y_PoolError (by rfl)) (by decide)⟩ (Fs.all_cons ⟨c_NotACertificate, Fs.kit_at KX e_NotACertificate (Fs.kit_mro (b := true) u_NotACertificate u_PoolError y_PoolError (by rfl)) (by decide)⟩ (Fs.all_cons ⟨c_PoolError, Fs.kit_at KX e_PoolError (Fs.kit_mro (b := true) u_PoolError u_PoolError y_PoolError (by rfl)) (by decide)⟩ (Fs.all_cons ⟨c_Refused, Fs.kit_at KX e_Refused (Fs.kit_mro (b := true) u_Refused u_PoolError y_PoolError (by rfl)) (by decide)⟩ (Fs.all_cons ⟨c_ServerDown, Fs.kit_at KX e_ServerDown (Fs.kit_mro (b := true) u_ServerDown u_PoolError y_PoolError (by rfl)) (by decide)⟩ (Fs.all_cons ⟨c_ServerUp, Fs.kit_at KX e_ServerUp (Fs.kit_mro (b := true) u_ServerUp u_PoolError y_PoolError (by rfl)) (by decide)⟩ Fs.all_nil))))))))))))))))))
    have i_Refused := Fs.isx_ref (names := ["DoesNotFit", "Full", "InvalidClaim", "InvalidClaims", "InvalidKind", "InvalidMark", "InvalidNumber", "InvalidPool", "InvalidSeating", "InvalidServer", "InvalidTicket", "InvalidTime", "InvalidWorths", "NotACertificate", "PoolError", "Refused", "ServerDown", "ServerUp"]) (sub := (fun c => c == ("Refused" : PySem.Str))) KX e_Refused (Fs.all_cons ⟨c_DoesNotFit, Fs.kit_at KX e_DoesNotFit (Fs.kit_mro (b := false) u_DoesNotFit u_Refused y_Refused (by rfl)) (by decide)⟩ (Fs.all_cons ⟨c_Full, Fs.kit_at KX e_Full (Fs.kit_mro (b := false) u_Full u_Refused y_Refused (by rfl)) (by decide)⟩ (Fs.all_cons ⟨c_InvalidClaim, Fs.kit_at KX e_InvalidClaim (Fs.kit_mro (b := false) u_InvalidClaim u_Refused y_Refused (by rfl)) (by decide)⟩ (Fs.all_cons ⟨c_InvalidClaims, Fs.kit_at KX e_InvalidClaims (Fs.kit_mro (b := false) u_InvalidClaims u_Refused y_Refused (by rfl)) (by decide)⟩ (Fs.all_cons ⟨c_InvalidKind, Fs.kit_at KX e_InvalidKind (Fs.kit_mro (b := false) u_InvalidKind u_Refused y_Refused (by rfl)) (by decide)⟩ (Fs.all_cons ⟨c_InvalidMark, Fs.kit_at KX e_InvalidMark (Fs.kit_mro (b := false) u_InvalidMark u_Refused y_Refused (by rfl)) (by decide)⟩ (Fs.all_cons ⟨c_InvalidNumber, Fs.kit_at KX e_InvalidNumber (Fs.kit_mro (b := false) u_InvalidNumber u_Refused y_Refused (by rfl)) (by decide)⟩ (Fs.all_cons ⟨c_InvalidPool, Fs.kit_at KX e_InvalidPool (Fs.kit_mro (b := false) u_InvalidPool u_Refused y_Refused (by rfl)) (by decide)⟩ (Fs.all_cons ⟨c_InvalidSeating, Fs.kit_at KX e_InvalidSeating (Fs.kit_mro (b := false) u_InvalidSeating u_Refused y_Refused (by rfl)) (by decide)⟩ (Fs.all_cons ⟨c_InvalidServer, Fs.kit_at KX e_InvalidServer (Fs.kit_mro (b := false) u_InvalidServer u_Refused y_Refused (by rfl)) (by decide)⟩ (Fs.all_cons ⟨c_InvalidTicket, Fs.kit_at KX e_InvalidTicket (Fs.kit_mro (b := false) u_InvalidTicket u_Refused y_Refused (by rfl)) (by decide)⟩ (Fs.all_cons ⟨c_InvalidTime, Fs.kit_at KX e_InvalidTime (Fs.kit_mro (b := false) u_InvalidTime u_Refused y_Refused (by rfl)) (by decide)⟩ (Fs.all_cons ⟨c_InvalidWorths, Fs.kit_at KX e_InvalidWorths (Fs.kit_mro (b := false) u_InvalidWorths u_Refused y_Refused (by rfl)) (by decide)⟩ (Fs.all_cons ⟨c_NotACertificate, Fs.kit_at KX e_NotACertificate (Fs.kit_mro (b := false) u_NotACertificate u_Refused y_Refused (by rfl)) (by decide)⟩ (Fs.all_cons ⟨c_PoolError, Fs.kit_at KX e_PoolError (Fs.kit_mro (b := false) u_PoolError u_Refused y_Refused (by rfl)) (by decide)⟩ (Fs.all_cons ⟨c_Refused, Fs.kit_at KX e_Refused (Fs.kit_mro (b := true) u_Refused u_Refused y_Refused (by rfl)) (by decide)⟩ (Fs.all_cons ⟨c_ServerDown, Fs.kit_at KX e_ServerDown (Fs.kit_mro (b := false) u_ServerDown u_Refused y_Refused (by rfl)) (by decide)⟩ (Fs.all_cons ⟨c_ServerUp, Fs.kit_at KX e_ServerUp (Fs.kit_mro (b := false) u_ServerUp u_Refused y_Refused (by rfl)) (by decide)⟩ Fs.all_nil))))))))))))))))))
    have i_ServerDown := Fs.isx_ref (names := ["DoesNotFit", "Full", "InvalidClaim", "InvalidClaims", "InvalidKind", "InvalidMark", "InvalidNumber", "InvalidPool", "InvalidSeating", "InvalidServer", "InvalidTicket", "InvalidTime", "InvalidWorths", "NotACertificate", "PoolError", "Refused", "ServerDown", "ServerUp"]) (sub := (fun c => c == ("ServerDown" : PySem.Str))) KX e_ServerDown (Fs.all_cons ⟨c_DoesNotFit, Fs.kit_at KX e_DoesNotFit (Fs.kit_mro (b := false) u_DoesNotFit u_ServerDown y_ServerDown (by rfl)) (by decide)⟩ (Fs.all_cons ⟨c_Full, Fs.kit_at KX e_Full (Fs.kit_mro (b := false) u_Full u_ServerDown y_ServerDown (by rfl)) (by decide)⟩ (Fs.all_cons ⟨c_InvalidClaim, Fs.kit_at KX e_InvalidClaim (Fs.kit_mro (b := false) u_InvalidClaim u_ServerDown y_ServerDown (by rfl)) (by decide)⟩ (Fs.all_cons ⟨c_InvalidClaims, Fs.kit_at KX e_InvalidClaims (Fs.kit_mro (b := false) u_InvalidClaims u_ServerDown y_ServerDown (by rfl)) (by decide)⟩ (Fs.all_cons ⟨c_InvalidKind, Fs.kit_at KX e_InvalidKind (Fs.kit_mro (b := false) u_InvalidKind u_ServerDown y_ServerDown (by rfl)) (by decide)⟩ (Fs.all_cons ⟨c_InvalidMark, Fs.kit_at KX e_InvalidMark (Fs.kit_mro (b := false) u_InvalidMark u_ServerDown y_ServerDown (by rfl)) (by decide)⟩ (Fs.all_cons ⟨c_InvalidNumber, Fs.kit_at KX e_InvalidNumber (Fs.kit_mro (b := false) u_InvalidNumber u_ServerDown y_ServerDown (by rfl)) (by decide)⟩ (Fs.all_cons ⟨c_InvalidPool, Fs.kit_at KX e_InvalidPool (Fs.kit_mro (b := false) u_InvalidPool u_ServerDown y_ServerDown (by rfl)) (by decide)⟩ (Fs.all_cons ⟨c_InvalidSeating, Fs.kit_at KX e_InvalidSeating (Fs.kit_mro (b := false) u_InvalidSeating u_ServerDown y_ServerDown (by rfl)) (by decide)⟩ (Fs.all_cons ⟨c_InvalidServer, Fs.kit_at KX e_InvalidServer (Fs.kit_mro (b := false) u_InvalidServer u_ServerDown y_ServerDown (by rfl)) (by decide)⟩ (Fs.all_cons ⟨c_InvalidTicket, Fs.kit_at KX e_InvalidTicket (Fs.kit_mro (b := false) u_InvalidTicket u_ServerDown y_ServerDown (by rfl)) (by decide)⟩ (Fs.all_cons ⟨c_InvalidTime, Fs.kit_at KX e_InvalidTime (Fs.kit_mro (b := false) u_InvalidTime u_ServerDown y_ServerDown (by rfl)) (by decide)⟩ (Fs.all_cons ⟨c_InvalidWorths, Fs.kit_at KX e_InvalidWorths (Fs.kit_mro (b := false) u_InvalidWorths u_ServerDown y_ServerDown (by rfl)) (by decide)⟩ (Fs.all_cons ⟨c_NotACertificate, Fs.kit_at KX e_NotACertificate (Fs.kit_mro (b := false) u_NotACertificate u_ServerDown y_ServerDown (by rfl)) (by decide)⟩ (Fs.all_cons ⟨c_PoolError, Fs.kit_at KX e_PoolError (Fs.kit_mro (b := false) u_PoolError u_ServerDown y_ServerDown (by rfl)) (by decide)⟩ (Fs.all_cons ⟨c_Refused, Fs.kit_at KX e_Refused (Fs.kit_mro (b := false) u_Refused u_ServerDown y_ServerDown (by rfl)) (by decide)⟩ (Fs.all_cons ⟨c_ServerDown, Fs.kit_at KX e_ServerDown (Fs.kit_mro (b := true) u_ServerDown u_ServerDown y_ServerDown (by rfl)) (by decide)⟩ (Fs.all_cons ⟨c_ServerUp, Fs.kit_at KX e_ServerUp (Fs.kit_mro (b := false) u_ServerUp u_ServerDown y_ServerDown (by rfl)) (by decide)⟩ Fs.all_nil))))))))))))))))))
    have i_ServerUp := Fs.isx_ref (names := ["DoesNotFit", "Full", "InvalidClaim", "InvalidClaims", "InvalidKind", "InvalidMark", "InvalidNumber", "InvalidPool", "InvalidSeating", "InvalidServer", "InvalidTicket", "InvalidTime", "InvalidWorths", "NotACertificate", "PoolError", "Refused", "ServerDown", "ServerUp"]) (sub := (fun c => c == ("ServerUp" : PySem.Str))) KX e_ServerUp (Fs.all_cons ⟨c_DoesNotFit, Fs.kit_at KX e_DoesNotFit (Fs.kit_mro (b := false) u_DoesNotFit u_ServerUp y_ServerUp (by rfl)) (by decide)⟩ (Fs.all_cons ⟨c_Full, Fs.kit_at KX e_Full (Fs.kit_mro (b := false) u_Full u_ServerUp y_ServerUp (by rfl)) (by decide)⟩ (Fs.all_cons ⟨c_InvalidClaim, Fs.kit_at KX e_InvalidClaim (Fs.kit_mro (b := false) u_InvalidClaim u_ServerUp y_ServerUp (by rfl)) (by decide)⟩ (Fs.all_cons ⟨c_InvalidClaims, Fs.kit_at KX e_InvalidClaims (Fs.kit_mro (b := false) u_InvalidClaims u_ServerUp y_ServerUp (by rfl)) (by decide)⟩ (Fs.all_cons ⟨c_InvalidKind, Fs.kit_at KX e_InvalidKind (Fs.kit_mro (b := false) u_InvalidKind u_ServerUp y_ServerUp (by rfl)) (by decide)⟩ (Fs.all_cons ⟨c_InvalidMark, Fs.kit_at KX e_InvalidMark (Fs.kit_mro (b := false) u_InvalidMark u_ServerUp y_ServerUp (by rfl)) (by decide)⟩ (Fs.all_cons ⟨c_InvalidNumber, Fs.kit_at KX e_InvalidNumber (Fs.kit_mro (b := false) u_InvalidNumber u_ServerUp y_ServerUp (by rfl)) (by decide)⟩ (Fs.all_cons ⟨c_InvalidPool, Fs.kit_at KX e_InvalidPool (Fs.kit_mro (b := false) u_InvalidPool u_ServerUp y_ServerUp (by rfl)) (by decide)⟩ (Fs.all_cons ⟨c_InvalidSeating, Fs.kit_at KX e_InvalidSeating (Fs.kit_mro (b := false) u_InvalidSeating u_ServerUp y_ServerUp (by rfl)) (by decide)⟩ (Fs.all_cons ⟨c_InvalidServer, Fs.kit_at KX e_InvalidServer (Fs.kit_mro (b := false) u_InvalidServer u_ServerUp y_ServerUp (by rfl)) (by decide)⟩ (Fs.all_cons ⟨c_InvalidTicket, Fs.kit_at KX e_InvalidTicket (Fs.kit_mro (b := false) u_InvalidTicket u_ServerUp y_ServerUp (by rfl)) (by decide)⟩ (Fs.all_cons ⟨c_InvalidTime, Fs.kit_at KX e_InvalidTime (Fs.kit_mro (b := false) u_InvalidTime u_ServerUp y_ServerUp (by rfl)) (by decide)⟩ (Fs.all_cons ⟨c_InvalidWorths, Fs.kit_at KX e_InvalidWorths (Fs.kit_mro (b := false) u_InvalidWorths u_ServerUp y_ServerUp (by rfl)) (by decide)⟩ (Fs.all_cons ⟨c_NotACertificate, Fs.kit_at KX e_NotACertificate (Fs.kit_mro (b := false) u_NotACertificate u_ServerUp y_ServerUp (by rfl)) (by decide)⟩ (Fs.all_cons ⟨c_PoolError, Fs.kit_at KX e_PoolError (Fs.kit_mro (b := false) u_PoolError u_ServerUp y_ServerUp (by rfl)) (by decide)⟩ (Fs.all_cons ⟨c_Refused, Fs.kit_at KX e_Refused (Fs.kit_mro (b := false) u_Refused u_ServerUp y_ServerUp (by rfl)) (by decide)⟩ (Fs.all_cons ⟨c_ServerDown, Fs.kit_at KX e_ServerDown (Fs.kit_mro (b := false) u_ServerDown u_ServerUp y_ServerUp (by rfl)) (by decide)⟩ (Fs.all_cons ⟨c_ServerUp, Fs.kit_at KX e_ServerUp (Fs.kit_mro (b := true) u_ServerUp u_ServerUp y_ServerUp (by rfl)) (by decide)⟩ Fs.all_nil))))))))))))))))))
    have i_ValueError := Fs.isx_ty (x := "ValueError") (T := "ValueError") (names := ["DoesNotFit", "Full", "InvalidClaim", "InvalidClaims", "InvalidKind", "InvalidMark", "InvalidNumber", "InvalidPool", "InvalidSeating", "InvalidServer", "InvalidTicket", "InvalidTime", "InvalidWorths", "NotACertificate", "PoolError", "Refused", "ServerDown", "ServerUp"]) (sub := (fun _ => true)) KX e_ValueError (by rfl) (by decide) (Fs.all_cons ⟨c_DoesNotFit, Fs.kit_at KX e_DoesNotFit (Fs.kit_mroT (b := true) u_DoesNotFit (by rfl) (by rfl)) (by decide)⟩ (Fs.all_cons ⟨c_Full, Fs.kit_at KX e_Full (Fs.kit_mroT (b := true) u_Full (by rfl) (by rfl)) (by decide)⟩ (Fs.all_cons ⟨c_InvalidClaim, Fs.kit_at KX e_InvalidClaim (Fs.kit_mroT (b := true) u_InvalidClaim (by rfl) (by rfl)) (by decide)⟩ (Fs.all_cons ⟨c_InvalidClaims, Fs.kit_at KX e_InvalidClaims (Fs.kit_mroT (b := true) u_InvalidClaims (by rfl) (by rfl)) (by decide)⟩ (Fs.all_cons ⟨c_InvalidKind, Fs.kit_at KX e_InvalidKind (Fs.kit_mroT (b := true) u_InvalidKind (by rfl) (by rfl)) (by decide)⟩ (Fs.all_cons ⟨c_InvalidMark, Fs.kit_at KX e_InvalidMark (Fs.kit_mroT (b := true) u_InvalidMark (by rfl) (by rfl)) (by decide)⟩ (Fs.all_cons ⟨c_InvalidNumber, Fs.kit_at KX e_InvalidNumber (Fs.kit_mroT (b := true) u_InvalidNumber (by rfl) (by rfl)) (by decide)⟩ (Fs.all_cons ⟨c_InvalidPool, Fs.kit_at KX e_InvalidPool (Fs.kit_mroT (b := true) u_InvalidPool (by rfl) (by rfl)) (by decide)⟩ (Fs.all_cons ⟨c_InvalidSeating, Fs.kit_at KX e_InvalidSeating (Fs.kit_mroT (b := true) u_InvalidSeating (by rfl) (by rfl)) (by decide)⟩ (Fs.all_cons ⟨c_InvalidServer, Fs.kit_at KX e_InvalidServer (Fs.kit_mroT (b := true) u_InvalidServer (by rfl) (by rfl)) (by decide)⟩ (Fs.all_cons ⟨c_InvalidTicket, Fs.kit_at KX e_InvalidTicket (Fs.kit_mroT (b := true) u_InvalidTicket (by rfl) (by rfl)) (by decide)⟩ (Fs.all_cons ⟨c_InvalidTime, Fs.kit_at KX e_InvalidTime (Fs.kit_mroT (b := true) u_InvalidTime (by rfl) (by rfl)) (by decide)⟩ (Fs.all_cons ⟨c_InvalidWorths, Fs.kit_at KX e_InvalidWorths (Fs.kit_mroT (b := true) u_InvalidWorths (by rfl) (by rfl)) (by decide)⟩ (Fs.all_cons ⟨c_NotACertificate, Fs.kit_at KX e_NotACertificate (Fs.kit_mroT (b := true) u_NotACertificate (by rfl) (by rfl)) (by decide)⟩ (Fs.all_cons ⟨c_PoolError, Fs.kit_at KX e_PoolError (Fs.kit_mroT (b := true) u_PoolError (by rfl) (by rfl)) (by decide)⟩ (Fs.all_cons ⟨c_Refused, Fs.kit_at KX e_Refused (Fs.kit_mroT (b := true) u_Refused (by rfl) (by rfl)) (by decide)⟩ (Fs.all_cons ⟨c_ServerDown, Fs.kit_at KX e_ServerDown (Fs.kit_mroT (b := true) u_ServerDown (by rfl) (by rfl)) (by decide)⟩ (Fs.all_cons ⟨c_ServerUp, Fs.kit_at KX e_ServerUp (Fs.kit_mroT (b := true) u_ServerUp (by rfl) (by rfl)) (by decide)⟩ Fs.all_nil))))))))))))))))))
    have k_Full : Fs.KeptX (L2.KOf KX) mg "Full" "Full.__init__" "limit" K1.st_XFull := by
      refine' Fs.keptX_mk KX e_Full ?l ?rf ?sa ?sb ?ty ?kp ?no (Fs.methAt_mk KX ?ma ?mi ?ml ?mc ?mk) ?ga ?gg ?hd
      (case l => k_is); (case rf => decide +kernel); (case sa => k_is); (case sb => k_is); (case ty => k_is); (case kp => k_is); (case no => k_is); (case ma => k_is); (case mi => k_is); (case ml => k_is); (case mc => k_is); (case mk => k_is); (case ga => k_is); (case gg => k_is); (case hd => k_is)
    have k_InvalidMark : Fs.KeptX (L2.KOf KX) mg "InvalidMark" "InvalidMark.__init__" "number" K1.st_XInvalidMark := by
      refine' Fs.keptX_mk KX e_InvalidMark ?l ?rf ?sa ?sb ?ty ?kp ?no (Fs.methAt_mk KX ?ma ?mi ?ml ?mc ?mk) ?ga ?gg ?hd
      (case l => k_is); (case rf => decide +kernel); (case sa => k_is); (case sb => k_is); (case ty => k_is); (case kp => k_is); (case no => k_is); (case ma => k_is); (case mi => k_is); (case ml => k_is); (case mc => k_is); (case mk => k_is); (case ga => k_is); (case gg => k_is); (case hd => k_is)
    have k_InvalidServer : Fs.KeptX (L2.KOf KX) mg "InvalidServer" "InvalidServer.__init__" "server" K1.st_XInvalidServer := by
      refine' Fs.keptX_mk KX e_InvalidServer ?l ?rf ?sa ?sb ?ty ?kp ?no (Fs.methAt_mk KX ?ma ?mi ?ml ?mc ?mk) ?ga ?gg ?hd
      (case l => k_is); (case rf => decide +kernel); (case sa => k_is); (case sb => k_is); (case ty => k_is); (case kp => k_is); (case no => k_is); (case ma => k_is); (case mi => k_is); (case ml => k_is); (case mc => k_is); (case mk => k_is); (case ga => k_is); (case gg => k_is); (case hd => k_is)
    have k_InvalidTicket : Fs.KeptX (L2.KOf KX) mg "InvalidTicket" "InvalidTicket.__init__" "ticket" K1.st_XInvalidTicket := by
      refine' Fs.keptX_mk KX e_InvalidTicket ?l ?rf ?sa ?sb ?ty ?kp ?no (Fs.methAt_mk KX ?ma ?mi ?ml ?mc ?mk) ?ga ?gg ?hd
      (case l => k_is); (case rf => decide +kernel); (case sa => k_is); (case sb => k_is); (case ty => k_is); (case kp => k_is); (case no => k_is); (case ma => k_is); (case mi => k_is); (case ml => k_is); (case mc => k_is); (case mk => k_is); (case ga => k_is); (case gg => k_is); (case hd => k_is)
    have k_ServerDown : Fs.KeptX (L2.KOf KX) mg "ServerDown" "ServerDown.__init__" "server" K1.st_XServerDown := by
      refine' Fs.keptX_mk KX e_ServerDown ?l ?rf ?sa ?sb ?ty ?kp ?no (Fs.methAt_mk KX ?ma ?mi ?ml ?mc ?mk) ?ga ?gg ?hd
      (case l => k_is); (case rf => decide +kernel); (case sa => k_is); (case sb => k_is); (case ty => k_is); (case kp => k_is); (case no => k_is); (case ma => k_is); (case mi => k_is); (case ml => k_is); (case mc => k_is); (case mk => k_is); (case ga => k_is); (case gg => k_is); (case hd => k_is)
    have k_ServerUp : Fs.KeptX (L2.KOf KX) mg "ServerUp" "ServerUp.__init__" "server" K1.st_XServerUp := by
      refine' Fs.keptX_mk KX e_ServerUp ?l ?rf ?sa ?sb ?ty ?kp ?no (Fs.methAt_mk KX ?ma ?mi ?ml ?mc ?mk) ?ga ?gg ?hd
      (case l => k_is); (case rf => decide +kernel); (case sa => k_is); (case sb => k_is); (case ty => k_is); (case kp => k_is); (case no => k_is); (case ma => k_is); (case mi => k_is); (case ml => k_is); (case mc => k_is); (case mk => k_is); (case ga => k_is); (case gg => k_is); (case hd => k_is)
    have ba_PoolError : Fs.BaseAt (L2.KOf KX) mg "PoolError" := by
      refine' Fs.baseAt_mk KX e_PoolError ?r ?g ?k
      (case r => k_is); (case g => k_is); (case k => k_is)
    have z_len := PySem.W.mg_none_of (n := "len") KX G (by k_is)
    have z_all := PySem.W.mg_none_of (n := "all") KX G (by k_is)
    have z_any := PySem.W.mg_none_of (n := "any") KX G (by k_is)
    have z_sum := PySem.W.mg_none_of (n := "sum") KX G (by k_is)
    have z_max := PySem.W.mg_none_of (n := "max") KX G (by k_is)
    have z_min := PySem.W.mg_none_of (n := "min") KX G (by k_is)
    have z_tuple := PySem.W.mg_none_of (n := "tuple") KX G (by k_is)
    have z_list := PySem.W.mg_none_of (n := "list") KX G (by k_is)
    have z_repr := PySem.W.mg_none_of (n := "repr") KX G (by k_is)
    have z_int := PySem.W.mg_none_of (n := "int") KX G (by k_is)
    have z_sorted := PySem.W.mg_none_of (n := "sorted") KX G (by k_is)
    have z_set := PySem.W.mg_none_of (n := "set") KX G (by k_is)
    have z_range := PySem.W.mg_none_of (n := "range") KX G (by k_is)
    have z_enumerate := PySem.W.mg_none_of (n := "enumerate") KX G (by k_is)
    have z_zip := PySem.W.mg_none_of (n := "zip") KX G (by k_is)
    have z_isinstance := PySem.W.mg_none_of (n := "isinstance") KX G (by k_is)
    have z_bool := PySem.W.mg_none_of (n := "bool") KX G (by k_is)
    have z_str := PySem.W.mg_none_of (n := "str") KX G (by k_is)
    have T : K1.Top (L2.KOf KX) mg := ⟨d__law_open, d__law_refusal, d__law_plain_right, d__law_spread, d__law_take, d__law_kept_right, d__law_one, d_law, x_DoesNotFit, x_InvalidClaim, x_InvalidClaims, x_InvalidKind, x_InvalidNumber, x_InvalidPool, x_InvalidSeating, x_InvalidTime, x_InvalidWorths, x_NotACertificate, x_PoolError, x_Refused, i_DoesNotFit, i_Full, i_InvalidClaim, i_InvalidClaims, i_InvalidKind, i_InvalidMark, i_InvalidNumber, i_InvalidPool, i_InvalidSeating, i_InvalidServer, i_InvalidTicket, i_InvalidTime, i_InvalidWorths, i_NotACertificate, i_PoolError, i_Refused, i_ServerDown, i_ServerUp, i_ValueError, k_Full, k_InvalidMark, k_InvalidServer, k_InvalidTicket, k_ServerDown, k_ServerUp, ba_PoolError, Fs.bl_mk z_len z_all z_any z_sum z_max z_min z_tuple z_list z_repr z_int z_sorted z_set z_range z_enumerate z_zip z_isinstance z_bool z_str⟩
    exact Fs.law_at (K1.irr_law (Fs.adrM mg)) K1.nE_law T.d_law hmg K1.sc_law T.bl (by decide) (K1.em_law _) (K1.ok_law _) (fun  base _ _ => K1.C_law (W := ⟨_, _, _, _, _⟩) T) (K1.hlaw _) (fun _ _ _ _ _ _ _ => rfl)

