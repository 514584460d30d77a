import PyProof.Rows.All
import Wide.All
import OpenK.AllK
import Wide.FinOn
import HandS.ForMost
import HandS.ForExc
import HandS.Wide
import HandS.Style
import HandS.SortKw
import HandS.IsInst
import HandS.HeadEnd
import HandS.HeadHook1
import HandS.HeadHook2
import HandS.EndBits
import KE.LtSeq
import HandS.NamedTupSort
import HandS.CallSlots
import HandS.Conv
import HandS.CallRecv
import HandS.Head0
import HandS.Head1
import HandS.Head2
import Lean
import PySem.Challenge.RW_flatroom_k04_lies_by_hand
set_option Elab.async false
set_option maxRecDepth 10000
namespace FR
open PySem

/-! ### data -/
inductive DK where
  | lst | tup | ins (c : Nat)
  deriving DecidableEq, Repr
inductive D where
  | non | bl (b : Bool) | int (i : Int) | str (x : Str) | fn (k : Nat)
  | node (k : DK) (xs : List D)
  deriving Repr
inductive R (α : Type) where
  | no | ok (a : α) | ex (c : Nat)
  deriving Repr
def R.b {α β : Type} (x : R α) (f : α → R β) : R β := match x with
  | .no => .no
  | .ok a => f a
  | .ex c => .ex c
def R.of {α : Type} : Option α → R α
  | some a => .ok a
  | none => .no
inductive Own where
  | sh | top | deep | bor
  deriving DecidableEq, Repr
/-- a value told by an expression: the datum, whose it is, the slots that it leans on -/
abbrev Rv := R (D × Own × List Nat)
inductive Sl where
  | val (d : D) (o : Own) | al (j : Nat) (p : List Nat)
  deriving Repr
abbrev En := List (Option Sl)
def Own.nb : Own → Own
  | .bor => .sh
  | .sh => .sh
  | .top => .top
  | .deep => .deep
def Own.dm : Own → Own
  | .bor => .bor
  | _ => .sh
def D.flat : D → Bool
  | .node _ _ => false
  | _ => true
def D.at : D → List Nat → Option D
  | d, [] => some d
  | .node _ xs, i :: p => (xs[i]?).bind fun d => d.at p
  | _, _ :: _ => none
mutual
def D.py : D → Option PyData
  | .non => some .none
  | .bl b => some (.bool b)
  | .int i => some (.int i)
  | .str x => some (.str x)
  | .fn _ => none
  | .node .lst xs => (D.pys xs).map .list
  | .node .tup xs => (D.pys xs).map .tuple
  | .node (.ins _) _ => none
def D.pys : List D → Option (List PyData)
  | [] => some []
  | d :: ds => (D.py d).bind fun x => (D.pys ds).bind fun xs => some (x :: xs)
end
/-- == of data -/
def D.eq? (x y : D) : Option Bool := (x.py).bind fun p => (y.py).bind fun q => if SeqAt.shaped p && SeqAt.shaped q then some (PyData.eqv p q) else none

/-! ### the compact text -/
inductive CO where
  | eq | ne | lt | le | gt | ge | is_ | isn | in_ | nin
  deriving DecidableEq, Repr
inductive BO where
  | add | sub | mul | fdiv | mod | pow
  deriving DecidableEq, Repr
inductive IK where
  | lst | rng1 | rng2 | enm | zip
  deriving DecidableEq, Repr
inductive Ty where
  | int | bool | list | tuple | str | cls (c : Nat)
  deriving DecidableEq, Repr
inductive CE where
  | v (i : Nat) | mv (i : Nat) | k (d : D) | gi (x : Nat) (i : Int) | fn (k : Nat)
  | bin (op : BO) (a b : CE) | neg (a : CE)
  | cmp (op : CO) (a b : CE) | ch (o1 o2 : CO) (a b c : CE) | inC (neg : Bool) (a : CE) (x : Nat) (ns : List Int)
  | nt (a : CE) | an (a b : CE) | or (a b : CE) | ife (c a b : CE)
  | lst (es : List CE) | tup (es : List CE)
  | ix (a b : CE) | sl (a lo hi : CE) | nil | rev (a : CE) | st2 (a lo : CE)
  | call (k : Nat) (es : List CE) | callv (a : CE) (es : List CE) | new (c : Nat) (es : List CE)
  | attr (a : CE) (f : Nat) | meth (m : Nat) (a : CE) (es : List CE)
  | len (a : CE) | list (a : CE) | sum (a : CE) | all (a : CE) | any (a : CE) | srt (a : CE) | srtR (a : CE) | toInt (a : CE) | rngL (a : CE)
  | isin (a : CE) (t : Ty) | index (a b : CE)
  | lc (e : CE) (tg : List Nat) (ik : IK) (a b c : CE)
  deriving Repr
inductive CS where
  | set (i : Nat) (e : CE) | setT (i : Nat) (e : CE) | unp (is : List Nat) (e : CE) | par (is : List Nat) (es : List CE)
  | forB (tg : List Nat) (ik : IK) (a b : CE) (body : List CS) (kill : List Nat) | app (i : Nat) (e : CE) | appAt (i : Nat) (a e : CE) | ext (i : Nat) (e : CE) | popT (dst i : Nat) (e : CE) | popL (dst i : Nat)
  | seti (i : Nat) (a e : CE) | aug (i : Nat) (op : BO) (e : CE) | setf (i f : Nat) (e : CE)
  | if_ (c : CE) (a b : List CS) | for_ (tg : List Nat) (ik : IK) (a b : CE) (body : List CS) (kill : List Nat)
  | whl (c : CE) (body : List CS) (kill : List Nat) | appAll (js : List Nat) (tg : Nat) (e : CE)
  | ret (e : CE) | retS (e : CE) | retN | brk | cnt | ex (e : CE) | pass | rse (c : Nat)
  deriving Repr

/-- the program's own classes: fields by class, names of fields, who lies under whom, where their defs stand -/
def fldT : Nat → List Nat
  | 11 => [0]
  | 12 => [1]
  | 13 => [2]
  | 14 => [3]
  | 15 => [4, 5]
  | _ => []
def fldN (f : Nat) : Str := (["shares", "cross", "table", "at", "base", "order"] : List Str).getD f Str.empty
def fldsT (c : Nat) : List Str := (fldT c).map fldN
def fldK (c f : Nat) : Option Nat := (fldT c).findIdx? (· == f)
def subT (c' c : Nat) : Bool := decide (c' = c) || (decide (c = 0) && decide (1 ≤ c') && decide (c' ≤ 9)) || (decide (c = 10) && decide (11 ≤ c') && decide (c' ≤ 15))
def iniT (c : Nat) : Nat := 2 * c + 76
def methT (c : Nat) : Nat := 2 * c + 77
def CE.isNil : CE → Bool
  | .nil => true
  | _ => false
/-! ### what it means -/
structure Prog where
  fn : Nat → List D → R (D × Bool)
  ini : Nat → List D → R (List D)

def LIM : Nat := 16777216
def mulOk (i j : Int) : Bool := decide (i.natAbs < 18446744073709551616) || decide (j.natAbs < 18446744073709551616) || decide (i.natAbs.log2 + j.natAbs.log2 < 100000000)
def divOk (j : Int) : Bool := decide (0 < j) && decide (j.natAbs.log2 < 9000)
def powOk (i j : Int) : Bool := decide (0 ≤ j) && decide (j ≤ 1000000) && decide (i.natAbs < 18446744073709551616)
def binI : BO → Int → Int → Option Int
  | .add, i, j => some (i + j)
  | .sub, i, j => some (i - j)
  | .mul, i, j => if mulOk i j then some (i * j) else none
  | .fdiv, i, j => if divOk j then some (i / j) else none
  | .mod, i, j => if decide (0 < j) then some (i % j) else none
  | .pow, i, j => if powOk i j then some (i ^ j.toNat) else none
def fin (d : D) (o : Own) (u : List Nat) : D × Own × List Nat := if d.flat then (d, .deep, []) else (d, o, u)
def flatAll (xs : List D) : Bool := xs.all D.flat
def disj (u w : List Nat) : Bool := u.all fun i => !w.contains i
def cmb (o : Own) (u : List Nat) (o' : Own) (u' : List Nat) : Own × List Nat := if decide (o = .deep) && decide (o' = .deep) && disj u u' then (.deep, u ++ u') else (.sh, u ++ u')
/-- a new list of the items of others -/
def newL (k : DK) (xs : List D) (o : Own) (u : List Nat) : D × Own × List Nat := if flatAll xs then (.node k xs, .deep, []) else (.node k xs, if o = .deep then .deep else .top, u)
def binD (op : BO) (x y : D) (o : Own) (u : List Nat) (o' : Own) (u' : List Nat) : Rv := match op, x, y with
  | .add, .node .lst xs, .node .lst ys => if xs.length + ys.length ≤ LIM then .ok (let c := cmb o u o' u'; newL .lst (xs ++ ys) c.1 c.2) else .no
  | .mul, .node .lst xs, .int n => if decide (n < 16777216) && decide (-16777216 < n) && decide (xs.length * n.toNat ≤ LIM) then .ok (newL .lst (List.replicate n.toNat xs).flatten .sh u) else .no
  | op, .int i, .int j => (R.of (binI op i j)).b fun z => .ok (.int z, .deep, [])
  | _, _, _ => .no
def atD (xs : List D) (i : Int) : Option D := L2.atI xs i
def cutD (xs : List D) (lo hi : Option Int) : List D := (xs.drop (HT.sIx xs.length 0 lo)).take (HT.sIx xs.length xs.length hi - HT.sIx xs.length 0 lo)
def boundD (left : Bool) (d : D) : R (Option Int) := if left then .ok none else match d with
  | .int i => .ok (some i)
  | _ => .no
def intsD : List D → Option (List Int)
  | [] => some []
  | .int i :: r => (intsD r).map (i :: ·)
  | _ :: _ => none
def blsD : List D → Option (List Bool)
  | [] => some []
  | .bl b :: r => (blsD r).map (b :: ·)
  | _ :: _ => none
def D.pl : D → Bool
  | .node _ _ => false
  | .fn _ => false
  | _ => true
def eqf : D → D → Bool
  | .non, .non => true
  | .bl a, .bl b => a == b
  | .bl a, .int b => (if a then 1 else 0) == b
  | .int a, .bl b => a == (if b then 1 else 0)
  | .int a, .int b => a == b
  | .str a, .str b => a == b
  | _, _ => false
def memD (x : D) (xs : List D) : Option Bool := if x.pl && xs.all D.pl then some (xs.any fun y => eqf y x) else none
def cmpD (op : CO) (x y : D) : R Bool := match op with
  | .eq => R.of (x.eq? y)
  | .ne => (R.of (x.eq? y)).b fun b => .ok (!b)
  | .is_ => match x, y with
    | .bl a, .bl b => .ok (decide (a = b))
    | x, .non => .ok (match x with | .non => true | _ => false)
    | _, _ => .no
  | .isn => match x, y with
    | .bl a, .bl b => .ok (!decide (a = b))
    | x, .non => .ok (match x with | .non => false | _ => true)
    | _, _ => .no
  | .in_ => match y with
    | .node .lst ys => R.of (memD x ys)
    | .node .tup ys => R.of (memD x ys)
    | _ => .no
  | .nin => match y with
    | .node .lst ys => (R.of (memD x ys)).b fun b => .ok (!b)
    | .node .tup ys => (R.of (memD x ys)).b fun b => .ok (!b)
    | _ => .no
  | .lt => match x, y with | .int i, .int j => .ok (decide (i < j)) | _, _ => .no
  | .le => match x, y with | .int i, .int j => .ok (decide (i ≤ j)) | _, _ => .no
  | .gt => match x, y with | .int i, .int j => .ok (decide (j < i)) | _, _ => .no
  | .ge => match x, y with | .int i, .int j => .ok (decide (j ≤ i)) | _, _ => .no
def tyD : D → Option String
  | .non => some "NoneType"
  | .bl _ => some "bool"
  | .int _ => some "int"
  | .str _ => some "str"
  | .node .lst _ => some "list"
  | .node .tup _ => some "tuple"
  | _ => none
def tyN : Ty → Option String
  | .int => some "int" | .bool => some "bool" | .list => some "list" | .tuple => some "tuple" | .str => some "str"
  | .cls _ => none
def isinD (P : Prog) (x : D) (t : Ty) : R Bool := match tyN t with
  | some n => match tyD x with
    | some m => .ok (decide (m = n) || (decide (m = "bool") && decide (n = "int")))
    | none => .no
  | none => match t with
    | .cls c => match x with
      | .node (.ins c') _ => .ok (subT c' c)
      | .fn _ => .no
      | _ => .ok false
    | _ => .no
def rangeD (lo : Int) : Nat → List D
  | 0 => []
  | n + 1 => .int lo :: rangeD (lo + 1) n
def enumD (i : Int) : List D → List D
  | [] => []
  | d :: ds => .node .tup [.int i, d] :: enumD (i + 1) ds
def zipD : List D → List D → List D
  | x :: xs, y :: ys => .node .tup [x, y] :: zipD xs ys
  | _, _ => []
def stripF (i : Nat) : Option Sl → Option Sl
  | some (.al j p) => if j = i then none else some (.al j p)
  | t => t
def setS (i : Nat) (s : Sl) (env : En) : En := (env.map (stripF i)).set i (some s)
def kilF (js : List Nat) : Nat → En → En
  | _, [] => []
  | n, s :: r => (if js.contains n then none else match s with
    | some (.al j p) => if js.contains j then none else some (.al j p)
    | s => s) :: kilF js (n + 1) r
def kil (js : List Nat) (env : En) : En := if js.isEmpty then env else kilF js 0 env
def demF (js : List Nat) : Nat → En → En
  | _, [] => []
  | n, s :: r => (match s with
    | some (.val d o) => if js.contains n then some (.val d o.dm) else some (.val d o)
    | s => s) :: demF js (n + 1) r
def dem (js : List Nat) (env : En) : En := if js.isEmpty then env else demF js 0 env
def after (o : Own) (u : List Nat) (env : En) : En := match o with
  | .deep => kil u env
  | _ => dem u env
def bindTg (tg : List Nat) (d : D) (env : En) : R En := match tg with
  | [i] => .ok (setS i (.val d (if d.flat then .deep else .sh)) env)
  | [i, j] => match d with
    | .node .tup [x, y] => .ok (setS j (.val y (if y.flat then .deep else .sh)) (setS i (.val x (if x.flat then .deep else .sh)) env))
    | _ => .no
  | _ => .no
def itD (ik : IK) (x y : D) : R (List D) := match ik, x, y with
  | .lst, .node .lst xs, _ => .ok xs
  | .lst, .node .tup xs, _ => .ok xs
  | .rng1, .int n, _ => if decide (n < 16777216) && decide (-16777216 < n) then .ok (rangeD 0 n.toNat) else .no
  | .rng2, .int m, .int n => if decide (n < 16777216) && decide (-16777216 < n) && decide (m < 16777216) && decide (-16777216 < m) && decide (n - m < 16777216) then .ok (rangeD m (n - m).toNat) else .no
  | .enm, .node .lst xs, _ => .ok (enumD 0 xs)
  | .zip, .node .lst xs, .node .lst ys => .ok (zipD xs ys)
  | _, _, _ => .no
def shF : Option Sl → Option Sl
  | some (.val d _) => some (.val d .sh)
  | t => t
def shAll (env : En) : En := env.map shF
def R.nx {α : Type} : R α → R α
  | .ex _ => .no
  | x => x
/-- a list of lists of whole numbers -/
def rowsOf : List D → Option (List (List Int))
  | [] => some []
  | .node .lst xs :: r => (intsD xs).bind fun ns => (rowsOf r).map (ns :: ·)
  | _ :: _ => none
def insRow (x : List Int) : List (List Int) → List (List Int)
  | [] => [x]
  | y :: ys => if HT.lexLt x y then y :: insRow x ys else x :: y :: ys
/-- rising down: equal ones in their turn -/
def sortRows : List (List Int) → List (List Int)
  | [] => []
  | x :: xs => insRow x (sortRows xs)
def insInt (x : Int) : List Int → List Int
  | [] => [x]
  | y :: ys => if y < x then y :: insInt x ys else x :: y :: ys
def sortInts : List Int → List Int
  | [] => []
  | x :: xs => insInt x (sortInts xs)
def rowD (ns : List Int) : D := .node .lst (ns.map D.int)
def findD (x : D) (xs : List D) : Option Nat := if x.pl && xs.all D.pl then xs.findIdx? (fun y => eqf y x) else none
/-- every other item -/
def evens {α : Type} : List α → List α
  | [] => []
  | [x] => [x]
  | x :: _ :: r => x :: evens r
def lcL (f : D → R (Option (D × Own × List Nat))) : List D → R (List D × Bool × List Nat)
  | [] => .ok ([], true, [])
  | x :: xs => (f x).b fun r => (lcL f xs).b fun z => match r with
    | none => .ok z
    | some (d, o, u) => .ok (d :: z.1, decide (o = .deep) && u.isEmpty && z.2.1, u ++ z.2.2)
mutual
def evE (P : Prog) : CE → En → Rv
  | .v i, env => match env[i]? with
    | some (some (.val d _)) => .ok (fin d .sh [i])
    | some (some (.al j p)) => match env[j]? with
      | some (some (.val d _)) => (R.of (d.at p)).b fun d => .ok (fin d .sh [j])
      | _ => .no
    | _ => .no
  | .mv i, env => match env[i]? with
    | some (some (.val d .deep)) => .ok (fin d .deep [i])
    | some (some (.val d _)) => .ok (fin d .sh [i])
    | _ => .no
  | .k d, _ => if d.flat then .ok (d, .deep, []) else .no
  | .gi _ i, _ => .ok (.int i, .deep, [])
  | .fn k, _ => .ok (.fn k, .deep, [])
  | .bin op a b, env => (evE P a env).b fun x => (evE P b env).b fun y => binD op x.1 y.1 x.2.1 x.2.2 y.2.1 y.2.2
  | .neg a, env => (evE P a env).b fun x => match x.1 with
    | .int i => .ok (.int (-i), .deep, [])
    | _ => .no
  | .cmp op a b, env => (evE P a env).b fun x => (evE P b env).b fun y => (cmpD op x.1 y.1).b fun r => .ok (.bl r, .deep, [])
  | .ch o1 o2 a b c, env => (evE P a env).b fun x => (evE P b env).b fun y => (cmpD o1 x.1 y.1).b fun r => if r then (evE P c env).b fun z => (cmpD o2 y.1 z.1).b fun r => .ok (.bl r, .deep, []) else .ok (.bl false, .deep, [])
  | .inC neg a _ ns, env => (evE P a env).b fun x => match x.1 with
    | .int i => .ok (.bl (if neg then !(ns.contains i) else ns.contains i), .deep, [])
    | _ => .no
  | .nt a, env => (evE P a env).b fun x => match x.1 with
    | .bl b => .ok (.bl (!b), .deep, [])
    | _ => .no
  | .an a b, env => (evE P a env).b fun x => match x.1 with
    | .bl true => evE P b env
    | .bl false => .ok (.bl false, .deep, [])
    | _ => .no
  | .or a b, env => (evE P a env).b fun x => match x.1 with
    | .bl true => .ok (.bl true, .deep, [])
    | .bl false => evE P b env
    | _ => .no
  | .ife c a b, env => (evE P c env).b fun x => match x.1 with
    | .bl true => evE P a env
    | .bl false => evE P b env
    | _ => .no
  | .lst es, env => (evEs P es env).b fun r => .ok (newL .lst r.1 r.2.1 r.2.2)
  | .tup es, env => (evEs P es env).b fun r => .ok (newL .tup r.1 r.2.1 r.2.2)
  | .ix a b, env => (evE P a env).b fun x => (evE P b env).b fun y => match x.1, y.1 with
    | .node .lst xs, .int i => (R.of (atD xs i)).b fun d => .ok (fin d .sh x.2.2)
    | .node .tup xs, .int i => (R.of (atD xs i)).b fun d => .ok (fin d .sh x.2.2)
    | _, _ => .no
  | .sl a lo hi, env => (evE P a env).b fun x => ((evE P lo env).b fun l => boundD lo.isNil l.1).b fun l => ((evE P hi env).b fun h => boundD hi.isNil h.1).b fun h => match x.1 with
    | .node .lst xs => .ok (newL .lst (cutD xs l h) x.2.1 x.2.2)
    | _ => .no
  | .nil, _ => .ok (.non, .deep, [])
  | .rev a, env => (evE P a env).b fun x => match x.1 with
    | .node .lst xs => .ok (newL .lst xs.reverse x.2.1 x.2.2)
    | _ => .no
  | .st2 a lo, env => (evE P a env).b fun x => (evE P lo env).b fun l => match x.1, l.1 with
    | .node .lst xs, .int i => if decide (0 ≤ i) then .ok (newL .lst (evens (xs.drop i.toNat)) x.2.1 x.2.2) else .no
    | _, _ => .no
  | .call k es, env => (evEs P es env).b fun r => (P.fn k r.1).b fun z => .ok (fin z.1 (if z.2 then .deep else .sh) (if z.2 then [] else r.2.2))
  | .callv a es, env => (evE P a env).b fun x => match x.1 with
    | .fn k => (evEs P es env).nx.b fun r => (P.fn k r.1).b fun z => .ok (fin z.1 (if z.2 then .deep else .sh) (if z.2 then [] else r.2.2))
    | _ => .no
  | .new c es, env => (evEs P es env).nx.b fun r => (P.ini c r.1).nx.b fun z => .ok (.node (.ins c) z, .deep, [])
  | .attr a f, env => (evE P a env).b fun x => match x.1 with
    | .node (.ins c) xs => (R.of ((fldK c f).bind fun k => xs[k]?)).b fun d => .ok (fin d .sh x.2.2)
    | _ => .no
  | .meth m a es, env => (evE P a env).b fun x => match x.1 with
    | .node (.ins c) _ => if m = 0 then (evEs P es env).b fun r => (P.fn (methT c) (x.1 :: r.1)).b fun z => .ok (fin z.1 (if z.2 then .deep else .sh) (if z.2 then [] else x.2.2 ++ r.2.2)) else .no
    | _ => .no
  | .len a, env => (evE P a env).b fun x => match x.1 with
    | .node .lst xs => .ok (.int xs.length, .deep, [])
    | .node .tup xs => .ok (.int xs.length, .deep, [])
    | _ => .no
  | .list a, env => (evE P a env).b fun x => match x.1 with
    | .node .lst xs => .ok (newL .lst xs x.2.1 x.2.2)
    | .node .tup xs => .ok (newL .lst xs x.2.1 x.2.2)
    | _ => .no
  | .sum a, env => (evE P a env).b fun x => match x.1 with
    | .node .lst xs => (R.of (intsD xs)).b fun ns => .ok (.int ns.sum, .deep, [])
    | _ => .no
  | .all a, env => (evE P a env).b fun x => match x.1 with
    | .node .lst xs => (R.of (blsD xs)).b fun bs => .ok (.bl (bs.all id), .deep, [])
    | _ => .no
  | .any a, env => (evE P a env).b fun x => match x.1 with
    | .node .lst xs => match blsD xs with
      | some bs => .ok (.bl (bs.any id), .deep, [])
      | none => (R.of (intsD xs)).b fun ns => .ok (.bl (ns.any (· != 0)), .deep, [])
    | _ => .no
  | .srt a, env => (evE P a env).b fun x => match x.1 with
    | .node .lst xs => match intsD xs with
      | some ns => .ok (.node .lst ((sortInts ns).map D.int), .deep, [])
      | none => (R.of (rowsOf xs)).b fun rs => .ok (newL .lst ((sortRows rs).reverse.map rowD) x.2.1 x.2.2)
    | _ => .no
  | .srtR a, env => (evE P a env).b fun x => match x.1 with
    | .node .lst xs => (R.of (rowsOf xs)).b fun rs => .ok (newL .lst ((sortRows rs).map rowD) x.2.1 x.2.2)
    | _ => .no
  | .toInt a, env => (evE P a env).b fun x => match x.1 with
    | .bl b => .ok (.int (if b then 1 else 0), .deep, [])
    | .int i => .ok (.int i, .deep, [])
    | _ => .no
  | .rngL a, env => (evE P a env).b fun x => match x.1 with
    | .int n => if decide (n < 16777216) && decide (-16777216 < n) then .ok (.node .lst (rangeD 0 n.toNat), .deep, []) else .no
    | _ => .no
  | .isin a t, env => (evE P a env).b fun x => (isinD P x.1 t).b fun r => .ok (.bl r, .deep, [])
  | .index a b, env => (evE P a env).b fun x => match x.1 with
    | .node .lst xs => (evE P b env).b fun y => (R.of (findD y.1 xs)).b fun i => .ok (.int i, .deep, [])
    | _ => .no
  | .lc e tg ik a b c, env => (evE P a env).b fun x => (evE P b env).b fun y => (itD ik x.1 y.1).b fun items => if LIM < items.length then .no else
      (lcL (fun d => ((bindTg tg d (shAll env)).b fun env => (evE P c env).b fun t => match t.1 with
        | .bl true => (evE P e env).b fun z => .ok (some z)
        | .bl false => .ok none
        | _ => .no).nx) items).b fun z =>
      if z.2.1 then .ok (.node .lst z.1, .deep, []) else .ok (newL .lst z.1 .sh (z.2.2.filter (fun i => !tg.contains i) ++ (x.2.2 ++ y.2.2)))
def evEs (P : Prog) : List CE → En → R (List D × Own × List Nat)
  | [], _ => .ok ([], .deep, [])
  | e :: es, env => (evE P e env).b fun x => (evEs P es env).b fun r => .ok (x.1 :: r.1, cmb x.2.1 x.2.2 r.2.1 r.2.2)
end
inductive Out where
  | nx (e : En) | bk (e : En) | ct (e : En) | rt (d : D) (fr : Bool)
  deriving Repr
def Out.kil (js : List Nat) : Out → Out
  | .nx e => .nx (FR.kil js e)
  | .bk e => .bk (FR.kil js e)
  | .ct e => .ct (FR.kil js e)
  | .rt d b => .rt d b
def forL (f : D → En → R Out) : List D → En → R Out
  | [], env => .ok (.nx env)
  | x :: xs, env => (f x env).b fun o => match o with
    | .nx e => forL f xs e
    | .ct e => forL f xs e
    | .bk e => .ok (.nx e)
    | .rt d b => .ok (.rt d b)
def whlL (t : En → R Bool) (f : En → R Out) : Nat → En → R Out
  | 0, _ => .no
  | n + 1, env => (t env).b fun c => if c then (f env).b fun o => match o with
      | .nx e => whlL t f n e
      | .ct e => whlL t f n e
      | .bk e => .ok (.nx e)
      | .rt d b => .ok (.rt d b)
    else .ok (.nx env)
/-- slots borrowed while a loop runs that leaves them alone -/
def borF : Option Sl → Option Sl
  | some (.val d _) => some (.val d .bor)
  | _ => none
def noF : Option Sl → Option Sl
  | some (.val d o) => some (.val d o)
  | _ => none
def okB : En → En → Bool
  | [], [] => true
  | some (.val _ _) :: r, some (.val _ .bor) :: r' => okB r r'
  | none :: r, _ :: r' => okB r r'
  | _, _ => false
def forB (f : D → R Out) (e0 : En) : List D → R (Option (D × Bool))
  | [] => .ok none
  | x :: xs => (f x).b fun o => match o with
    | .nx e => if okB e0 e then forB f e0 xs else .no
    | .ct e => if okB e0 e then forB f e0 xs else .no
    | .bk e => if okB e0 e then .ok none else .no
    | .rt d b => .ok (some (d, b))
def stoA (i : Nat) (d : D) (o : Own) (u : List Nat) (env : En) : En := setS i (.val d o.nb) (after o u env)
def seqO (dp : Bool) : List Nat → List D → En → R En
  | [], [], env => .ok env
  | i :: is, d :: ds, env => seqO dp is ds (setS i (.val d (if d.flat || dp then .deep else .sh)) env)
  | _, _, _ => .no
/-- one item of a deep list gets one thing more -/
def appSpot (dv : D) (env : En) (s : Nat × Nat) : Option En := match env[s.1]? with
  | some (some (.val (.node .lst ds) .deep)) => match ds[s.2]? with
    | some (.node .lst ys) => if ys.length < LIM then some (setS s.1 (.val (.node .lst (ds.set s.2 (.node .lst (ys ++ [dv])))) .deep) env) else none
    | _ => none
  | _ => none
def lenAt (env : En) (j : Nat) : Nat := match env[j]? with
  | some (some (.val (.node .lst ds) .deep)) => ds.length
  | _ => 0
def spots (env : En) (js : List Nat) : List (Nat × Nat) := js.flatMap fun j => (List.range (lenAt env j)).map fun k => (j, k)
def deepL (env : En) (j : Nat) : Bool := match env[j]? with
  | some (some (.val (.node .lst ds) .deep)) => ds.all fun d => !d.flat
  | _ => false
def appAll (dv : D) : List (Nat × Nat) → En → Option En
  | [], env => some env
  | s :: r, env => (appSpot dv env s).bind (appAll dv r)
def constE : CE → Option D
  | .k d => if d.flat then some d else none
  | .lst [] => some (.node .lst [])
  | _ => none
mutual
def evS (P : Prog) (n : Nat) : CS → En → R Out
  | .set i e, env => (evE P e env).b fun x => .ok (.nx (stoA i x.1 x.2.1 x.2.2 env))
  | .setT i e, env => (evE P e env).b fun x => if decide (x.2.1 = .deep) && x.2.2.isEmpty then .ok (.nx (setS i (.val x.1 .top) env)) else .no
  | .unp is e, env => (evE P e env).b fun x => match x.1 with
    | .node .tup ds => (seqO (decide (x.2.1 = .deep)) is ds (after x.2.1 x.2.2 env)).b fun env => .ok (.nx env)
    | _ => .no
  | .par is es, env => (evEs P es env).b fun r => (seqO (decide (r.2.1 = .deep)) is r.1 (after r.2.1 r.2.2 env)).b fun env => .ok (.nx env)
  | .app i e, env => match env[i]? with
    | some (some (.val (.node .lst xs) o)) => (evE P e env).b fun x => if decide (o ≠ .sh ∧ o ≠ .bor) && decide (xs.length < LIM) && !x.2.2.contains i then
        .ok (.nx (setS i (.val (.node .lst (xs ++ [x.1])) (if decide (o = .deep) && decide (x.2.1 = .deep) then .deep else .top)) (after x.2.1 x.2.2 env))) else .no
    | _ => .no
  | .appAt i a e, env => match env[i]? with
    | some (some (.val (.node .lst xs) .deep)) => (evE P a env).b fun y => match y.1 with
      | .int j => match L2.ixN xs.length j with
        | some k => match xs[k]? with
          | some (.node .lst ys) => (evE P e env).b fun x => if decide (x.2.1 = .deep) && decide (ys.length < LIM) && !x.2.2.contains i then
              .ok (.nx (setS i (.val (.node .lst (xs.set k (.node .lst (ys ++ [x.1])))) .deep) (kil x.2.2 env))) else .no
          | _ => .no
        | none => .no
      | _ => .no
    | _ => .no
  | .ext i e, env => match env[i]? with
    | some (some (.val (.node .lst xs) o)) => (evE P e env).b fun x => match x.1 with
      | .node .lst ys => if decide (o ≠ .sh ∧ o ≠ .bor) && decide (x.2.1 ≠ .sh ∧ x.2.1 ≠ .bor) && decide (xs.length + ys.length ≤ LIM) && !x.2.2.contains i then
        .ok (.nx (setS i (.val (.node .lst (xs ++ ys)) (if decide (o = .deep) && decide (x.2.1 = .deep) then .deep else .top)) (after x.2.1 x.2.2 env))) else .no
      | _ => .no
    | _ => .no
  | .popT dst i e, env => match env[i]? with
    | some (some (.val (.node .lst xs) o)) => (evE P e env).b fun x => match x.1 with
      | .int j => if decide (o ≠ .sh ∧ o ≠ .bor) && decide (0 ≤ j) && decide (j < 16777216) && decide (i ≠ dst) then match xs[j.toNat]? with
        | some d => .ok (.nx (setS dst (.val d (if d.flat then .deep else if o = .deep then .deep else .sh)) (setS i (.val (.node .lst (xs.eraseIdx j.toNat)) o) env)))
        | none => .no else .no
      | _ => .no
    | _ => .no
  | .popL dst i, env => match env[i]? with
    | some (some (.val (.node .lst xs) o)) => if decide (o ≠ .sh ∧ o ≠ .bor) && decide (i ≠ dst) then match xs[xs.length - 1]? with
        | some d => .ok (.nx (setS dst (.val d (if d.flat then .deep else if o = .deep then .deep else .sh)) (setS i (.val (.node .lst xs.dropLast) o) env)))
        | none => .no else .no
    | _ => .no
  | .seti i a e, env => (evE P e env).b fun x => match env[i]? with
    | some (some (.val (.node .lst xs) o)) => (evE P a env).b fun y => match y.1 with
      | .int j => if decide (o ≠ .sh ∧ o ≠ .bor) && !x.2.2.contains i then match L2.ixN xs.length j with
        | some j => .ok (.nx (setS i (.val (.node .lst (xs.set j x.1)) (if decide (o = .deep) && decide (x.2.1 = .deep) then .deep else .top)) (after x.2.1 x.2.2 env)))
        | none => .no else .no
      | _ => .no
    | _ => .no
  | .aug i op e, env => match env[i]? with
    | some (some (.val (.int a) _)) => (evE P e env).b fun x => match x.1 with
      | .int b => (R.of (binI op a b)).b fun z => .ok (.nx (setS i (.val (.int z) .deep) env))
      | _ => .no
    | _ => .no
  | .setf _ _ _, _ => .no
  | .if_ c a b, env => (evE P c env).b fun x => match x.1 with
    | .bl true => evSs P n a env
    | .bl false => evSs P n b env
    | _ => .no
  | .for_ tg ik a b body kl, env => (evE P a env).b fun x => (evE P b env).b fun y => (itD ik x.1 y.1).b fun items =>
      forL (fun d env => (bindTg tg d env).b fun env => (evSs P n body env).b fun o => .ok (o.kil kl)) items (dem y.2.2 (dem x.2.2 env))
  | .forB tg ik a b body kl, env => (evE P a env).b fun x => (evE P b env).b fun y => (itD ik x.1 y.1).b fun items =>
      (forB (fun d => (bindTg tg d ((kil kl env).map borF)).b fun env => evSs P n body env) ((kil kl env).map borF) items).b fun r => match r with
        | none => .ok (.nx ((kil kl env).map noF))
        | some z => .ok (.rt z.1 z.2)
  | .whl c body kl, env => whlL (fun env => (evE P c env).b fun x => match x.1 with
      | .bl b => .ok b
      | _ => .no) (fun env => (evSs P n body env).b fun o => .ok (o.kil kl)) n env
  | .appAll js tg e, env => match constE e with
    | some dv => if js.all (deepL (kil [tg] env)) && decide (tg < env.length) && decide ((spots (kil [tg] env) js).length ≤ LIM) then (R.of (appAll dv (spots (kil [tg] env) js) (kil [tg] env))).b fun env => .ok (.nx env) else .no
    | none => .no
  | .ret e, env => (evE P e env).b fun x => .ok (.rt x.1 (decide (x.2.1 = .deep)))
  | .retS e, env => (evE P e env).b fun x => .ok (.rt x.1 false)
  | .retN, _ => .ok (.rt .non true)
  | .brk, env => .ok (.bk env)
  | .cnt, env => .ok (.ct env)
  | .ex e, env => (evE P e env).b fun _ => .ok (.nx env)
  | .pass, env => .ok (.nx env)
  | .rse c, _ => .ex c
def evSs (P : Prog) (n : Nat) : List CS → En → R Out
  | [], env => .ok (.nx env)
  | s :: ss, env => (evS P n s env).b fun o => match o with
    | .nx e => evSs P n ss e
    | o => .ok o
end
def evFn (P : Prog) (n ns : Nat) (body : List CS) (args : List D) : R (D × Bool) :=
  (evSs P n body (args.map (fun d => some (.val d (if d.flat then .deep else .sh))) ++ List.replicate (ns - args.length) none)).b fun o => match o with
    | .rt d b => .ok (d, b)
    | .nx _ => .ok (.non, true)
    | _ => .no
/-- the fields that an __init__ sets, in their turn -/
def iniB : List CS → Option (List (Nat × CE))
  | [] => some []
  | .setf 0 f e :: r => (iniB r).map ((f, e) :: ·)
  | _ => none
def iniL (P : Prog) (c : Nat) (env : En) : List (Nat × CE) → List D → R (List D)
  | [], acc => .ok acc
  | q :: r, acc => if decide ((fldT c)[acc.length]? = some q.1) then (evE P q.2 env).nx.b fun x => if decide (x.2.1 = .deep) && x.2.2.isEmpty then iniL P c env r (acc ++ [x.1]) else .no else .no
def evIni (P : Prog) (ns : Nat) (body : List CS) (c : Nat) (args : List D) : R (List D) := match iniB body with
  | some l => iniL P c (none :: args.map (fun d => some (.val d (if d.flat then .deep else .sh))) ++ List.replicate (ns - args.length - 1) none) l []
  | none => .no
end FR

namespace FR
open PySem PySem.Spec L2

/-! ### what stands in the heap: a datum with its addresses -/
structure Gs where
  K : PySem.W.Frag
  cls : Nat → Addr
  ci : List Nat
  fnA : Nat → Addr
inductive TK where
  | lst (fz : Option Obj) | tup | ins (c : Nat) (dx : Addr)
def TK.dk : TK → DK
  | .lst _ => .lst
  | .tup => .tup
  | .ins c _ => .ins c
inductive T where
  | leaf (d : D)
  | node (k : TK) (a : Addr) (xs : List T)
def lv (G : Gs) : D → V
  | .non => .non
  | .bl b => .bl b
  | .int i => .int i
  | .str x => .str x
  | .fn k => .ref (G.fnA k)
  | .node _ _ => .non
def T.v (G : Gs) : T → V
  | .leaf d => lv G d
  | .node _ a _ => .ref a
mutual
def T.d : T → D
  | .leaf d => d
  | .node k _ xs => .node k.dk (T.ds xs)
def T.ds : List T → List D
  | [] => []
  | x :: xs => T.d x :: T.ds xs
end
mutual
def T.fp : T → List Addr
  | .leaf _ => []
  | .node _ a xs => a :: T.fps xs
def T.fps : List T → List Addr
  | [] => []
  | x :: xs => T.fp x ++ T.fps xs
end
def objOk (G : Gs) (H : Hp) (k : TK) (a : Addr) (vs : List V) : Prop := match k with
  | .lst none => H a = some (.lst vs)
  | .lst (some o) => H a = some (.frz o (.lst vs))
  | .tup => H a = some (.tup vs)
  | .ins c dx => H a = some (.ins (G.cls c) dx ((fldsT c).zip vs)) ∧ vs.length ≤ (fldsT c).length ∧ G.ci.contains c = true
mutual
def T.ok (G : Gs) (H : Hp) : T → Prop
  | .leaf d => d.flat = true
  | .node k a xs => objOk G H k a (xs.map (T.v G)) ∧ T.oks G H xs
def T.oks (G : Gs) (H : Hp) : List T → Prop
  | [] => True
  | x :: xs => T.ok G H x ∧ T.oks G H xs
end
mutual
def T.plain : T → Prop
  | .leaf _ => True
  | .node k _ xs => (match k with | .lst (some _) => False | _ => True) ∧ T.plains xs
def T.plains : List T → Prop
  | [] => True
  | x :: xs => T.plain x ∧ T.plains xs
end
theorem ds_map : ∀ xs : List T, T.ds xs = xs.map T.d
  | [] => by simp [T.ds]
  | x :: xs => by simp [T.ds, ds_map xs]
theorem ds_length (xs : List T) : (T.ds xs).length = xs.length := by rw [ds_map, List.length_map]
theorem fps_append : ∀ xs ys : List T, T.fps (xs ++ ys) = T.fps xs ++ T.fps ys
  | [], ys => by simp [T.fps]
  | x :: xs, ys => by simp [T.fps, fps_append xs ys, List.append_assoc]
theorem oks_iff {G : Gs} {H : Hp} : ∀ {xs : List T}, T.oks G H xs ↔ ∀ x ∈ xs, T.ok G H x
  | [] => by simp [T.oks]
  | x :: xs => by simp [T.oks, oks_iff (xs := xs)]
theorem plains_iff : ∀ {xs : List T}, T.plains xs ↔ ∀ x ∈ xs, T.plain x
  | [] => by simp [T.plains]
  | x :: xs => by simp [T.plains, plains_iff (xs := xs)]
theorem mem_fps {a : Addr} : ∀ {xs : List T}, a ∈ T.fps xs ↔ ∃ x ∈ xs, a ∈ T.fp x
  | [] => by simp [T.fps]
  | x :: xs => by simp [T.fps, mem_fps (xs := xs)]
theorem objOk.there {G : Gs} {H : Hp} {k : TK} {a : Addr} {vs : List V} (h : objOk G H k a vs) : ∃ o, H a = some o := by
  cases k with
  | lst fz => cases fz <;> exact ⟨_, h⟩
  | tup => exact ⟨_, h⟩
  | ins c dx => exact ⟨_, h.1⟩
theorem objOk.keep {G : Gs} {H H' : Hp} {k : TK} {a : Addr} {vs : List V} (h : objOk G H k a vs) (e : ∀ o, H a = some o → H' a = some o) : objOk G H' k a vs := by
  cases k with
  | lst fz => cases fz <;> exact e _ h
  | tup => exact e _ h
  | ins c dx => exact ⟨e _ h.1, h.2⟩
mutual
theorem T.ok.keep {G : Gs} {H H' : Hp} : ∀ {t : T}, t.ok G H → (∀ a ∈ t.fp, ∀ o, H a = some o → H' a = some o) → t.ok G H'
  | .leaf d, h, _ => by unfold T.ok at h ⊢; exact h
  | .node k a xs, h, e => by
    unfold T.ok at h ⊢
    refine ⟨h.1.keep (e a (by simp [T.fp])), T.oks.keep h.2 fun b hb => e b (by simp [T.fp, hb])⟩
theorem T.oks.keep {G : Gs} {H H' : Hp} : ∀ {ts : List T}, T.oks G H ts → (∀ a ∈ T.fps ts, ∀ o, H a = some o → H' a = some o) → T.oks G H' ts
  | [], _, _ => by unfold T.oks; trivial
  | x :: xs, h, e => by
    unfold T.oks at h ⊢
    exact ⟨T.ok.keep h.1 fun b hb => e b (by simp [T.fps, hb]), T.oks.keep h.2 fun b hb => e b (by simp [T.fps, hb])⟩
end
theorem T.ok.same {G : Gs} {H H' : Hp} {t : T} (h : t.ok G H) (s : Same H H') : t.ok G H' := h.keep fun a _ o => s a o
theorem oks_same {G : Gs} {H H' : Hp} {ts : List T} (h : T.oks G H ts) (s : Same H H') : T.oks G H' ts := T.oks.keep h fun a _ o => s a o
mutual
theorem T.ok.trk {G : Gs} {H : Hp} {b : Addr} : ∀ {t : T}, t.ok G H → b ∈ t.fp → ∃ o, H b = some o
  | .leaf d, _, hb => by simp [T.fp] at hb
  | .node k a xs, h, hb => by
    unfold T.ok at h
    simp only [T.fp, List.mem_cons] at hb
    rcases hb with rfl | hb
    · exact h.1.there
    · exact T.oks.trk h.2 hb
theorem T.oks.trk {G : Gs} {H : Hp} {b : Addr} : ∀ {ts : List T}, T.oks G H ts → b ∈ T.fps ts → ∃ o, H b = some o
  | [], _, hb => by simp [T.fps] at hb
  | x :: xs, h, hb => by
    unfold T.oks at h
    simp only [T.fps, List.mem_append] at hb
    rcases hb with hb | hb
    · exact T.ok.trk h.1 hb
    · exact T.oks.trk h.2 hb
end
theorem T.ok.new {G : Gs} {H : Hp} {b : Addr} {t : T} (h : t.ok G H) (n : H b = none) : b ∉ t.fp := fun hb => by
  obtain ⟨o, e⟩ := h.trk hb
  rw [n] at e; cases e
theorem oks_new {G : Gs} {H : Hp} {b : Addr} {ts : List T} (h : T.oks G H ts) (n : H b = none) : b ∉ T.fps ts := fun hb => by
  obtain ⟨o, e⟩ := T.oks.trk h hb
  rw [n] at e; cases e
theorem flat_fp {G : Gs} {H : Hp} {t : T} (h : t.ok G H) (f : t.d.flat = true) : t.fp = [] ∧ t = .leaf t.d := by
  cases t with
  | leaf d => exact ⟨by simp [T.fp], by simp [T.d]⟩
  | node k a xs => simp [T.d, D.flat] at f
theorem flatAll_fps : ∀ {ts : List T}, flatAll (T.ds ts) = true → T.fps ts = [] ∧ T.plains ts
  | [], _ => by simp [T.fps, T.plains]
  | .leaf d :: xs, h => by
    have h' : flatAll (T.ds xs) = true := by
      unfold flatAll at h ⊢
      simp only [T.ds, List.all_cons, Bool.and_eq_true] at h
      exact h.2
    have := flatAll_fps h'
    simp [T.fps, T.fp, T.plains, T.plain, this]
  | .node k a ys :: xs, h => by
    unfold flatAll at h
    simp [T.ds, T.d, D.flat] at h
/-- a node's shape -/
theorem node_of {t : T} {k : DK} {ds : List D} (e : t.d = .node k ds) (hf : ∀ d, t = .leaf d → d.flat = true) : ∃ tk a xs, t = .node tk a xs ∧ tk.dk = k ∧ T.ds xs = ds := by
  cases t with
  | leaf d =>
    have := hf d rfl
    simp only [T.d] at e
    rw [e] at this; cases this
  | node tk a xs =>
    simp only [T.d, D.node.injEq] at e
    exact ⟨tk, a, xs, rfl, e.1, e.2⟩
theorem T.ok.node {G : Gs} {H : Hp} {t : T} (h : t.ok G H) {k : DK} {ds : List D} (e : t.d = .node k ds) : ∃ tk a xs, t = .node tk a xs ∧ tk.dk = k ∧ T.ds xs = ds ∧ objOk G H tk a (xs.map (T.v G)) ∧ T.oks G H xs := by
  obtain ⟨tk, a, xs, rfl, e1, e2⟩ := node_of e fun d hd => by subst hd; exact h
  unfold T.ok at h
  exact ⟨tk, a, xs, rfl, e1, e2, h.1, h.2⟩
theorem T.ok.leaf {G : Gs} {H : Hp} {t : T} (h : t.ok G H) (f : t.d.flat = true) : t.v G = lv G t.d := by
  rw [(flat_fp h f).2]; rfl
theorem objOk.list {G : Gs} {H : Hp} {tk : TK} {a : Addr} {vs : List V} (h : objOk G H tk a vs) (e : tk.dk = .lst) : Rd H a (.lst vs) := by
  cases tk with
  | lst fz => cases fz with
    | none => exact .inl h
    | some o => exact .inr ⟨o, h⟩
  | tup => cases e
  | ins c dx => cases e
theorem objOk.tup {G : Gs} {H : Hp} {tk : TK} {a : Addr} {vs : List V} (h : objOk G H tk a vs) (e : tk.dk = .tup) : H a = some (.tup vs) := by
  cases tk with
  | lst fz => cases e
  | tup => exact h
  | ins c dx => cases e
theorem objOk.ins {G : Gs} {H : Hp} {tk : TK} {a : Addr} {vs : List V} {c : Nat} (h : objOk G H tk a vs) (e : tk.dk = .ins c) : ∃ dx, tk = .ins c dx ∧ H a = some (.ins (G.cls c) dx ((fldsT c).zip vs)) ∧ vs.length ≤ (fldsT c).length ∧ G.ci.contains c = true := by
  cases tk with
  | lst fz => cases e
  | tup => cases e
  | ins c' dx =>
    simp only [TK.dk, DK.ins.injEq] at e
    subst e
    exact ⟨dx, rfl, h⟩
def T.at : T → List Nat → Option T
  | t, [] => some t
  | .node _ _ xs, i :: p => (xs[i]?).bind fun t => t.at p
  | .leaf _, _ :: _ => none
theorem ds_get {xs : List T} {i : Nat} : (T.ds xs)[i]? = (xs[i]?).map T.d := by rw [ds_map, List.getElem?_map]
theorem T.ok.at {G : Gs} {H : Hp} : ∀ {p : List Nat} {t : T} {d : D}, t.ok G H → t.d.at p = some d → ∃ u, t.at p = some u ∧ u.d = d ∧ u.ok G H ∧ ∀ a ∈ u.fp, a ∈ t.fp
  | [], t, d, hk, h => by
    simp only [D.at, Option.some.injEq] at h
    exact ⟨t, by simp [T.at], h, hk, fun _ z => z⟩
  | i :: p, .leaf e, d, hk, h => by
    unfold T.ok at hk
    simp only [T.d] at h
    cases e <;> simp_all [D.at, D.flat]
  | i :: p, .node k a xs, d, hk, h => by
    unfold T.ok at hk
    simp only [T.d, D.at, ds_get] at h
    cases q : xs[i]? with
    | none => rw [q] at h; simp at h
    | some x =>
      rw [q] at h
      simp only [Option.map_some, Option.bind_some] at h
      have hx : x ∈ xs := List.mem_of_getElem? q
      obtain ⟨u, h1, h2, h3, h4⟩ := T.ok.at (oks_iff.mp hk.2 x hx) h
      refine ⟨u, by simp [T.at, q, h1], h2, h3, fun b hb => ?_⟩
      simp only [T.fp, List.mem_cons]
      exact .inr (mem_fps.mpr ⟨x, hx, h4 b hb⟩)
end FR

namespace FR
open PySem PySem.Spec L2

/-! ### the environment and the heap -/
def isVal (env : En) (i : Nat) : Prop := ∃ d o, env[i]? = some (some (Sl.val d o))
def isDeep (env : En) (i : Nat) : Prop := ∃ d, env[i]? = some (some (Sl.val d .deep))
structure AP where
  as : List Addr
  pin : Nat → Option (Option V)
instance : Membership Addr AP := ⟨fun A a => a ∈ A.as⟩
def AP.up (A₀ : AP) (A : List Addr) : AP := ⟨A₀.as ++ A, A₀.pin⟩
theorem AP.mem_up {A₀ : AP} {A : List Addr} {a : Addr} : a ∈ A₀.up A ↔ a ∈ A₀ ∨ a ∈ A := List.mem_append
structure EO (G : Gs) (F : Hp) (A₀ : AP) (env : En) (τ : Nat → T) (σ : St) (H : Hp) : Prop where
  len : σ.length = env.length
  val : ∀ (i : Nat) d o, env[i]? = some (some (Sl.val d o)) → (τ i).d = d ∧ (τ i).ok G H ∧ σ[i]? = some (some ((τ i).v G))
  ali : ∀ (i j : Nat) p, env[i]? = some (some (Sl.al j p)) → ∃ d o t, env[j]? = some (some (Sl.val d o)) ∧ (τ j).at p = some t ∧ σ[i]? = some (some (t.v G))
  old : Same F H
  cov : ∀ i, isVal env i → ∀ a ∈ (τ i).fp, F a = none ∨ a ∈ A₀
  top : ∀ (i : Nat) d, env[i]? = some (some (Sl.val d .top)) → ∀ k a xs, τ i = .node k a xs → F a = none ∧ a ∉ T.fps xs ∧ (∀ o, k ≠ .lst (some o)) ∧ ∀ j, j ≠ i → isVal env j → a ∉ (τ j).fp
  deep : ∀ i, isDeep env i → (τ i).fp.Nodup ∧ (τ i).plain ∧ (∀ a ∈ (τ i).fp, F a = none) ∧ ∀ j, j ≠ i → isVal env j → ∀ a ∈ (τ i).fp, a ∉ (τ j).fp
  pin : ∀ (i : Nat) d, env[i]? = some (some (Sl.val d .bor)) → σ[i]? = A₀.pin i
theorem isDeep.val {env : En} {i : Nat} (h : isDeep env i) : isVal env i := let ⟨d, e⟩ := h; ⟨d, _, e⟩
theorem EO.same {G : Gs} {F : Hp} {A₀ : AP} {env : En} {τ : Nat → T} {σ : St} {H H' : Hp} (h : EO G F A₀ env τ σ H) (s : Same H H') : EO G F A₀ env τ σ H' :=
  ⟨h.len, fun i d o e => let ⟨a, b, c⟩ := h.val i d o e; ⟨a, b.same s, c⟩, h.ali, h.old.trans s, h.cov, h.top, h.deep, h.pin⟩
theorem EO.ok {G : Gs} {F : Hp} {A₀ : AP} {env : En} {τ : Nat → T} {σ : St} {H : Hp} (h : EO G F A₀ env τ σ H) {i : Nat} (v : isVal env i) : (τ i).ok G H := let ⟨d, o, e⟩ := v; (h.val i d o e).2.1

/-- what is known of the addresses of several told things, jointly -/
structure Tgs (env : En) (τ : Nat → T) (H : Hp) (ts : List T) (o : Own) (u : List Nat) : Prop where
  cov : ∀ a ∈ T.fps ts, H a = none ∨ ∃ i ∈ u, isVal env i ∧ a ∈ (τ i).fp
  deep : o = .deep → (T.fps ts).Nodup ∧ T.plains ts ∧ ∀ i ∈ u, isDeep env i
/-- .. of one: top: its own list is new -/
structure Tg (env : En) (τ : Nat → T) (H : Hp) (t : T) (o : Own) (u : List Nat) : Prop where
  cov : ∀ a ∈ t.fp, H a = none ∨ ∃ i ∈ u, isVal env i ∧ a ∈ (τ i).fp
  deep : o = .deep → t.fp.Nodup ∧ t.plain ∧ ∀ i ∈ u, isDeep env i
  top : o = .top → ∀ k a xs, t = .node k a xs → H a = none ∧ a ∉ T.fps xs ∧ ∀ o, k ≠ .lst (some o)
section
variable {G : Gs} {F H H1 H2 : Hp} {A₀ : AP} {env : En} {τ : Nat → T} {σ : St} {t : T} {ts : List T} {o o' : Own} {u u' : List Nat}
theorem Tg.one (h : Tg env τ H t o u) : Tgs env τ H [t] o u := by
  refine ⟨fun a ha => h.cov a (by simpa [T.fps] using ha), fun e => ?_⟩
  obtain ⟨h1, h2, h3⟩ := h.deep e
  exact ⟨by simpa [T.fps] using h1, by simpa [T.plains] using h2, h3⟩
theorem Tg.flat (f : t.fp = []) (p : t.plain) (e : ∀ k a xs, t ≠ .node k a xs) : Tg env τ H t .deep [] :=
  ⟨fun a ha => by rw [f] at ha; simp at ha, fun _ => ⟨by rw [f]; exact List.nodup_nil, p, by simp⟩, fun _ k a xs q => absurd q (e k a xs)⟩
theorem Tg.leaf {d : D} : Tg env τ H (.leaf d) .deep [] := .flat (by simp [T.fp]) (by simp [T.plain]) (by simp)
theorem Tgs.nil : Tgs env τ H [] .deep [] := ⟨by simp [T.fps], fun _ => ⟨by simp [T.fps], by simp [T.plains], by simp⟩⟩
theorem Tg.mono (h : Tg env τ H1 t o u) (s : Same H H1) : Tg env τ H t o u :=
  ⟨fun a ha => (h.cov a ha).imp (fun z => s.free z) id, h.deep, fun e k a xs q => let ⟨x, y, z⟩ := h.top e k a xs q; ⟨s.free x, y, z⟩⟩
theorem Tgs.mono (h : Tgs env τ H1 ts o u) (s : Same H H1) : Tgs env τ H ts o u :=
  ⟨fun a ha => (h.cov a ha).imp (fun z => s.free z) id, h.deep⟩
theorem mem_disj {u w : List Nat} (h : disj u w = true) {i : Nat} (h1 : i ∈ u) : i ∉ w := by
  unfold disj at h
  have := List.all_eq_true.mp h i h1
  simpa using this
/-- told one after another -/
theorem Tgs.cons (E : EO G F A₀ env τ σ H) (h : Tg env τ H t o u) (s : Same H H1) (k : t.ok G H1) (h' : Tgs env τ H1 ts o' u') : Tgs env τ H (t :: ts) (cmb o u o' u').1 (cmb o u o' u').2 := by
  have c2 := (h'.mono s).cov
  have cv : ∀ a ∈ T.fps (t :: ts), H a = none ∨ ∃ i ∈ u ++ u', isVal env i ∧ a ∈ (τ i).fp := fun a ha => by
    simp only [T.fps, List.mem_append] at ha
    rcases ha with ha | ha
    · exact (h.cov a ha).imp id fun ⟨i, hi, q⟩ => ⟨i, List.mem_append_left _ hi, q⟩
    · exact (c2 a ha).imp id fun ⟨i, hi, q⟩ => ⟨i, List.mem_append_right _ hi, q⟩
  unfold cmb
  split
  · rename_i hc
    simp only [Bool.and_eq_true, decide_eq_true_eq] at hc
    obtain ⟨⟨e1, e2⟩, e3⟩ := hc
    obtain ⟨n1, p1, d1⟩ := h.deep e1
    obtain ⟨n2, p2, d2⟩ := h'.deep e2
    refine ⟨cv, fun _ => ⟨?_, by simp [T.plains, p1, p2], fun i hi => (List.mem_append.mp hi).elim (d1 i) (d2 i)⟩⟩
    simp only [T.fps]
    refine List.nodup_append.mpr ⟨n1, n2, fun a ha b hb e => ?_⟩
    subst e
    rcases h'.cov a hb with q | ⟨j, hj, vj, qj⟩
    · exact k.new q ha
    · rcases h.cov a ha with q | ⟨i, hi, vi, qi⟩
      · exact (E.ok vj).new q qj
      · have ne : j ≠ i := fun z => mem_disj e3 hi (z ▸ hj)
        exact (E.deep i (d1 i hi)).2.2.2 j ne vj a qi qj
  · exact ⟨cv, fun z => by cases z⟩
/-- others of the same addresses, fewer -/
theorem Tgs.sub {ts' : List T} (h : Tgs env τ H ts o u) (s : (T.fps ts').Sublist (T.fps ts)) (p : T.plains ts → T.plains ts') : Tgs env τ H ts' o u :=
  ⟨fun a ha => h.cov a (s.subset ha), fun e => let ⟨n, q, d⟩ := h.deep e; ⟨n.sublist s, p q, d⟩⟩
theorem Tgs.shared {ts' : List T} (h : Tgs env τ H ts o u) (s : ∀ a ∈ T.fps ts', a ∈ T.fps ts) : Tgs env τ H ts' .sh u :=
  ⟨fun a ha => h.cov a (s a ha), fun e => by cases e⟩
/-- a new list of them -/
theorem Tg.nw {p : Addr} {k : TK} (hk : ∀ o, k ≠ .lst (some o)) (hp : p ∉ T.fps ts) (n : H p = none) (h : Tgs env τ H ts o u) (ds : List D) (e : T.ds ts = ds) :
    Tg env τ H (.node k p ts) (newL k.dk ds o u).2.1 (newL k.dk ds o u).2.2 ∧ (T.node k p ts).d = (newL k.dk ds o u).1 := by
  subst e
  have pl : T.plains ts → (T.node k p ts).plain := fun q => by
    unfold T.plain
    refine ⟨?_, q⟩
    cases k with
    | lst fz => cases fz with
      | none => trivial
      | some o => exact absurd rfl (hk o)
    | tup => trivial
    | ins c d => trivial
  unfold newL
  split
  · rename_i hf
    obtain ⟨f1, f2⟩ := flatAll_fps hf
    refine ⟨⟨fun a ha => ?_, fun _ => ⟨by simp [T.fp, f1], pl f2, by simp⟩, fun z => by cases z⟩, by simp [T.d]⟩
    simp only [T.fp, f1, List.mem_singleton] at ha
    rw [ha]
    exact .inl n
  · refine ⟨⟨fun a ha => ?_, fun z => ?_, fun z k' a xs q => ?_⟩, by simp [T.d]⟩
    · simp only [T.fp, List.mem_cons] at ha
      rcases ha with rfl | ha
      · exact .inl n
      · exact h.cov a ha
    · have hd : o = .deep := by
        by_cases q : o = .deep
        · exact q
        · simp only [if_neg q] at z; cases z
      obtain ⟨n1, p1, d1⟩ := h.deep hd
      exact ⟨by simp only [T.fp]; exact List.nodup_cons.mpr ⟨hp, n1⟩, pl p1, d1⟩
    · cases q
      exact ⟨n, hp, hk⟩
theorem Tg.shared {t' : T} (h : ∀ a ∈ t'.fp, H a = none ∨ ∃ i ∈ u, isVal env i ∧ a ∈ (τ i).fp) : Tg env τ H t' .sh u :=
  ⟨h, fun e => Own.noConfusion e, fun e => Own.noConfusion e⟩
theorem Tg.fn {t' : T} (k : t'.ok G H1) (h : Tg env τ H t' o u) : Tg env τ H t' (fin t'.d o u).2.1 (fin t'.d o u).2.2 ∧ t'.d = (fin t'.d o u).1 := by
  unfold fin
  split
  · rename_i hf
    rw [(flat_fp k hf).2]
    exact ⟨.leaf, rfl⟩
  · exact ⟨h, rfl⟩
end

/-! ### what an expression's reading asks -/
def post (G : Gs) (W : WX) (env : En) (τ : Nat → T) (σ : St) (H : Hp) (Q : VK) : Rv → Prop
  | .no => False
  | .ok r => ∀ H' t, Same H H' → t.ok G H' → t.d = r.1 → Tg env τ H t r.2.1 r.2.2 → Q (t.v G) H'
  | .ex c => ∀ H', Same H H' → W (.ref (G.cls c)) none σ H'
structure CE₀ where
  G : Gs
  F : Hp
  A₀ : AP
  W : WX
def tE (C : CE₀) (f : En → Rv) : TE := fun σ H Q => ∃ env τ, EO C.G C.F C.A₀ env τ σ H ∧ post C.G C.W env τ σ H Q (f env)
def posts (G : Gs) (W : WX) (env : En) (τ : Nat → T) (σ : St) (H : Hp) (Q : List V → Hp → Prop) : R (List D × Own × List Nat) → Prop
  | .no => False
  | .ok r => ∀ H' ts, Same H H' → T.oks G H' ts → T.ds ts = r.1 → Tgs env τ H ts r.2.1 r.2.2 → Q (ts.map (T.v G)) H'
  | .ex c => ∀ H', Same H H' → W (.ref (G.cls c)) none σ H'
def tA (C : CE₀) (f : En → R (List D × Own × List Nat)) : TA := fun σ H Q => ∃ env τ, EO C.G C.F C.A₀ env τ σ H ∧ posts C.G C.W env τ σ H Q (f env)
def postT (G : Gs) (W : WX) (env : En) (τ : Nat → T) (σ : St) (H : Hp) (Q : Bool → Hp → Prop) : Rv → Prop
  | .no => False
  | .ok r => match r.1 with
    | .bl b => ∀ H', Same H H' → Q b H'
    | _ => False
  | .ex c => ∀ H', Same H H' → W (.ref (G.cls c)) none σ H'
def tT (C : CE₀) (f : En → Rv) : TT := fun σ H Q => ∃ env τ, EO C.G C.F C.A₀ env τ σ H ∧ postT C.G C.W env τ σ H Q (f env)

theorem PE.weak {X : Cx} {e : Expr} {t t' : TE} (h : PE X e t) (w : ∀ σ H Q, t' σ H Q → t σ H Q) : PE X e t' := ⟨fun pins s σ H Q I q => h.run pins s σ H Q I (w σ H Q q)⟩
theorem PT.weak {X : Cx} {e : Expr} {t t' : TT} (h : PT X e t) (w : ∀ σ H Q, t' σ H Q → t σ H Q) : PT X e t' := ⟨fun pins s σ H Q I q => h.run pins s σ H Q I (w σ H Q q)⟩
theorem PW.weak {X : Cx} {e : Expr} {t t' : TT} (h : PW X e t) (w : ∀ σ H Q, t' σ H Q → t σ H Q) : PW X e t' := ⟨fun wh pins s σ H Q I q => h.run wh pins s σ H Q I (w σ H Q q)⟩
theorem PA.weak {X : Cx} {es : List Expr} {t t' : TA} (h : PA X es t) (w : ∀ σ H Q, t' σ H Q → t σ H Q) : PA X es t' := ⟨fun pos pins s σ H Q I q => h.run pos pins s σ H Q I (w σ H Q q)⟩
theorem PS.weak {X : Cx} {st : Stmt} {t t' : TS} (h : PS X st t) (w : ∀ D σ H, t' D σ H → t D σ H) : PS X st t' := ⟨fun pins s σ H D I q => h.run pins s σ H D I (w D σ H q)⟩
theorem PSs.weak {X : Cx} {st : List Stmt} {t t' : TS} (h : PSs X st t) (w : ∀ D σ H, t' D σ H → t D σ H) : PSs X st t' := ⟨fun pins s σ H D I q => h.run pins s σ H D I (w D σ H q)⟩
theorem OpR.weak {X : Cx} {f : Value → Value → Sem Value} {r r' : R2} (h : OpR X f r) (w : ∀ x y H Q, r' x y H Q → r x y H Q) : OpR X f r' := fun pins s σ H x y v u Q I rx ry q => h pins s σ H x y v u Q I rx ry (w x y H Q q)

section
variable {C : CE₀}
/-- one part, then what is made of it -/
theorem tE.then {f : En → Rv} {g : En → (D × Own × List Nat) → Rv} {k : V → Hp → VK → Prop} {σ : St} {H : Hp} {Q : VK}
    (h : tE C (fun env => (f env).b (g env)) σ H Q)
    (step : ∀ env τ H1 t o u, EO C.G C.F C.A₀ env τ σ H → Same H H1 → t.ok C.G H1 → Tg env τ H t o u → post C.G C.W env τ σ H Q (g env (t.d, o, u)) → k (t.v C.G) H1 Q) :
    tE C f σ H (fun x H1 => k x H1 Q) := by
  obtain ⟨env, τ, E, h⟩ := h
  refine ⟨env, τ, E, ?_⟩
  dsimp only at h
  cases e : f env with
  | no => rw [e] at h; exact h
  | ex c => rw [e] at h; exact h
  | ok r =>
    rw [e] at h
    intro H1 t s ok ed tg
    obtain ⟨d, o, u⟩ := r
    dsimp only at ed tg
    subst ed
    exact step env τ H1 t o u E s ok tg h
/-- the same for a test -/
theorem tT.thenE {f : En → Rv} {g : En → (D × Own × List Nat) → Rv} {k : V → Hp → (Bool → Hp → Prop) → Prop} {σ : St} {H : Hp} {Q : Bool → Hp → Prop}
    (h : tT C (fun env => (f env).b (g env)) σ H Q)
    (step : ∀ env τ H1 t o u, EO C.G C.F C.A₀ env τ σ H → Same H H1 → t.ok C.G H1 → Tg env τ H t o u → postT C.G C.W env τ σ H Q (g env (t.d, o, u)) → k (t.v C.G) H1 Q) :
    tE C f σ H (fun x H1 => k x H1 Q) := by
  obtain ⟨env, τ, E, h⟩ := h
  refine ⟨env, τ, E, ?_⟩
  dsimp only at h
  cases e : f env with
  | no => rw [e] at h; exact h
  | ex c => rw [e] at h; exact h
  | ok r =>
    rw [e] at h
    intro H1 t s ok ed tg
    obtain ⟨d, o, u⟩ := r
    dsimp only at ed tg
    subst ed
    exact step env τ H1 t o u E s ok tg h
/-- what is asked at a heap holds at a later one -/
theorem post.mono {W : WX} {G : Gs} {env : En} {τ : Nat → T} {σ : St} {H H1 : Hp} {Q : VK} {r : Rv} (s : Same H H1) (h : post G W env τ σ H Q r) : post G W env τ σ H1 Q r := by
  cases r with
  | no => exact h
  | ex c => exact fun H' q => h H' (s.trans q)
  | ok r => exact fun H' t q ok e tg => h H' t (s.trans q) ok e (tg.mono s)
theorem postT.mono {W : WX} {G : Gs} {env : En} {τ : Nat → T} {σ : St} {H H1 : Hp} {Q : Bool → Hp → Prop} {r : Rv} (s : Same H H1) (h : postT G W env τ σ H Q r) : postT G W env τ σ H1 Q r := by
  cases r with
  | no => exact h
  | ex c => exact fun H' q => h H' (s.trans q)
  | ok r =>
    obtain ⟨d, o, u⟩ := r
    cases d with
    | bl b => exact fun H' q => h H' (s.trans q)
    | _ => exact h
/-- two parts -/
theorem tE.then2 {f f' : En → Rv} {g : En → (D × Own × List Nat) → (D × Own × List Nat) → Rv} {r : R2} {σ : St} {H : Hp} {Q : VK}
    (h : tE C (fun env => (f env).b fun x => (f' env).b fun y => g env x y) σ H Q)
    (step : ∀ env τ H1 H2 t o u t' o' u', EO C.G C.F C.A₀ env τ σ H → Same H H1 → Same H1 H2 → t.ok C.G H1 → t'.ok C.G H2 → Tg env τ H t o u → Tg env τ H1 t' o' u' → post C.G C.W env τ σ H Q (g env (t.d, o, u) (t'.d, o', u')) → r (t.v C.G) (t'.v C.G) H2 Q) :
    tOp r (tE C f) (tE C f') σ H Q := by
  refine tE.then (g := fun env x => (f' env).b fun y => g env x y) (k := fun x H1 Q => tE C f' σ H1 fun y H2 => r x y H2 Q) h fun env τ H1 t o u E s ok tg p => ?_
  refine ⟨env, τ, E.same s, ?_⟩
  cases e : f' env with
  | no => rw [e] at p; exact p
  | ex c => rw [e] at p; exact fun H' q => p H' (s.trans q)
  | ok r' =>
    rw [e] at p
    intro H2 t' s' ok' ed tg'
    obtain ⟨d, o', u'⟩ := r'
    dsimp only at ed tg'
    subst ed
    exact step env τ H1 H2 t o u t' o' u' E s s' ok ok' tg tg' p
end
end FR

namespace FR
open PySem PySem.Spec L2
section
variable {X : Cx} {G : Gs}

theorem lstR {pins : List (Addr × Obj)} {σ : L2.St} {H : Hp} {s : Shared} {l : Addr} {xs : List V} (I : Inv X pins σ H s) (h : Rd H l (.lst xs)) :
    xs.length ≤ sizeLine ∧ ∃ (its : List Value) (n : Nat), Vals xs its ∧ xs.length = its.length ∧ s.heap.get? l = some { cls := .type "list", data := .seq its.toArray n } := by
  obtain ⟨z, its, n, r, e⟩ := h.ok I.hok
  exact ⟨z, its, n, r, r.length, e⟩

/-! ### + * of lists -/
def rCatR : R2 := fun x y H Q => ∃ l b xs zs, x = .ref l ∧ y = .ref b ∧ Rd H l (.lst xs) ∧ Rd H b (.lst zs) ∧ xs.length + zs.length ≤ sizeLine ∧ ∀ p, H p = none → Q (.ref p) (upd H p (.lst (xs ++ zs)))
theorem op_catR : OpR X (binaryOp .Add) rCatR := by
  intro pins s σ H x y v u Q I rx ry h
  obtain ⟨l, b, xs, zs, rfl, rfl, hH, hB, hz, q⟩ := h
  cases rx
  cases ry
  obtain ⟨z, its, n, r, hl, e⟩ := lstR I hH
  obtain ⟨z2, its2, n2, r2, hl2, e2⟩ := lstR I hB
  refine PySem.P.add_list e e2 ?_ (by rw [List.size_toArray, List.size_toArray]; omega)
  have ea : its.toArray ++ its2.toArray = (its ++ its2).toArray := by simp
  rw [ea]
  exact ⟨.ref _, _, I.lnew (t' := s.toks) (r.append r2) (by rw [List.length_append]; omega), rfl, q _ I.fresh⟩
def rRepR : R2 := fun x y H Q => ∃ l k xs, x = .ref l ∧ y = .int k ∧ Rd H l (.lst xs) ∧ -(2 ^ 63) ≤ k ∧ k < 2 ^ 63 ∧ xs.length * k.toNat ≤ sizeLine ∧
  ∀ p, H p = none → Q (.ref p) (upd H p (.lst (List.replicate k.toNat xs).flatten))
theorem op_repR : OpR X (binaryOp .Mult) rRepR := by
  intro pins s σ H x y v u Q I rx ry h
  obtain ⟨l, k, xs, rfl, rfl, hH, h1, h2, hz, q⟩ := h
  cases rx
  obtain ⟨t, rfl⟩ := ry
  obtain ⟨z, its, n, r, hl, e⟩ := lstR I hH
  have hlen : its.toArray.size * k.toNat ≤ sizeLine := by rw [List.size_toArray, ← hl]; exact hz
  have hcap : ¬ its.toArray.size * k.toNat > (2 ^ 63 - 1) / 8 := by
    have : (sizeLine : Nat) ≤ (2 ^ 63 - 1) / 8 := by decide
    omega
  have hfit : ¬ (!Builtin.List.listFitsIndex k) = true := by
    rw [fitsIndex_both h1 h2]
    exact Bool.false_ne_true
  have hlong : ¬ Builtin.List.listTooLong (its.toArray.size * k.toNat) = true := by
    rw [notLongL hlen]
    exact Bool.false_ne_true
  have hnew : List.foldl (fun x1 x2 => x1 ++ x2) #[] (List.replicate (if its.toArray.isEmpty = true then 0 else k.toNat) its.toArray) = (List.replicate k.toNat its).flatten.toArray := by
    have f0 : ∀ m : Nat, List.foldl (fun x1 x2 => x1 ++ x2) #[] (List.replicate m its.toArray) = (List.replicate m its).flatten.toArray := fun m => by
      have := foldl_rep its m []
      rw [List.nil_append] at this
      exact this
    rw [f0]
    cases its with
    | nil => simp
    | cons a r' => rw [if_neg (by simp)]
  refine wpAny_binaryOp_repeat_ref (T := "list") (U := "int") (by decide) ⟨_, e, rfl⟩ (fun s' => typeIs_int s' k t) noFill_list_mul F.fills_int_mul F.slot_int_rmul repeat_list F.slot_int_index.lookup
    (call_meets F.slot_int_rmul (typeIs_int s k t) F.entry_int_rmul (F.args_int_rmul_2 _ _) (int___rmul___int_list k t l its.toArray n)
      ⟨e, rfl, ⟨_, e, rfl⟩, call_meets F.slot_list_mul ⟨_, e, rfl⟩ F.entry_list_mul (F.args_list_mul_2 _ _) (AutoListH.list___mul___list_int_3 l its.toArray n k t hfit hcap hlong) ⟨e, ?_⟩⟩)
  rw [hnew]
  exact ⟨.ref _, _, I.lnew (t' := s.toks) (r.rep k.toNat) (by rw [PyProof.Rows.lm_len_rep_flat, Nat.mul_comm]; exact hz), rfl, q _ I.fresh⟩

/-! ### numbers -/
theorem mulOk_ok {i j : Int} (h : mulOk i j = true) : IntMulOk i j := by
  have b : ∀ x : Int, Builtin.Int.intBits x ≤ x.natAbs.log2 + 1 := fun x => by
    unfold Builtin.Int.intBits
    split <;> omega
  have bits : ∀ x : Int, x.natAbs < 18446744073709551616 → Builtin.Int.intBits x ≤ 64 := fun x hx => intBits_le_64 (by omega) (by omega)
  unfold mulOk at h
  simp only [Bool.or_eq_true, decide_eq_true_eq] at h
  rcases h with (h | h) | h
  · exact .of_left (bits i h)
  · exact .of_right (bits j h)
  · have h1 := b i
    have h2 := b j
    have e : bitsLine = 134217728 := by decide
    unfold IntMulOk
    intro z
    rw [Bool.and_eq_true] at z
    have z2 := z.2
    unfold Builtin.Int.intTooBig at z2
    have z3 := of_decide_eq_true z2
    rw [e] at z3
    omega
def opO : BO → Operator
  | .add => .Add | .sub => .Sub | .mul => .Mult | .fdiv => .FloorDiv | .mod => .Mod | .pow => .Pow
def rInt (op : BO) : R2 := fun x y H Q => ∃ i j z, x = .int i ∧ y = .int j ∧ binI op i j = some z ∧ Q (.int z) H
theorem mul_of {i j z : Int} (h : binI .mul i j = some z) : mulOk i j = true ∧ z = i * j := by
  change (if mulOk i j = true then some (i * j) else none) = some z at h
  split at h
  · cases h; exact ⟨by assumption, rfl⟩
  · cases h
theorem fdiv_of {i j z : Int} (h : binI .fdiv i j = some z) : CDivW i j ∧ z = i / j := by
  change (if divOk j = true then some (i / j) else none) = some z at h
  split at h
  · rename_i hd
    cases h
    unfold divOk at hd
    simp only [Bool.and_eq_true, decide_eq_true_eq] at hd
    exact ⟨hd, rfl⟩
  · cases h
theorem mod_of {i j z : Int} (h : binI .mod i j = some z) : 0 < j ∧ z = i % j := by
  change (if decide (0 < j) = true then some (i % j) else none) = some z at h
  split at h
  · rename_i hd
    cases h
    exact ⟨of_decide_eq_true hd, rfl⟩
  · cases h
theorem pow_of {i j z : Int} (h : binI .pow i j = some z) : CPow i j ∧ z = i ^ j.toNat := by
  change (if powOk i j = true then some (i ^ j.toNat) else none) = some z at h
  split at h
  · rename_i hd
    cases h
    unfold powOk at hd
    simp only [Bool.and_eq_true, decide_eq_true_eq] at hd
    exact ⟨⟨hd.1.1, hd.1.2, hd.2⟩, rfl⟩
  · cases h
theorem add_of {i j z : Int} (h : binI .add i j = some z) : z = i + j := by cases h; rfl
theorem sub_of {i j z : Int} (h : binI .sub i j = some z) : z = i - j := by cases h; rfl
theorem op_mulX : OpR X (binaryOp .Mult) (rI IntMulOk fun i j => .int (i * j)) := opI fun _ _ _ _ _ _ _ hc q => PyProof.Rows.mul_int q hc
theorem iop_mulX : OpR X (inplaceOp .Mult) (rI IntMulOk fun i j => .int (i * j)) := opI fun _ _ _ _ _ _ _ hc q => PyProof.Rows.imul_int q hc
theorem iop_fdivX : OpR X (inplaceOp .FloorDiv) (rI CDivW fun i j => .int (i / j)) := opI fun i j _ _ _ _ _ hc q => by
  have h1 : (0 : Int) < j := hc.1
  exact PyProof.Rows.ifloordiv_int (by omega) (by rw [Int.fdiv_eq_ediv_of_nonneg i (by omega)]; exact q) (.inl (PyProof.noPylong_of_log2 hc.2))
theorem op_int : ∀ op : BO, OpR X (binaryOp (opO op)) (rInt op)
  | .add => OpR.weak op_add fun x y H Q ⟨i, j, z, e1, e2, e3, q⟩ => ⟨i, j, e1, e2, by cases add_of e3; exact q⟩
  | .sub => OpR.weak op_sub fun x y H Q ⟨i, j, z, e1, e2, e3, q⟩ => ⟨i, j, e1, e2, by cases sub_of e3; exact q⟩
  | .mul => OpR.weak op_mulX fun x y H Q ⟨i, j, z, e1, e2, e3, q⟩ => ⟨i, j, e1, e2, mulOk_ok (mul_of e3).1, by cases (mul_of e3).2; exact q⟩
  | .fdiv => OpR.weak op_fdivW fun x y H Q ⟨i, j, z, e1, e2, e3, q⟩ => ⟨i, j, e1, e2, (fdiv_of e3).1, by cases (fdiv_of e3).2; exact q⟩
  | .mod => OpR.weak op_mod fun x y H Q ⟨i, j, z, e1, e2, e3, q⟩ => ⟨i, j, e1, e2, (mod_of e3).1, by cases (mod_of e3).2; exact q⟩
  | .pow => OpR.weak op_pow fun x y H Q ⟨i, j, z, e1, e2, e3, q⟩ => ⟨i, j, e1, e2, (pow_of e3).1, by cases (pow_of e3).2; exact q⟩
theorem iop_int : ∀ op : BO, op = .add ∨ op = .sub ∨ op = .mul ∨ op = .fdiv → OpR X (inplaceOp (opO op)) (rInt op)
  | .add, _ => OpR.weak iop_add fun x y H Q ⟨i, j, z, e1, e2, e3, q⟩ => ⟨i, j, e1, e2, by cases add_of e3; exact q⟩
  | .sub, _ => OpR.weak iop_sub fun x y H Q ⟨i, j, z, e1, e2, e3, q⟩ => ⟨i, j, e1, e2, by cases sub_of e3; exact q⟩
  | .mul, _ => OpR.weak iop_mulX fun x y H Q ⟨i, j, z, e1, e2, e3, q⟩ => ⟨i, j, e1, e2, mulOk_ok (mul_of e3).1, by cases (mul_of e3).2; exact q⟩
  | .fdiv, _ => OpR.weak iop_fdivX fun x y H Q ⟨i, j, z, e1, e2, e3, q⟩ => ⟨i, j, e1, e2, (fdiv_of e3).1, by cases (fdiv_of e3).2; exact q⟩
  | .mod, h => absurd h (by simp)
  | .pow, h => absurd h (by simp)
/-- op on two things told: numbers, lists -/
def rBin (G : Gs) (op : BO) : R2 := fun x y H Q => rInt op x y H Q ∨ (op = .add ∧ rCatR x y H Q) ∨ (op = .mul ∧ rRepR x y H Q)
theorem op_bin (op : BO) : OpR X (binaryOp (opO op)) (rBin G op) := by
  intro pins s σ H x y v u Q I rx ry h
  rcases h with h | ⟨rfl, h⟩ | ⟨rfl, h⟩
  · exact op_int op pins s σ H x y v u Q I rx ry h
  · exact op_catR pins s σ H x y v u Q I rx ry h
  · exact op_repR pins s σ H x y v u Q I rx ry h

/-! ### == of data; in -/
mutual
theorem dp_of {H : Hp} : ∀ {t : T} {p : PyData}, t.ok G H → t.d.py = some p → Dp G.K H (t.v G) p
  | .leaf d, p, k, e => by
    unfold T.ok at k
    simp only [T.d] at e
    cases d with
    | non => simp only [D.py, Option.some.injEq] at e; subst e; exact Dp.non
    | bl b => simp only [D.py, Option.some.injEq] at e; subst e; exact Dp.bl b
    | int i => simp only [D.py, Option.some.injEq] at e; subst e; exact Dp.int i
    | str x => simp only [D.py, Option.some.injEq] at e; subst e; exact Dp.str x
    | fn k => simp [D.py] at e
    | node _ _ => cases k
  | .node k a xs, p, ok, e => by
    unfold T.ok at ok
    simp only [T.d] at e
    cases k with
    | lst fz =>
      simp only [TK.dk, D.py, Option.map_eq_some_iff] at e
      obtain ⟨ps, e1, rfl⟩ := e
      exact Dp.lst (.inl (ok.1.list rfl)) (dps_of ok.2 e1)
    | tup =>
      simp only [TK.dk, D.py, Option.map_eq_some_iff] at e
      obtain ⟨ps, e1, rfl⟩ := e
      exact Dp.tup (.inl (.inl (ok.1.tup rfl))) (dps_of ok.2 e1)
    | ins c dx => simp [TK.dk, D.py] at e
theorem dps_of {H : Hp} : ∀ {ts : List T} {ps : List PyData}, T.oks G H ts → D.pys (T.ds ts) = some ps → DpAll G.K H (ts.map (T.v G)) ps
  | [], ps, _, e => by
    simp only [T.ds, D.pys, Option.some.injEq] at e
    subst e
    exact DpAll.nil
  | t :: ts, ps, ok, e => by
    unfold T.oks at ok
    simp only [T.ds, D.pys, Option.bind_eq_some_iff, Option.some.injEq] at e
    obtain ⟨p, e1, q, e2, rfl⟩ := e
    exact DpAll.cons (dp_of ok.1 e1) (dps_of ok.2 e2)
end
theorem flatV_lv {d : D} (h : d.pl = true) : flatV (lv G d) = true := by cases d <;> simp_all [D.pl, lv, flatV]
theorem eqV_lv {d e : D} (h : d.pl = true) (h' : e.pl = true) : eqV (lv G d) (lv G e) = eqf d e := by
  cases d <;> cases e <;> simp_all [D.pl, lv, eqV, eqf]
theorem pl_flat {d : D} (h : d.pl = true) : d.flat = true := by cases d <;> simp_all [D.pl, D.flat]
theorem vs_flat {H : Hp} : ∀ {ts : List T}, T.oks G H ts → (T.ds ts).all D.flat = true → ts.map (T.v G) = (T.ds ts).map (lv G)
  | [], _, _ => rfl
  | t :: ts, k, f => by
    unfold T.oks at k
    simp only [T.ds, List.all_cons, Bool.and_eq_true] at f
    simp only [T.ds, List.map_cons, vs_flat k.2 f.2, k.1.leaf f.1]
theorem vs_pl {H : Hp} {ts : List T} (k : T.oks G H ts) (f : (T.ds ts).all D.pl = true) : ts.map (T.v G) = (T.ds ts).map (lv G) :=
  vs_flat k (List.all_eq_true.mpr fun d hd => pl_flat (List.all_eq_true.mp f d hd))
theorem all_flatV {ds : List D} (f : ds.all D.pl = true) : (ds.map (lv G)).all flatV = true := by
  rw [List.all_map]
  exact List.all_eq_true.mpr fun d hd => flatV_lv (List.all_eq_true.mp f d hd)
theorem inV_lv {x : D} (h : x.pl = true) : ∀ {ds : List D}, ds.all D.pl = true → inV (lv G x) (ds.map (lv G)) = ds.any fun y => eqf y x
  | [], _ => rfl
  | d :: ds, f => by
    simp only [List.all_cons, Bool.and_eq_true] at f
    have := inV_lv h f.2
    unfold inV at this ⊢
    simp only [List.map_cons, List.any_cons, this, eqV_lv f.1 h]
theorem memD_of {x : D} {xs : List D} {b : Bool} (h : memD x xs = some b) : x.pl = true ∧ xs.all D.pl = true ∧ b = xs.any fun y => eqf y x := by
  unfold memD at h
  split at h
  · rename_i hc
    simp only [Bool.and_eq_true] at hc
    cases h
    exact ⟨hc.1, hc.2, rfl⟩
  · cases h
def cmpO : CO → CmpOp
  | .eq => .Eq | .ne => .NotEq | .lt => .Lt | .le => .LtE | .gt => .Gt | .ge => .GtE | .is_ => .Is | .isn => .IsNot | .in_ => .In | .nin => .NotIn
def rCmp (G : Gs) (op : CO) : R2 := fun x y H Q => ∃ (t t' : T) (b : Bool), x = t.v G ∧ y = t'.v G ∧ t.ok G H ∧ t'.ok G H ∧ cmpD op t.d t'.d = .ok b ∧ Q (.bl b) H
theorem R.of_ok {α : Type} {o : Option α} {a : α} (h : R.of o = .ok a) : o = some a := by
  cases o with
  | none => cases h
  | some b => cases h; rfl
theorem R.b_ok {α β : Type} {x : R α} {f : α → R β} {b : β} (h : x.b f = .ok b) : ∃ a, x = .ok a ∧ f a = .ok b := by
  cases x with
  | no => cases h
  | ex c => cases h
  | ok a => exact ⟨a, rfl, h⟩
theorem int_of {H : Hp} {t : T} {i : Int} (k : t.ok G H) (e : t.d = .int i) : t.v G = .int i := by
  have := k.leaf (by rw [e]; rfl)
  rw [this, e]; rfl
theorem bl_of {H : Hp} {t : T} {i : Bool} (k : t.ok G H) (e : t.d = .bl i) : t.v G = .bl i := by
  have := k.leaf (by rw [e]; rfl)
  rw [this, e]; rfl
theorem eq_of {H : Hp} {t t' : T} {b : Bool} (k : t.ok G H) (k' : t'.ok G H) (h : t.d.eq? t'.d = some b) : ∃ p q, Dp G.K H (t.v G) p ∧ Dp G.K H (t'.v G) q ∧ SeqAt.shaped p = true ∧ SeqAt.shaped q = true ∧ PyData.eqv p q = b := by
  unfold D.eq? at h
  simp only [Option.bind_eq_some_iff] at h
  obtain ⟨p, e1, q, e2, h⟩ := h
  split at h
  · rename_i hs
    simp only [Bool.and_eq_true] at hs
    cases h
    exact ⟨p, q, dp_of k e1, dp_of k' e2, hs.1, hs.2, rfl⟩
  · cases h
theorem int2_of {op : CO} {p : Int → Int → Bool} {x y : D} {b : Bool} (hp : ∀ x y, cmpD op x y = match x, y with | .int i, .int j => .ok (p i j) | _, _ => .no) (h : cmpD op x y = .ok b) : ∃ i j, x = .int i ∧ y = .int j ∧ b = p i j := by
  rw [hp] at h
  split at h
  · cases h; exact ⟨_, _, rfl, rfl, rfl⟩
  · cases h
def isNonD : D → Bool
  | .non => true
  | _ => false
theorem is_of {x y : D} {b : Bool} (h : cmpD .is_ x y = .ok b) : (∃ p q, x = .bl p ∧ y = .bl q ∧ b = decide (p = q)) ∨ (y = .non ∧ b = isNonD x) := by
  cases x <;> cases y <;> first | (cases h; done) | (cases h; exact .inl ⟨_, _, rfl, rfl, rfl⟩) | (cases h; exact .inr ⟨rfl, rfl⟩)
theorem isn_of {x y : D} {b : Bool} (h : cmpD .isn x y = .ok b) : (∃ p q, x = .bl p ∧ y = .bl q ∧ b = !decide (p = q)) ∨ (y = .non ∧ b = !isNonD x) := by
  cases x <;> cases y <;> first | (cases h; done) | (cases h; exact .inl ⟨_, _, rfl, rfl, rfl⟩) | (cases h; exact .inr ⟨rfl, rfl⟩)
theorem non_iff {H : Hp} {t : T} (k : t.ok G H) : decide (t.v G = .non) = isNonD t.d := by
  cases t with
  | leaf d =>
    unfold T.ok at k
    cases d <;> simp_all [T.v, T.d, lv, D.flat, isNonD]
  | node _ _ _ => simp [T.v, T.d, isNonD]
theorem seq_of {H : Hp} {t : T} {ds : List D} (k : t.ok G H) (e : t.d = .node .lst ds ∨ t.d = .node .tup ds) :
    ∃ a vs, t.v G = .ref a ∧ (SqL G.K H a vs ∨ SqT G.K H a vs) ∧ (ds.all D.pl = true → vs = ds.map (lv G)) := by
  rcases e with e | e
  · obtain ⟨tk, a, xs, rfl, e1, e2, e3, e4⟩ := k.node e
    refine ⟨a, _, rfl, .inl (.inl (e3.list e1)), fun f => ?_⟩
    subst e2
    exact vs_pl e4 f
  · obtain ⟨tk, a, xs, rfl, e1, e2, e3, e4⟩ := k.node e
    refine ⟨a, _, rfl, .inr (.inl (.inl (e3.tup e1))), fun f => ?_⟩
    subst e2
    exact vs_pl e4 f
theorem op_cmp (hK : X.K = G.K) (hu : X.A.units + 64 < cLine) : ∀ op : CO, OpR X (compareOp (cmpO op)) (rCmp G op)
  | .eq => OpR.weak (op_eqD hu) fun x y H Q ⟨t, t', b, e1, e2, k, k', h, q⟩ => by
    obtain ⟨p, r, d1, d2, s1, s2, e⟩ := eq_of k k' (R.of_ok h)
    subst e1 e2
    rw [← hK] at d1 d2
    exact ⟨p, r, d1, d2, s1, s2, by rw [e]; exact q⟩
  | .ne => OpR.weak (op_neD hu) fun x y H Q ⟨t, t', b, e1, e2, k, k', h, q⟩ => by
    obtain ⟨b', h1, h2⟩ := R.b_ok (show ((R.of (t.d.eq? t'.d)).b fun b => R.ok (!b)) = .ok b from h)
    obtain ⟨p, r, d1, d2, s1, s2, e⟩ := eq_of k k' (R.of_ok h1)
    subst e1 e2
    rw [← hK] at d1 d2
    cases h2
    exact ⟨p, r, d1, d2, s1, s2, by rw [e]; exact q⟩
  | .lt => OpR.weak op_lt fun x y H Q ⟨t, t', b, e1, e2, k, k', h, q⟩ => by
    obtain ⟨i, j, d1, d2, rfl⟩ := int2_of (p := fun i j => decide (i < j)) (fun x y => rfl) h
    exact ⟨i, j, by rw [e1, int_of k d1], by rw [e2, int_of k' d2], q⟩
  | .le => OpR.weak op_le fun x y H Q ⟨t, t', b, e1, e2, k, k', h, q⟩ => by
    obtain ⟨i, j, d1, d2, rfl⟩ := int2_of (p := fun i j => decide (i ≤ j)) (fun x y => rfl) h
    exact ⟨i, j, by rw [e1, int_of k d1], by rw [e2, int_of k' d2], q⟩
  | .gt => OpR.weak op_gt fun x y H Q ⟨t, t', b, e1, e2, k, k', h, q⟩ => by
    obtain ⟨i, j, d1, d2, rfl⟩ := int2_of (p := fun i j => decide (j < i)) (fun x y => rfl) h
    exact ⟨i, j, by rw [e1, int_of k d1], by rw [e2, int_of k' d2], q⟩
  | .ge => OpR.weak op_ge fun x y H Q ⟨t, t', b, e1, e2, k, k', h, q⟩ => by
    obtain ⟨i, j, d1, d2, rfl⟩ := int2_of (p := fun i j => decide (j ≤ i)) (fun x y => rfl) h
    exact ⟨i, j, by rw [e1, int_of k d1], by rw [e2, int_of k' d2], q⟩
  | .is_ => OpR.weak (OpR.or op_isBl op_isN) fun x y H Q ⟨t, t', b, e1, e2, k, k', h, q⟩ => by
    rcases is_of h with ⟨i, j, d1, d2, rfl⟩ | ⟨d2, rfl⟩
    · exact .inl ⟨i, j, by rw [e1, bl_of k d1], by rw [e2, bl_of k' d2], q⟩
    · refine .inr ⟨by rw [e2, k'.leaf (by rw [d2]; rfl), d2]; rfl, ?_⟩
      rw [e1, non_iff k]; exact q
  | .isn => OpR.weak (OpR.or op_notBl op_notN) fun x y H Q ⟨t, t', b, e1, e2, k, k', h, q⟩ => by
    rcases isn_of h with ⟨i, j, d1, d2, rfl⟩ | ⟨d2, rfl⟩
    · exact .inl ⟨i, j, by rw [e1, bl_of k d1], by rw [e2, bl_of k' d2], q⟩
    · refine .inr ⟨by rw [e2, k'.leaf (by rw [d2]; rfl), d2]; rfl, ?_⟩
      rw [e1, non_iff k]; exact q
  | .in_ => OpR.weak op_in_seq fun x y H Q ⟨t, t', b, e1, e2, k, k', h, q⟩ => by
    obtain ⟨ds, hd, hm⟩ : ∃ ds, (t'.d = .node .lst ds ∨ t'.d = .node .tup ds) ∧ memD t.d ds = some b := by
      have h : (match t'.d with | .node .lst ys => R.of (memD t.d ys) | .node .tup ys => R.of (memD t.d ys) | _ => R.no) = .ok b := h
      split at h
      · exact ⟨_, .inl (by assumption), R.of_ok h⟩
      · exact ⟨_, .inr (by assumption), R.of_ok h⟩
      · cases h
    obtain ⟨a, vs, e3, e4, e5⟩ := seq_of k' hd
    obtain ⟨p1, p2, rfl⟩ := memD_of hm
    have e6 := e5 p2
    refine ⟨a, vs, by rw [e2, e3], by rw [hK]; exact e4, by rw [e1, k.leaf (pl_flat p1)]; exact flatV_lv p1, by rw [e6]; exact all_flatV p2, ?_⟩
    rw [e6, e1, k.leaf (pl_flat p1), inV_lv p1 p2]
    exact q
  | .nin => OpR.weak op_notIn_seq fun x y H Q ⟨t, t', b, e1, e2, k, k', h, q⟩ => by
    obtain ⟨ds, b', hd, hm, hb⟩ : ∃ ds b', (t'.d = .node .lst ds ∨ t'.d = .node .tup ds) ∧ memD t.d ds = some b' ∧ b = !b' := by
      have h : (match t'.d with | .node .lst ys => (R.of (memD t.d ys)).b fun b => R.ok (!b) | .node .tup ys => (R.of (memD t.d ys)).b fun b => R.ok (!b) | _ => R.no) = .ok b := h
      split at h
      · obtain ⟨b', h1, h2⟩ := R.b_ok h
        cases h2
        exact ⟨_, b', .inl (by assumption), R.of_ok h1, rfl⟩
      · obtain ⟨b', h1, h2⟩ := R.b_ok h
        cases h2
        exact ⟨_, b', .inr (by assumption), R.of_ok h1, rfl⟩
      · cases h
    subst hb
    obtain ⟨a, vs, e3, e4, e5⟩ := seq_of k' hd
    obtain ⟨p1, p2, rfl⟩ := memD_of hm
    have e6 := e5 p2
    refine ⟨a, vs, by rw [e2, e3], by rw [hK]; exact e4, by rw [e1, k.leaf (pl_flat p1)]; exact flatV_lv p1, by rw [e6]; exact all_flatV p2, ?_⟩
    rw [e6, e1, k.leaf (pl_flat p1), inV_lv p1 p2]
    exact q
end
end FR

namespace FR
open PySem PySem.Spec L2

/-! ### the compact text against the row's own -/
inductive GC where
  | int (i : Int) | tup (ns : List Int)
  deriving DecidableEq
structure Tb where
  N : List Str
  fns : List Str
  gn : List (Str × GC)
  free : List Str
  cn : List Str
  ci : List Nat
  ki : List Nat
  exs : List Str
def visB (sc : Scope) (x : Str) : Bool := match sc.names.lookup x with
  | some .local => true
  | some .cell => true
  | some .free => true
  | _ => false
def glB (sc : Scope) (x : Str) : Bool := match sc.names.lookup x with
  | some .globalImplicit => true
  | _ => false
def okN (x : Str) : Bool := !(x == ("__debug__" : Str)) && !(x == ("__classdict__" : Str)) && !(x == ("__name__" : Str)) && !(x == Str.empty)
def slotB (b : Tb) (sc : Scope) (i : Nat) (x : Str) : Bool := decide (b.N[i]? = some x) && visB sc x && okN x
def bltB (b : Tb) (sc : Scope) (x : Str) (y : Str) : Bool := decide (x = y) && glB sc x && b.free.contains x
def constB : D → Const → Bool
  | .non, .none => true
  | .bl a, .bool b => a == b
  | .int i, .int j => decide (i = j)
  | .str x, .str y => decide (x = y)
  | _, _ => false
def opB (op : BO) (o : Operator) : Bool := decide (opO op = o)
def cmpB (op : CO) (o : CmpOp) : Bool := decide (cmpO op = o)
def plainIx : Expr → Bool
  | .Slice .. => false
  | _ => true
def plainSet : Expr → Bool
  | .Set .. => false
  | _ => true
def attB : Expr → Bool
  | .Call _ [] _ _ => false
  | _ => true
def okSt : Expr → Bool
  | .Starred .. => false
  | _ => true
def nameL (b : Tb) (sc : Scope) (fn : Str → Bool) (i : Nat) (x : Str) : Bool := decide (b.N[i]? = some x) && (decide (sc.names.lookup x = some .local) || (decide (sc.names.lookup x = some .cell) && fn x))
def tgB (b : Tb) (sc : Scope) (fn : Str → Bool) : List Nat → Expr → Bool
  | [i], .Name x _ => nameL b sc fn i x
  | [i, j], .Tuple [.Name x _, .Name y _] _ _ => nameL b sc fn i x && nameL b sc fn j y && decide (i ≠ j)
  | _, _ => false
def ownOf (b : Tb) (tg : List Nat) : List (Str × Nat) := tg.map fun i => ((b.N[i]?).getD Str.empty, i)
def noTuple : List Nat → Bool
  | [_] => true
  | _ => false
def vName : Expr → Option Str
  | .Name x _ => some x
  | _ => none
theorem vName_of {e : Expr} {x : Str} (h : vName e = some x) : ∃ p, e = .Name x p := by
  unfold vName at h; split at h <;> simp_all
def vConst : Expr → Option Const
  | .Constant c _ _ => some c
  | _ => none
theorem vConst_of {e : Expr} {x : Const} (h : vConst e = some x) : ∃ j p, e = .Constant x j p := by
  unfold vConst at h; split at h <;> simp_all
def vBin : Expr → Option (Expr × Operator × Expr)
  | .BinOp l o r _ => some (l, o, r)
  | _ => none
theorem vBin_of {e : Expr} {l r : Expr} {o : Operator} (h : vBin e = some (l, o, r)) : ∃ p, e = .BinOp l o r p := by
  unfold vBin at h; split at h <;> simp_all
def vUn : Expr → Option (UnaryOp × Expr)
  | .UnaryOp o e _ => some (o, e)
  | _ => none
theorem vUn_of {e l : Expr} {o : UnaryOp} (h : vUn e = some (o, l)) : ∃ p, e = .UnaryOp o l p := by
  unfold vUn at h; split at h <;> simp_all
def vCmp : Expr → Option (Expr × CmpOp × Expr)
  | .Compare l [o] [r] _ => some (l, o, r)
  | _ => none
theorem vCmp_of {e : Expr} {l r : Expr} {o : CmpOp} (h : vCmp e = some (l, o, r)) : ∃ p, e = .Compare l [o] [r] p := by
  unfold vCmp at h; split at h <;> simp_all
def vCh : Expr → Option (Expr × CmpOp × Expr × CmpOp × Expr)
  | .Compare l [o, p] [r, s] _ => some (l, o, r, p, s)
  | _ => none
theorem vCh_of {e : Expr} {l r s : Expr} {o q : CmpOp} (h : vCh e = some (l, o, r, q, s)) : ∃ p, e = .Compare l [o, q] [r, s] p := by
  unfold vCh at h; split at h <;> simp_all
def vBool : Expr → Option (BoolOp × Expr × Expr × List Expr × Pos)
  | .BoolOp o (e :: e' :: r) p => some (o, e, e', r, p)
  | _ => none
theorem vBool_of {e x y : Expr} {r : List Expr} {o : BoolOp} {p : Pos} (h : vBool e = some (o, x, y, r, p)) : e = .BoolOp o (x :: y :: r) p := by
  unfold vBool at h; split at h <;> simp_all
def vIf : Expr → Option (Expr × Expr × Expr)
  | .IfExp c x y _ => some (c, x, y)
  | _ => none
theorem vIf_of {e c x y : Expr} (h : vIf e = some (c, x, y)) : ∃ p, e = .IfExp c x y p := by
  unfold vIf at h; split at h <;> simp_all
def vList : Expr → Option (List Expr)
  | .List l _ => some l
  | _ => none
theorem vList_of {e : Expr} {l : List Expr} (h : vList e = some l) : ∃ p, e = .List l p := by
  unfold vList at h; split at h <;> simp_all
def vTup : Expr → Option (List Expr)
  | .Tuple l _ _ => some l
  | _ => none
theorem vTup_of {e : Expr} {l : List Expr} (h : vTup e = some l) : ∃ k p, e = .Tuple l k p := by
  unfold vTup at h; split at h <;> simp_all
def vSub : Expr → Option (Expr × Expr)
  | .Subscript l r _ => some (l, r)
  | _ => none
theorem vSub_of {e l r : Expr} (h : vSub e = some (l, r)) : ∃ p, e = .Subscript l r p := by
  unfold vSub at h; split at h <;> simp_all
def vSl : Expr → Option (Expr × Option Expr × Option Expr)
  | .Subscript l (.Slice a c none _) _ => some (l, a, c)
  | _ => none
theorem vSl_of {e l : Expr} {a c : Option Expr} (h : vSl e = some (l, a, c)) : ∃ p q, e = .Subscript l (.Slice a c none q) p := by
  unfold vSl at h; split at h <;> simp_all
def vRev : Expr → Option Expr
  | .Subscript l (.Slice none none (some (.UnaryOp .USub (.Constant (.int 1) _ _) _)) _) _ => some l
  | _ => none
theorem vRev_of {e l : Expr} (h : vRev e = some l) : ∃ j p1 p2 p3 p4, e = .Subscript l (.Slice none none (some (.UnaryOp .USub (.Constant (.int 1) j p1) p2)) p3) p4 := by
  unfold vRev at h; split at h <;> simp_all
def vSt2 : Expr → Option (Expr × Expr)
  | .Subscript l (.Slice (some a) none (some (.Constant (.int 2) _ _)) _) _ => some (l, a)
  | _ => none
theorem vSt2_of {e l a : Expr} (h : vSt2 e = some (l, a)) : ∃ j p1 p3 p4, e = .Subscript l (.Slice (some a) none (some (.Constant (.int 2) j p1)) p3) p4 := by
  unfold vSt2 at h; split at h <;> simp_all
def vCall : Expr → Option (Str × List Expr)
  | .Call (.Name x _) l [] _ => some (x, l)
  | _ => none
theorem vCall_of {e : Expr} {x : Str} {l : List Expr} (h : vCall e = some (x, l)) : ∃ p q, e = .Call (.Name x p) l [] q := by
  unfold vCall at h; split at h <;> simp_all
def one? {α : Type} : List α → Option α
  | [x] => some x
  | _ => none
theorem one_of {α : Type} {l : List α} {x : α} (h : one? l = some x) : l = [x] := by
  unfold one? at h; split at h <;> simp_all
def two? {α : Type} : List α → Option (α × α)
  | [x, y] => some (x, y)
  | _ => none
theorem two_of {α : Type} {l : List α} {x y : α} (h : two? l = some (x, y)) : l = [x, y] := by
  unfold two? at h; split at h <;> simp_all
/-- f(e), f a built-in by its name -/
def vB1 (b : Tb) (sc : Scope) (y : Str) (e : Expr) : Option Expr := match vCall e with
  | some (x, l) => match one? l with
    | some a => if bltB b sc x y && okSt a then some a else none
    | none => none
  | none => none
theorem vB1_of {b : Tb} {sc : Scope} {y : Str} {e a : Expr} (h : vB1 b sc y e = some a) : ∃ x p q, e = .Call (.Name x p) [a] [] q ∧ bltB b sc x y = true ∧ okSt a = true := by
  unfold vB1 at h
  split at h
  · rename_i x l e1
    split at h
    · rename_i a' e2
      split at h
      · rename_i hc
        cases h
        obtain ⟨p, q, rfl⟩ := vCall_of e1
        rw [one_of e2]
        simp only [Bool.and_eq_true] at hc
        exact ⟨x, p, q, rfl, hc⟩
      · cases h
    · cases h
  · cases h
def vB2 (b : Tb) (sc : Scope) (y : Str) (e : Expr) : Option (Expr × Expr) := match vCall e with
  | some (x, l) => match two? l with
    | some (a, c) => if bltB b sc x y && okSt a && okSt c then some (a, c) else none
    | none => none
  | none => none
theorem vB2_of {b : Tb} {sc : Scope} {y : Str} {e a c : Expr} (h : vB2 b sc y e = some (a, c)) : ∃ x p q, e = .Call (.Name x p) [a, c] [] q ∧ bltB b sc x y = true ∧ okSt a = true ∧ okSt c = true := by
  unfold vB2 at h
  split at h
  · rename_i x l e1
    split at h
    · rename_i a' c' e2
      split at h
      · rename_i hc
        cases h
        obtain ⟨p, q, rfl⟩ := vCall_of e1
        rw [two_of e2]
        simp only [Bool.and_eq_true] at hc
        exact ⟨x, p, q, rfl, hc.1.1, hc.1.2, hc.2⟩
      · cases h
    · cases h
  · cases h
def vSrtR (b : Tb) (sc : Scope) : Expr → Option Expr
  | .Call (.Name f _) [e] [⟨some kw, .Constant (.bool true) _ _, _⟩] _ => if bltB b sc f "sorted" && decide (kw = "reverse") && okSt e then some e else none
  | _ => none
theorem vSrtR_of {b : Tb} {sc : Scope} {e a : Expr} (h : vSrtR b sc e = some a) : ∃ f p j p1 p2 q, e = .Call (.Name f p) [a] [⟨some "reverse", .Constant (.bool true) j p1, p2⟩] q ∧ bltB b sc f "sorted" = true ∧ okSt a = true := by
  unfold vSrtR at h
  split at h
  · split at h
    · rename_i hc
      cases h
      simp only [Bool.and_eq_true, decide_eq_true_eq] at hc
      obtain ⟨⟨h1, rfl⟩, h3⟩ := hc
      exact ⟨_, _, _, _, _, _, rfl, h1, h3⟩
    · cases h
  · cases h
def vCallE : Expr → Option (Expr × List Expr)
  | .Call f l [] _ => some (f, l)
  | _ => none
theorem vCallE_of {e f : Expr} {l : List Expr} (h : vCallE e = some (f, l)) : ∃ q, e = .Call f l [] q := by
  unfold vCallE at h; split at h <;> simp_all
def callee : Expr → Bool
  | .Name .. => true
  | .Subscript .. => true
  | _ => false
def vMeth : Expr → Option (Expr × Str × Pos × List Expr × Pos)
  | .Call (.Attribute l a ap) es [] cp => some (l, a, ap, es, cp)
  | _ => none
theorem vMeth_of {e l : Expr} {a : Str} {ap cp : Pos} {es : List Expr} (h : vMeth e = some (l, a, ap, es, cp)) : e = .Call (.Attribute l a ap) es [] cp := by
  unfold vMeth at h; split at h <;> simp_all
def vAttr : Expr → Option (Expr × Str)
  | .Attribute l a _ => some (l, a)
  | _ => none
theorem vAttr_of {e l : Expr} {a : Str} (h : vAttr e = some (l, a)) : ∃ p, e = .Attribute l a p := by
  unfold vAttr at h; split at h <;> simp_all
def vComp : Expr → Option (Expr × Expr × Expr × List Expr × Scope)
  | .ListComp elt [⟨t, it, ifs, a⟩] scope _ => if a = 0 then some (elt, t, it, ifs, scope) else none
  | _ => none
theorem vComp_of {e elt t it : Expr} {ifs : List Expr} {scope : Scope} (h : vComp e = some (elt, t, it, ifs, scope)) : ∃ p, e = .ListComp elt [⟨t, it, ifs, 0⟩] scope p := by
  unfold vComp at h
  split at h
  · split at h
    · rename_i ha; cases h; subst ha; exact ⟨_, rfl⟩
    · cases h
  · cases h
def isTrueK : CE → Bool
  | .k (.bl true) => true
  | _ => false
theorem isTrueK_of {c : CE} (h : isTrueK c = true) : c = .k (.bl true) := by
  unfold isTrueK at h; split at h <;> simp_all
def boolRest (op : BoolOp) (y : Expr) (r : List Expr) (p : Pos) : Expr := match r with
  | [] => y
  | e :: r => .BoolOp op (y :: e :: r) p
mutual
def chkE (b : Tb) (sc : Scope) : CE → Expr → Bool
  | .v i, e => match vName e with
    | some x => slotB b sc i x
    | none => false
  | .mv i, e => match vName e with
    | some x => slotB b sc i x
    | none => false
  | .k d, e => match vConst e with
    | some c => constB d c
    | none => false
  | .gi k i, e => match vName e with
    | some x => decide (b.gn[k]? = some (x, .int i)) && glB sc x && okN x
    | none => false
  | .fn k, e => match vName e with
    | some x => decide (b.fns[k]? = some x) && glB sc x && okN x
    | none => false
  | .bin op x y, e => match vBin e with
    | some (l, o, r) => opB op o && chkE b sc x l && chkE b sc y r
    | none => false
  | .neg x, e => match vUn e with
    | some (.USub, l) => chkE b sc x l
    | _ => false
  | .cmp op x y, e => match vCmp e with
    | some (l, o, r) => cmpB op o && !(behindInMarks o r) && chkE b sc x l && chkE b sc y r
    | none => false
  | .ch o1 o2 x y z, e => match vCh e with
    | some (l, p, r, q, s) => cmpB o1 p && cmpB o2 q && !(behindInMarks p r) && !(behindInMarks q s) && chkE b sc x l && chkE b sc y r && chkE b sc z s
    | none => false
  | .inC neg x k ns, e => match vCmp e with
    | some (l, o, r) => match vName r with
      | some y => (match o with | .In => !neg | .NotIn => neg | _ => false) && decide (b.gn[k]? = some (y, .tup ns)) && glB sc y && okN y && chkE b sc x l
      | none => false
    | none => false
  | .nt x, e => match vUn e with
    | some (.Not, l) => chkE b sc x l
    | _ => false
  | .an x y, e => match vBool e with
    | some (.And, l, l', r, p) => chkE b sc x l && chkE b sc y (boolRest .And l' r p)
    | _ => false
  | .or x y, e => match vBool e with
    | some (.Or, l, l', r, p) => chkE b sc x l && chkE b sc y (boolRest .Or l' r p)
    | _ => false
  | .ife c x y, e => match vIf e with
    | some (ec, ex, ey) => chkE b sc c ec && chkE b sc x ex && chkE b sc y ey
    | none => false
  | .lst es, e => match vList e with
    | some l => decide (es.length ≤ 1000) && chkEs b sc es l
    | none => false
  | .tup es, e => match vTup e with
    | some l => decide (es.length ≤ 1000) && chkEs b sc es l
    | none => false
  | .ix x y, e => match vSub e with
    | some (l, r) => plainIx r && chkE b sc x l && chkE b sc y r
    | none => false
  | .sl x lo hi, e => match vSl e with
    | some (l, a, c) => chkE b sc x l && (match a with | none => lo.isNil | some a => !lo.isNil && chkE b sc lo a) && (match c with | none => hi.isNil | some c => !hi.isNil && chkE b sc hi c)
    | none => false
  | .nil, _ => false
  | .rev x, e => match vRev e with
    | some l => chkE b sc x l
    | none => false
  | .st2 x lo, e => match vSt2 e with
    | some (l, a) => !lo.isNil && chkE b sc x l && chkE b sc lo a
    | none => false
  | .call k es, e => match vCall e with
    | some (x, l) => decide (b.fns[k]? = some x) && glB sc x && okN x && !l.isEmpty && l.all okSt && chkEs b sc es l
    | none => false
  | .callv x es, e => match vCallE e with
    | some (f, l) => callee f && !l.isEmpty && l.all okSt && chkE b sc x f && chkEs b sc es l
    | none => false
  | .new c es, e => match vCall e with
    | some (x, l) => decide (b.cn[c]? = some x) && b.ci.contains c && glB sc x && okN x && !l.isEmpty && l.all okSt && chkEs b sc es l
    | none => false
  | .attr x f, e => match vAttr e with
    | some (l, a) => decide (a = fldN f) && attB l && chkE b sc x l
    | none => false
  | .meth m x es, e => match vMeth e with
    | some (l, a, ap, l', cp) => decide (a = "shows") && attB l && decide (ap.endLine = cp.line) && decide (l'.length < 30) && !l'.isEmpty && l'.all okSt && chkE b sc x l && chkEs b sc es l'
    | none => false
  | .len x, e => match vB1 b sc "len" e with
    | some a => chkE b sc x a
    | none => false
  | .list x, e => match vB1 b sc "list" e with
    | some a => chkE b sc x a
    | none => false
  | .sum x, e => match vB1 b sc "sum" e with
    | some a => chkE b sc x a
    | none => false
  | .all x, e => match vB1 b sc "all" e with
    | some a => chkE b sc x a
    | none => false
  | .any x, e => match vB1 b sc "any" e with
    | some a => chkE b sc x a
    | none => false
  | .srt x, e => match vB1 b sc "sorted" e with
    | some a => chkE b sc x a
    | none => false
  | .srtR x, e => match vSrtR b sc e with
    | some a => chkE b sc x a
    | none => false
  | .toInt x, e => match vB1 b sc "int" e with
    | some a => chkE b sc x a
    | none => false
  | .rngL x, e => match vB1 b sc "list" e with
    | some r => match vB1 b sc "range" r with
      | some a => chkE b sc x a
      | none => false
    | none => false
  | .isin x t, e => match vB2 b sc "isinstance" e with
    | some (a, c) => match vName c with
      | some y => (match t with
        | .cls k => decide (b.cn[k]? = some y) && b.ki.contains k && glB sc y && okN y
        | t => (match tyN t with
          | some n => bltB b sc y (Str.ofString n)
          | none => false)) && chkE b sc x a
      | none => false
    | none => false
  | .index x y, e => match vMeth e with
    | some (l, a, ap, es, cp) => match one? es with
      | some e' => decide (a = "index") && decide (ap.endLine = cp.line) && attB l && okSt e' && chkE b sc x l && chkE b sc y e'
      | none => false
    | none => false
  | .lc e tg ik x y c, ex => match vComp ex with
    | some (elt, t, it, ifs, scope) => plainSet it &&
      (match ik with
        | .lst => y.isNil && chkE b sc x it
        | .rng1 => y.isNil && (match vB1 b sc "range" it with | some a => chkE b sc x a | none => false)
        | .rng2 => (match vB2 b sc "range" it with | some (a, a') => chkE b sc x a && chkE b sc y a' | none => false)
        | .enm => !noTuple tg && y.isNil && (match vB1 b sc "enumerate" it with | some a => chkE b sc x a | none => false)
        | .zip => !noTuple tg && (match vB2 b sc "zip" it with | some (a, a') => chkE b sc x a && chkE b sc y a' | none => false)) &&
      tgB b (relS scope sc) (fun x => scope.names.lookup x == some .cell) tg t && blkC b.N sc scope (ownOf b tg) && chkE b (relS scope sc) e elt &&
      (match ifs with | [] => isTrueK c | [c1] => chkE b (relS scope sc) c c1 | _ => false)
    | none => false
def chkEs (b : Tb) (sc : Scope) : List CE → List Expr → Bool
  | [], l => l.isEmpty
  | x :: xs, l => match l with
    | [] => false
    | e :: es => okSt e && chkE b sc x e && chkEs b sc xs es
end
end FR

namespace FR
open PySem PySem.Spec L2

/-! ### the promise of a def -/
def spOf (G : Gs) (m : List D → R (D × Bool)) : Sp := fun vs H Q E => ∃ ts : List T, vs = ts.map (T.v G) ∧ T.oks G H ts ∧ (match m (T.ds ts) with
  | .no => False
  | .ok r => ∀ (t : T) (H' : Hp), Same H H' → t.ok G H' → t.d = r.1 → (r.2 = true → t.fp.Nodup ∧ t.plain ∧ ∀ a ∈ t.fp, H a = none) → (∀ a ∈ t.fp, H a = none ∨ a ∈ T.fps ts) → Q (t.v G) H'
  | .ex c => ∀ H', Same H H' → E (.ref (G.cls c)) none H')
/-- the promise of a class's __init__ -/
def spIni (G : Gs) (c : Nat) (m : List D → R (List D)) : Sp := fun vs H Q _ => ∃ (x dx : Addr) (ts : List T), vs = .ref x :: ts.map (T.v G) ∧ H x = some (.ins (G.cls c) dx []) ∧ T.oks G H ts ∧ x ∉ T.fps ts ∧ (match m (T.ds ts) with
  | .ok ds => ∀ (xs : List T) (H' : Hp), (∀ a o, a ≠ x → H a = some o → H' a = some o) → (T.node (.ins c dx) x xs).ok G H' → T.ds xs = ds → (T.node (.ins c dx) x xs).fp.Nodup → (T.node (.ins c dx) x xs).plain → (∀ a ∈ T.fps xs, H a = none) → Q .non H'
  | _ => False)
/-- what must be known of an own class whose instances stand in the heap -/
structure ClsOk (K : PySem.W.Frag) (c : Nat) (C : Addr) : Prop where
  cl : Cls K C
  na : ∀ f ∈ fldT c, NoAttr K C (fldN f)
  ha : PySem.W.findIn K (.ref C) "__class__" = some (some (.builtin "object.__class__"))
  hn : PySem.W.specialIn K (.builtin "object.__class__") "__get__" = some (some (.builtin "getset_descriptor.__get__"))
  ht : PySem.W.takesIn K (.builtin "object.__class__") = some true
  hm : PySem.W.mroIn K C (.type "object") = some true
def tyNs : List String := ["NoneType", "bool", "int", "str", "list", "tuple"]
structure Static (P : Program) (w : World) (K : PySem.W.Frag) (mg : Str → Option Value) (base : Heap) (b : Tb) (G : Gs) (Pg : Prog) (L : Nat) : Prop where
  fn : ∀ (k : Nat) x, b.fns[k]? = some x → ∃ fd ps, ((x == Str.empty) = false → mg x = some (.ref (G.fnA k))) ∧ PySem.W.keepIn K (.ref (G.fnA k)) = true ∧ Binds K fd ps [] ∧ FnOk P w K mg base (L2.CX P w) L (G.fnA k) fd ps (spOf G (Pg.fn k))
  out : ∀ (k : Nat) args, b.fns[k]? = none → Pg.fn k args = .no
  free : ∀ x, b.free.contains x = true → mg x = none
  gi : ∀ (k : Nat) x i, b.gn[k]? = some (x, .int i) → ∃ t, mg x = some (.int i t)
  exc : ∀ (c : Nat) x, b.cn[c]? = some x → b.exs.contains x = true → mg x = some (.ref (G.cls c)) ∧ PySem.W.excIn K (G.cls c) He.veBase "ValueError.__new__" = true ∧ PySem.W.keepIn K (.ref (G.cls c)) = true ∧ PySem.W.subIn K (.ref (G.cls c)) (.type "BaseException") = some true ∧ PySem.W.typeIn K (.ref (G.cls c)) = some (.type "type")
  gt : ∀ (k : Nat) x ns, b.gn[k]? = some (x, .tup ns) → ∃ a, mg x = some (.ref a) ∧ ∀ H, SqT K H a (ns.map V.int)
  ci : G.ci = b.ci
  co : ∀ c, b.ci.contains c = true → ClsOk K c (G.cls c)
  mkc : ∀ (c : Nat) x, b.cn[c]? = some x → b.ci.contains c = true → mg x = some (.ref (G.cls c)) ∧ ((∀ args, Pg.ini c args = .no) ∨ ∃ f fd ps k, Mk K (G.cls c) f ∧ Binds K fd ps [] ∧ FnOk P w K mg base (L2.CX P w) k f fd ps (spIni G c (Pg.ini c)) ∧ k + 1 ≤ L)
  mt : ∀ c, b.ci.contains c = true → ∃ f fd ps, Meth K (G.cls c) "shows" f ∧ Binds K fd ps [] ∧ FnOk P w K mg base (L2.CX P w) L f fd ps (spOf G (Pg.fn (methT c)))
  isi : ∀ (c : Nat) x, b.cn[c]? = some x → b.ki.contains c = true → mg x = some (.ref (G.cls c)) ∧ (∀ c', b.ci.contains c' = true → PySem.W.kitOne K (.ref (G.cls c')) (.ref (G.cls c)) = some (subT c' c)) ∧ ∀ n ∈ tyNs, PySem.W.kitOne K (.type n) (.ref (G.cls c)) = some false
structure GoodE (X : Cx) (b : Tb) (G : Gs) (Pg : Prog) (L : Nat) (W : WX) (sc : Scope) : Prop where
  N : X.N = b.N
  nd : X.N.Nodup
  K : X.K = G.K
  calm : X.calm = true
  scope : X.env.scope = sc
  room : Room L X.A
  tk : Takes X W
  st : Static X.prog X.w X.K X.mg X.base b G Pg L
section
variable {X : Cx} {b : Tb} {G : Gs} {Pg : Prog} {L : Nat} {W : WX} {sc : Scope}
theorem visB_ok (g : GoodE X b G Pg L W sc) {x : Str} (h : visB sc x = true) : Vis X.env.scope x := by
  unfold visB at h
  unfold Vis
  rw [g.scope]
  split at h <;> simp_all
theorem glB_ok (g : GoodE X b G Pg L W sc) {x : Str} (h : glB sc x = true) : Gl X x := by
  unfold glB at h
  unfold Gl Env.kindOf
  rw [g.scope]
  split at h <;> simp_all
theorem okN_ok {x : Str} (h : okN x = true) : (x == ("__debug__" : Str)) = false ∧ (x == ("__classdict__" : Str)) = false ∧ x ≠ ("__name__" : Str) ∧ (x == Str.empty) = false := by
  unfold okN at h
  simp only [Bool.and_eq_true, Bool.not_eq_true'] at h
  exact ⟨h.1.1.1, h.1.1.2, fun e => by rw [e] at h; simp at h, h.2⟩
theorem bltB_ok (g : GoodE X b G Pg L W sc) {x y : Str} (h : bltB b sc x y = true) : x = y ∧ Gl X x ∧ X.mg x = none := by
  unfold bltB at h
  simp only [Bool.and_eq_true, decide_eq_true_eq] at h
  exact ⟨h.1.1, glB_ok g h.1.2, g.st.free x h.2⟩
theorem okSt_ok {e : Expr} {es : List Expr} {env : PySem.Env} (h : okSt e = true) : starEach (e :: es) env = (false, eval e env) :: starEach es env := by
  cases e <;> first | rfl | cases h
theorem starEach_no {es : List Expr} {env : PySem.Env} (h : es.all okSt = true) : (starEach es env).any (·.1) = false := by
  induction es with
  | nil => rfl
  | cons e es ih =>
    simp only [List.all_cons, Bool.and_eq_true] at h
    rw [okSt_ok h.1]
    simp only [List.any_cons, Bool.false_or]
    exact ih h.2
end

/-! ### from a reading to a test -/
section
variable {C : CE₀} {X : Cx}
theorem tT.val {f : En → Rv} {σ : L2.St} {H : Hp} {Q : Bool → Hp → Prop} (h : tT C f σ H Q) : tB (tE C f) σ H Q := by
  obtain ⟨env, τ, E, h⟩ := h
  refine ⟨env, τ, E, ?_⟩
  cases e : f env with
  | no => rw [e] at h; exact h
  | ex c => rw [e] at h; exact h
  | ok r =>
    obtain ⟨d, o, u⟩ := r
    rw [e] at h
    cases d with
    | bl b => exact fun H' t s k ed _ => ⟨b, bl_of k ed, h H' s⟩
    | _ => exact h.elim
theorem pt_of {e : Expr} {f : En → Rv} (h : PE X e (tE C f)) (he : ∀ whole, isTrue e X.env whole = (do let v ← whole; standAt e.pos; holding [v] (truthy v))) : PT X e (tT C f) :=
  PT.weak (pt_val h he) fun _ _ _ q => q.val
/-- the three at once -/
def All3 (C : CE₀) (X : Cx) (e : Expr) (f : En → Rv) : Prop := PE X e (tE C f) ∧ PT X e (tT C f) ∧ ∀ op vs pos, e = .BoolOp op vs pos → PW X e (tT C f)
theorem All3.of {e : Expr} {f : En → Rv} (h : PE X e (tE C f)) (he : ∀ whole, isTrue e X.env whole = (do let v ← whole; standAt e.pos; holding [v] (truthy v))) (hn : ∀ op vs pos, e ≠ .BoolOp op vs pos) : All3 C X e f :=
  ⟨h, pt_of h he, fun op vs pos q => absurd q (hn op vs pos)⟩
theorem All3.mk2 {e : Expr} {f : En → Rv} (h : PE X e (tE C f)) (h2 : PT X e (tT C f)) (hn : ∀ op vs pos, e ≠ .BoolOp op vs pos) : All3 C X e f :=
  ⟨h, h2, fun op vs pos q => absurd q (hn op vs pos)⟩
/-- an answer that is no object -/
theorem post.leaf {env : En} {τ : Nat → T} {σ : L2.St} {H H1 : Hp} {Q : VK} {d : D} (p : post C.G C.W env τ σ H Q (.ok (d, .deep, []))) (s : Same H H1) (f : d.flat = true) : Q (lv C.G d) H1 :=
  p H1 (.leaf d) s (by unfold T.ok; exact f) (by simp [T.d]) .leaf
theorem post.bl {env : En} {τ : Nat → T} {σ : L2.St} {H H1 : Hp} {Q : VK} {d : Bool} (p : post C.G C.W env τ σ H Q (.ok (.bl d, .deep, []))) (s : Same H H1) : Q (.bl d) H1 := p.leaf s rfl
theorem post.int {env : En} {τ : Nat → T} {σ : L2.St} {H H1 : Hp} {Q : VK} {d : Int} (p : post C.G C.W env τ σ H Q (.ok (.int d, .deep, []))) (s : Same H H1) : Q (.int d) H1 := p.leaf s rfl
/-- an answer that is a new list -/
theorem post.list {env : En} {τ : Nat → T} {σ : L2.St} {H H1 : Hp} {Q : VK} {ts : List T} {o : Own} {u : List Nat} (p : post C.G C.W env τ σ H Q (.ok (newL .lst (T.ds ts) o u))) (s : Same H H1) (k : T.oks C.G H1 ts) (h : Tgs env τ H ts o u)
    {pa : Addr} (n : H1 pa = none) : Q (.ref pa) (upd H1 pa (.lst (ts.map (T.v C.G)))) := by
  obtain ⟨g1, g2⟩ := Tg.nw (k := .lst none) (by simp) (oks_new k n) (s.free n) h _ rfl
  have s2 : Same H1 (upd H1 pa (.lst (ts.map (T.v C.G)))) := fun b x e => by rw [upd_ne (ne_of_none e n)]; exact e
  exact p _ (.node (.lst none) pa ts) (s.trans s2) (by unfold T.ok; exact ⟨upd_same, oks_same k s2⟩) g2 g1
theorem post.tup {env : En} {τ : Nat → T} {σ : L2.St} {H H1 : Hp} {Q : VK} {ts : List T} {o : Own} {u : List Nat} (p : post C.G C.W env τ σ H Q (.ok (newL .tup (T.ds ts) o u))) (s : Same H H1) (k : T.oks C.G H1 ts) (h : Tgs env τ H ts o u)
    {pa : Addr} (n : H1 pa = none) : Q (.ref pa) (upd H1 pa (.tup (ts.map (T.v C.G)))) := by
  obtain ⟨g1, g2⟩ := Tg.nw (k := .tup) (by simp) (oks_new k n) (s.free n) h _ rfl
  have s2 : Same H1 (upd H1 pa (.tup (ts.map (T.v C.G)))) := fun b x e => by rw [upd_ne (ne_of_none e n)]; exact e
  exact p _ (.node .tup pa ts) (s.trans s2) (by unfold T.ok; exact ⟨upd_same, oks_same k s2⟩) g2 g1
theorem Tg.kids {env : En} {τ : Nat → T} {H : Hp} {k : TK} {a : Addr} {xs : List T} {o : Own} {u : List Nat} (h : Tg env τ H (.node k a xs) o u) : Tgs env τ H xs o u := by
  refine ⟨fun b hb => h.cov b (by simp [T.fp, hb]), fun e => ?_⟩
  obtain ⟨n, p, d⟩ := h.deep e
  simp only [T.fp, List.nodup_cons] at n
  unfold T.plain at p
  exact ⟨n.2, p.2, d⟩
theorem Tgs.kids2 {env : En} {τ : Nat → T} {H : Hp} {k k' : TK} {a a' : Addr} {xs xs' : List T} {o : Own} {u : List Nat} (h : Tgs env τ H [.node k a xs, .node k' a' xs'] o u) : Tgs env τ H (xs ++ xs') o u := by
  refine h.sub ?_ fun p => ?_
  · simp only [T.fps, T.fp, List.append_nil, fps_append]
    exact (List.Sublist.append (List.sublist_cons_self _ _) (List.sublist_cons_self _ _))
  · unfold T.plains T.plain at p
    simp only [T.plains, T.plain] at p
    rw [plains_iff]
    intro x hx
    rcases List.mem_append.mp hx with hx | hx
    · exact plains_iff.mp p.1.2 x hx
    · exact plains_iff.mp p.2.1.2 x hx
end

/-! ### names and constants -/
section
variable {C : CE₀} {X : Cx} {b : Tb} {Pg : Prog} {L : Nat} {sc : Scope}
theorem slot_val {env : En} {τ : Nat → T} {σ : L2.St} {H : Hp} {i : Nat} {Q : VK} (E : EO C.G C.F C.A₀ env τ σ H) (h : post C.G C.W env τ σ H Q (evE Pg (.v i) env)) : ∃ v, σ[i]? = some (some v) ∧ Q v H := by
  unfold evE at h
  split at h
  · rename_i d o e
    obtain ⟨e1, e2, e3⟩ := E.val i d o e
    refine ⟨_, e3, ?_⟩
    have g : Tg env τ H (τ i) .sh [i] := .shared fun a ha => .inr ⟨i, by simp, ⟨d, o, e⟩, ha⟩
    obtain ⟨g1, g2⟩ := Tg.fn e2 g
    rw [e1] at g1 g2
    exact h H (τ i) (Same.refl H) e2 (by rw [← g2, e1]) g1
  · rename_i j p e
    obtain ⟨d, o, t, e1, e2, e3⟩ := E.ali i j p e
    rw [e1] at h
    dsimp only at h
    obtain ⟨f1, f2, f3⟩ := E.val j d o e1
    cases q : d.at p with
    | none => rw [q] at h; exact h.elim
    | some d' =>
      rw [q] at h
      rw [← f1] at q
      obtain ⟨u, h1, h2, h3, h4⟩ := f2.at q
      rw [e2] at h1
      cases h1
      refine ⟨_, e3, ?_⟩
      have g : Tg env τ H t .sh [j] := .shared fun a ha => .inr ⟨j, by simp, ⟨d, o, e1⟩, h4 a ha⟩
      obtain ⟨g1, g2⟩ := Tg.fn h3 g
      subst h2
      exact h H t (Same.refl H) h3 g2 g1
  · exact h.elim
theorem slot_mv {env : En} {τ : Nat → T} {σ : L2.St} {H : Hp} {i : Nat} {Q : VK} (E : EO C.G C.F C.A₀ env τ σ H) (h : post C.G C.W env τ σ H Q (evE Pg (.mv i) env)) : ∃ v, σ[i]? = some (some v) ∧ Q v H := by
  unfold evE at h
  split at h
  · rename_i d e
    obtain ⟨e1, e2, e3⟩ := E.val i d _ e
    refine ⟨_, e3, ?_⟩
    obtain ⟨n, p, _, _⟩ := E.deep i ⟨d, e⟩
    have g : Tg env τ H (τ i) .deep [i] := ⟨fun a ha => .inr ⟨i, by simp, ⟨d, _, e⟩, ha⟩, fun _ => ⟨n, p, fun j hj => by
      simp only [List.mem_singleton] at hj
      subst hj
      exact ⟨d, e⟩⟩, fun z => Own.noConfusion z⟩
    obtain ⟨g1, g2⟩ := Tg.fn e2 g
    rw [e1] at g1 g2
    exact h H (τ i) (Same.refl H) e2 (by rw [← g2, e1]) g1
  · rename_i d o _ e
    obtain ⟨e1, e2, e3⟩ := E.val i d o e
    refine ⟨_, e3, ?_⟩
    have g : Tg env τ H (τ i) .sh [i] := .shared fun a ha => .inr ⟨i, by simp, ⟨d, o, e⟩, ha⟩
    obtain ⟨g1, g2⟩ := Tg.fn e2 g
    rw [e1] at g1 g2
    exact h H (τ i) (Same.refl H) e2 (by rw [← g2, e1]) g1
  · exact h.elim
theorem pe_slot {f : En → Rv} {i : Nat} {x : Str} {pos : Pos} (g : GoodE X b C.G Pg L C.W sc) (h : slotB b sc i x = true) (hs : ∀ env τ σ H Q, EO C.G C.F C.A₀ env τ σ H → post C.G C.W env τ σ H Q (f env) → ∃ v, σ[i]? = some (some v) ∧ Q v H) : PE X (.Name x pos) (tE C f) := by
  unfold slotB at h
  simp only [Bool.and_eq_true, decide_eq_true_eq] at h
  obtain ⟨h1, h2, _⟩ := okN_ok h.2
  refine PE.weak (pe_var (i := i) (by rw [g.N]; exact h.1.1) (visB_ok g h.1.2) h1 h2) fun σ H Q ⟨env, τ, E, q⟩ => hs env τ σ H Q E q
theorem pe_k {d : D} {c : Const} {j : Nat} {pos : Pos} (h : constB d c = true) : PE X (.Constant c j pos) (tE C (evE Pg (.k d))) := by
  have st : ∀ {σ : L2.St} {H : Hp} {Q : VK}, d.flat = true → tE C (evE Pg (.k d)) σ H Q → Q (lv C.G d) H := fun {σ H Q} f ⟨env, τ, E, q⟩ => by
    have e : evE Pg (.k d) env = .ok (d, .deep, []) := by unfold evE; rw [if_pos f]
    rw [e] at q
    exact q.leaf (Same.refl H) f
  cases d with
  | non => cases c <;> simp [constB] at h; exact PE.weak pe_non fun σ H Q q => st rfl q
  | bl x => cases c <;> simp [constB] at h; subst h; exact PE.weak pe_bl fun σ H Q q => st rfl q
  | int x => cases c <;> simp [constB] at h; subst h; exact PE.weak pe_int fun σ H Q q => st rfl q
  | str x => cases c <;> simp [constB] at h; subst h; exact PE.weak pe_str fun σ H Q q => st rfl q
  | fn k => cases c <;> simp [constB] at h
  | node k xs => cases c <;> simp [constB] at h
/-! ### operators -/
theorem bin_step {op : BO} {env : En} {τ : Nat → T} {σ : L2.St} {H H1 H2 : Hp} {t t' : T} {o o' : Own} {u u' : List Nat} {Q : VK} (E : EO C.G C.F C.A₀ env τ σ H) (s1 : Same H H1) (s2 : Same H1 H2) (k1 : t.ok C.G H1) (k2 : t'.ok C.G H2)
    (g1 : Tg env τ H t o u) (g2 : Tg env τ H1 t' o' u') (p : post C.G C.W env τ σ H Q (binD op t.d t'.d o u o' u')) : rBin C.G op (t.v C.G) (t'.v C.G) H2 Q := by
  unfold binD at p
  split at p
  · rename_i xs ys e1 e2
    split at p
    · rename_i hl
      obtain ⟨tk, a, ts, rfl, d1, d2, d3, d4⟩ := (k1.same s2).node e1
      obtain ⟨tk', a', ts', rfl, d1', d2', d3', d4'⟩ := k2.node e2
      subst d2 d2'
      have gg := (Tgs.cons E g1 s1 k1 g2.one).kids2
      rw [show T.ds ts ++ T.ds ts' = T.ds (ts ++ ts') by simp [ds_map]] at p
      refine .inr (.inl ⟨rfl, a, a', _, _, rfl, rfl, d3.list d1, d3'.list d1', ?_, fun pa n => ?_⟩)
      · simp only [List.length_map, ds_length] at hl ⊢
        exact hl
      · have := p.list (s1.trans s2) (by rw [oks_iff] at d4 d4' ⊢; exact fun x hx => (List.mem_append.mp hx).elim (d4 x) (d4' x)) gg n
        rw [List.map_append] at this
        exact this
    · exact p.elim
  · rename_i xs n e1 e2
    split at p
    · rename_i hl
      simp only [Bool.and_eq_true, decide_eq_true_eq] at hl
      obtain ⟨tk, a, ts, rfl, d1, d2, d3, d4⟩ := (k1.same s2).node e1
      subst d2
      have e3 : (List.replicate n.toNat (T.ds ts)).flatten = T.ds (List.replicate n.toNat ts).flatten := by
        simp only [ds_map, List.map_flatten, List.map_replicate]
      rw [e3] at p
      have gs : Tgs env τ H (List.replicate n.toNat ts).flatten .sh u := g1.kids.shared fun b hb => by
        rw [mem_fps] at hb ⊢
        obtain ⟨x, hx, hb⟩ := hb
        simp only [List.mem_flatten, List.mem_replicate] at hx
        obtain ⟨l, ⟨_, rfl⟩, hx⟩ := hx
        exact ⟨x, hx, hb⟩
      refine .inr (.inr ⟨rfl, a, n, _, rfl, int_of k2 e2, d3.list d1, by omega, by omega, ?_, fun pa hn => ?_⟩)
      · simp only [List.length_map, ds_length] at hl ⊢
        exact hl.2
      · have := p.list (s1.trans s2) (by
          rw [oks_iff] at d4 ⊢
          intro x hx
          simp only [List.mem_flatten, List.mem_replicate] at hx
          obtain ⟨l, ⟨_, rfl⟩, hx⟩ := hx
          exact d4 x hx) gs hn
        rw [List.map_flatten, List.map_replicate] at this
        exact this
    · exact p.elim
  · rename_i op _ _ _ i j e1 e2
    cases q : binI op i j with
    | none => rw [q] at p; exact p.elim
    | some z =>
      rw [q] at p
      exact .inl ⟨i, j, z, int_of (k1.same s2) e1, int_of k2 e2, q, p.int (s1.trans s2)⟩
  · exact p.elim
theorem pe_bin {op : BO} {x y : CE} {l r : Expr} {pos : Pos} {o : Operator} (ho : opB op o = true) (hl : PE X l (tE C (evE Pg x))) (hr : PE X r (tE C (evE Pg y))) : PE X (.BinOp l o r pos) (tE C (evE Pg (.bin op x y))) := by
  have e : opO op = o := of_decide_eq_true ho
  subst e
  refine PE.weak (pe_op (op_bin (G := C.G) op) hl hr) fun σ H Q q => ?_
  exact tE.then2 (g := fun _ x y => binD op x.1 y.1 x.2.1 x.2.2 y.2.1 y.2.2) (by simpa only [evE] using q) fun env τ H1 H2 t o u t' o' u' E s1 s2 k1 k2 g1 g2 p => bin_step E s1 s2 k1 k2 g1 g2 p
end
end FR

namespace FR
open PySem PySem.Spec L2
section
variable {C : CE₀} {X : Cx} {b : Tb} {Pg : Prog} {L : Nat} {sc : Scope}
theorem b_eq {α β : Type} {x : R α} {f : α → R β} : R.b x f = match x with | .no => .no | .ok a => f a | .ex c => .ex c := rfl
theorem b_ok {α β : Type} {a : α} {f : α → R β} : R.b (.ok a) f = f a := rfl
theorem tE.ev {f f' : En → Rv} {σ : L2.St} {H : Hp} {Q : VK} (h : tE C f σ H Q) (e : ∀ env, f env = f' env) : tE C f' σ H Q := by
  obtain ⟨env, τ, E, q⟩ := h
  exact ⟨env, τ, E, by rw [← e]; exact q⟩
theorem tT.ev {f f' : En → Rv} {σ : L2.St} {H : Hp} {Q : Bool → Hp → Prop} (h : tT C f σ H Q) (e : ∀ env, f env = f' env) : tT C f' σ H Q := by
  obtain ⟨env, τ, E, q⟩ := h
  exact ⟨env, τ, E, by rw [← e]; exact q⟩
theorem int_leaf {H : Hp} {t : T} (k : t.ok C.G H) {i : Int} (e : t.d = .int i) : t.v C.G = .int i := int_of k e

/-! ### one operand -/
theorem pe_neg {x : CE} {l : Expr} {pos : Pos} (hl : PE X l (tE C (evE Pg x))) : PE X (.UnaryOp .USub l pos) (tE C (evE Pg (.neg x))) := by
  refine PE.weak (pe_un un_neg hl) fun σ H Q q => ?_
  refine tE.then (k := fun x H1 Q => rU (fun i => .int (-i)) x H1 Q) (q.ev fun env => by rw [evE]) fun env τ H1 t o u E s k g p => ?_
  dsimp only at p
  cases e : t.d with
  | int i => rw [e] at p; exact ⟨i, int_of k e, p.int s⟩
  | _ => rw [e] at p; exact p.elim
theorem all3_not {x : CE} {l : Expr} {pos : Pos} (hl : All3 C X l (evE Pg x)) : All3 C X (.UnaryOp .Not l pos) (evE Pg (.nt x)) := by
  refine .mk2 (PE.weak (pe_not hl.1) fun σ H Q q => ?_) (PT.weak (pt_not hl.2.1) fun σ H Q q => ?_) (by simp)
  · refine tE.then (k := fun x H1 Q => ∃ c, x = .bl c ∧ Q (.bl (!c)) H1) (q.ev fun env => by rw [evE]) fun env τ H1 t o u E s k g p => ?_
    dsimp only at p
    cases e : t.d with
    | bl i => rw [e] at p; exact ⟨i, bl_of k e, p.bl s⟩
    | _ => rw [e] at p; exact p.elim
  · obtain ⟨env, τ, E, p⟩ := q
    refine ⟨env, τ, E, ?_⟩
    rw [evE] at p
    cases e : evE Pg x env with
    | no => rw [e] at p; exact p
    | ex c => rw [e] at p; exact p
    | ok r =>
      obtain ⟨d, o, u⟩ := r
      rw [e] at p
      cases d with
      | bl c => exact p
      | _ => exact p.elim
/-! ### comparisons -/
theorem cmpD_nex {op : CO} {x y : D} {c : Nat} : cmpD op x y ≠ .ex c := fun e => by
  unfold cmpD at e
  cases op <;> simp only at e <;> (repeat' split at e) <;> first | cases e | (cases h : x.eq? y <;> rw [h] at e <;> cases e) | (rename_i ys; cases h : memD x ys <;> rw [h] at e <;> cases e)
theorem cmp_step {op : CO} {env : En} {τ : Nat → T} {σ : L2.St} {H H1 H2 : Hp} {t t' : T} {Q : VK} {f : Bool → Rv} (s1 : Same H H1) (s2 : Same H1 H2) (k1 : t.ok C.G H1) (k2 : t'.ok C.G H2)
    (p : post C.G C.W env τ σ H Q ((cmpD op t.d t'.d).b f)) {Q' : VK} (h : ∀ r, post C.G C.W env τ σ H Q (f r) → Q' (.bl r) H2) : rCmp C.G op (t.v C.G) (t'.v C.G) H2 Q' := by
  cases e : cmpD op t.d t'.d with
  | no => rw [e] at p; exact p.elim
  | ex c => exact absurd e cmpD_nex
  | ok r => rw [e] at p; exact ⟨t, t', r, rfl, rfl, k1.same s2, k2, e, h r p⟩
theorem all3_cmp {op : CO} {o : CmpOp} {x y : CE} {l r : Expr} {pos : Pos} (g : GoodE X b C.G Pg L C.W sc) (ho : cmpB op o = true) (hm : behindInMarks o r = false) (hl : PE X l (tE C (evE Pg x))) (hr : PE X r (tE C (evE Pg y))) :
    All3 C X (.Compare l [o] [r] pos) (evE Pg (.cmp op x y)) := by
  have e : cmpO op = o := of_decide_eq_true ho
  subst e
  have step : ∀ σ H Q, tE C (evE Pg (.cmp op x y)) σ H Q → tOp (rCmp C.G op) (tE C (evE Pg x)) (tE C (evE Pg y)) σ H Q := fun σ H Q q =>
    tE.then2 (g := fun _ x y => (cmpD op x.1 y.1).b fun r => .ok (.bl r, .deep, [])) (q.ev fun env => by rw [evE]) fun env τ H1 H2 t o u t' o' u' E s1 s2 k1 k2 g1 g2 p => cmp_step s1 s2 k1 k2 p fun r q => q.bl (s1.trans s2)
  refine .mk2 (PE.weak (pe_cmpR (op_cmp (G := C.G) g.K g.room.units op) hl hr hm) step) (PT.weak (pt_cmpR (op_cmp (G := C.G) g.K g.room.units op) hl hr hm) fun σ H Q q => ?_) (by simp)
  have := q.val
  unfold tB at this
  exact step σ H _ this
theorem ch_step {o1 o2 : CO} {x y z : CE} {σ : L2.St} {H : Hp} {Q : VK} (q : tE C (evE Pg (.ch o1 o2 x y z)) σ H Q) : tChain (rCmp C.G o1) (rCmp C.G o2) (tE C (evE Pg x)) (tE C (evE Pg y)) (tE C (evE Pg z)) σ H Q := by
  refine tE.then2 (r := fun x y H2 Q => rCmp C.G o1 x y H2 fun w H3 => ∃ k, w = .bl k ∧ if k = true then tE C (evE Pg z) σ H3 fun v H4 => rCmp C.G o2 y v H4 Q else Q (.bl false) H3)
    (g := fun env x y => (cmpD o1 x.1 y.1).b fun r => if r then (evE Pg z env).b fun z => (cmpD o2 y.1 z.1).b fun r => .ok (.bl r, .deep, []) else .ok (.bl false, .deep, [])) (q.ev fun env => by rw [evE]) fun env τ H1 H2 t o u t' o' u' E s1 s2 k1 k2 g1 g2 p => ?_
  refine cmp_step s1 s2 k1 k2 p fun r p => ⟨r, rfl, ?_⟩
  cases r with
  | false => exact p.bl (s1.trans s2)
  | true =>
    refine ⟨env, τ, E.same (s1.trans s2), ?_⟩
    simp only [if_true] at p
    cases e : evE Pg z env with
    | no => rw [e] at p; exact p.elim
    | ex c => rw [e] at p; exact fun H' q => p H' ((s1.trans s2).trans q)
    | ok r' =>
      rw [e] at p
      intro H4 t4 s4 k4 ed _
      obtain ⟨d, o4, u4⟩ := r'
      dsimp only at ed p
      subst ed
      exact cmp_step (s1.trans s2) s4 k2 k4 (show post C.G C.W env τ σ H Q ((cmpD o2 t'.d t4.d).b fun r => .ok (.bl r, .deep, [])) from p) fun r q => q.bl ((s1.trans s2).trans s4)
theorem all3_ch {o1 o2 : CO} {c1 c2 : CmpOp} {x y z : CE} {l r s : Expr} {pos : Pos} (g : GoodE X b C.G Pg L C.W sc) (h1 : cmpB o1 c1 = true) (h2 : cmpB o2 c2 = true) (m1 : behindInMarks c1 r = false) (m2 : behindInMarks c2 s = false)
    (hl : PE X l (tE C (evE Pg x))) (hr : PE X r (tE C (evE Pg y))) (hs : PE X s (tE C (evE Pg z))) : All3 C X (.Compare l [c1, c2] [r, s] pos) (evE Pg (.ch o1 o2 x y z)) := by
  have e1 : cmpO o1 = c1 := of_decide_eq_true h1
  have e2 : cmpO o2 = c2 := of_decide_eq_true h2
  subst e1 e2
  have lm : lastMarks [cmpO o1, cmpO o2] [r, s] = false := m2
  refine .mk2 (PE.weak (pe_chain (op_cmp (G := C.G) g.K g.room.units o1) (op_cmp (G := C.G) g.K g.room.units o2) hl hr hs lm) fun σ H Q q => ch_step q)
    (PT.weak (pt_chain (op_cmp (G := C.G) g.K g.room.units o1) (op_cmp (G := C.G) g.K g.room.units o2) hl hr hs lm) fun σ H Q q => ?_) (by simp)
  have := q.val
  unfold tB at this
  exact ch_step this
theorem inV_ints (i : Int) : ∀ ns : List Int, inV (.int i) (ns.map V.int) = ns.contains i
  | [] => rfl
  | n :: r => by
    have ih := inV_ints i r
    unfold inV at ih ⊢
    rw [List.map_cons, List.any_cons, ih, List.contains_cons, show eqV (V.int n) (V.int i) = (n == i) from rfl, show (n == i) = (i == n) from Bool.beq_comm]
theorem all3_inC {neg : Bool} {x : CE} {k : Nat} {ns : List Int} {l : Expr} {o : CmpOp} {y : Str} {p1 pos : Pos} (g : GoodE X b C.G Pg L C.W sc) (ho : (match o with | .In => !neg | .NotIn => neg | _ => false) = true) (hk : b.gn[k]? = some (y, .tup ns)) (hy : glB sc y = true) (hn : okN y = true)
    (hl : PE X l (tE C (evE Pg x))) : All3 C X (.Compare l [o] [.Name y p1] pos) (evE Pg (.inC neg x k ns)) := by
  obtain ⟨a, ha, hq⟩ := g.st.gt k y ns hk
  have py : PE X (.Name y p1) (tC (.ref a)) := pe_glob (glB_ok g hy) ha rfl (okN_ok hn).1
  have hm : behindInMarks o (.Name y p1) = false := rfl
  have inv : ∀ i : Int, inV (.int i) (ns.map V.int) = ns.contains i := fun i => inV_ints i ns
  have al : (ns.map V.int).all flatV = true := by rw [List.all_map]; exact List.all_eq_true.mpr fun _ _ => rfl
  have key : ∀ σ H Q, tE C (evE Pg (.inC neg x k ns)) σ H Q → tOp (rIn X.K neg) (tE C (evE Pg x)) (tC (.ref a)) σ H Q := fun σ H Q q => by
    refine tE.then (k := fun x H1 Q => tC (.ref a) σ H1 fun y H2 => rIn X.K neg x y H2 Q) (q.ev fun env => by rw [evE]) fun env τ H1 t o u E s kk g p => ?_
    dsimp only at p
    cases e : t.d with
    | int i =>
      rw [e] at p
      refine ⟨a, _, rfl, .inr (hq H1), by rw [int_of kk e]; rfl, al, ?_⟩
      rw [int_of kk e, inv]
      exact p.bl s
    | _ => rw [e] at p; exact p.elim
  have op : OpR X (compareOp o) (rIn X.K neg) := by
    cases o <;> simp at ho
    · subst ho; exact op_in_seq
    · subst ho; exact op_notIn_seq
  refine .mk2 (PE.weak (pe_cmpR op hl py hm) key) (PT.weak (pt_cmpR op hl py hm) fun σ H Q q => ?_) (by simp)
  have := q.val
  unfold tB at this
  exact key _ _ _ this
/-! ### and, or, if -/
theorem an_true {x y : CE} {env : En} : evE Pg (.an x y) env = (evE Pg x env).b fun r => match r.1 with
    | .bl true => evE Pg y env
    | .bl false => .ok (.bl false, .deep, [])
    | _ => .no := by
  rw [evE] <;> refine congrArg _ (funext fun r => ?_)
  all_goals
    obtain ⟨d, o, u⟩ := r
    cases d with
    | bl b => cases b <;> rfl
    | _ => rfl
theorem or_true {x y : CE} {env : En} : evE Pg (.or x y) env = (evE Pg x env).b fun r => match r.1 with
    | .bl true => .ok (.bl true, .deep, [])
    | .bl false => evE Pg y env
    | _ => .no := by
  rw [evE] <;> refine congrArg _ (funext fun r => ?_)
  all_goals
    obtain ⟨d, o, u⟩ := r
    cases d with
    | bl b => cases b <;> rfl
    | _ => rfl
theorem ife_true {c x y : CE} {env : En} : evE Pg (.ife c x y) env = (evE Pg c env).b fun r => match r.1 with
    | .bl true => evE Pg x env
    | .bl false => evE Pg y env
    | _ => .no := by
  rw [evE] <;> refine congrArg _ (funext fun r => ?_)
  all_goals
    obtain ⟨d, o, u⟩ := r
    cases d with
    | bl b => cases b <;> rfl
    | _ => rfl
theorem anV {x y : CE} {σ : L2.St} {H : Hp} {Q : VK} (q : tE C (evE Pg (.an x y)) σ H Q) : tAndV (tE C (evE Pg x)) (tE C (evE Pg y)) σ H Q := by
  refine tE.then (k := fun x H1 Q => ∃ c, x = .bl c ∧ if c = true then tE C (evE Pg y) σ H1 Q else Q (.bl false) H1) (q.ev fun env => an_true) fun env τ H1 t o u E s k g p => ?_
  dsimp only at p
  cases e : t.d with
  | bl i =>
    rw [e] at p
    refine ⟨i, bl_of k e, ?_⟩
    cases i with
    | true => exact ⟨env, τ, E.same s, p.mono s⟩
    | false => exact p.bl s
  | _ => rw [e] at p; exact p.elim
theorem orV {x y : CE} {σ : L2.St} {H : Hp} {Q : VK} (q : tE C (evE Pg (.or x y)) σ H Q) : tOrV (tE C (evE Pg x)) (tE C (evE Pg y)) σ H Q := by
  refine tE.then (k := fun x H1 Q => ∃ c, x = .bl c ∧ if c = true then Q (.bl true) H1 else tE C (evE Pg y) σ H1 Q) (q.ev fun env => or_true) fun env τ H1 t o u E s k g p => ?_
  dsimp only at p
  cases e : t.d with
  | bl i =>
    rw [e] at p
    refine ⟨i, bl_of k e, ?_⟩
    cases i with
    | false => exact ⟨env, τ, E.same s, p.mono s⟩
    | true => exact p.bl s
  | _ => rw [e] at p; exact p.elim
/-- a test, then what hangs on it -/
theorem tT.then {f : En → Rv} {g : En → Bool → Rv} {σ : L2.St} {H : Hp} {α : Type} {pst : En → (Nat → T) → Hp → Rv → Prop} (hno : ∀ env τ H, ¬ pst env τ H .no) (hex : ∀ env τ H c, pst env τ H (.ex c) → ∀ H', Same H H' → C.W (.ref (C.G.cls c)) none σ H')
    (h : ∃ env τ, EO C.G C.F C.A₀ env τ σ H ∧ pst env τ H ((f env).b fun r => match r.1 with | .bl b => g env b | _ => .no)) {k : Bool → Hp → Prop}
    (step : ∀ env τ H1 b, EO C.G C.F C.A₀ env τ σ H → Same H H1 → pst env τ H (g env b) → k b H1) : tT C f σ H k := by
  obtain ⟨env, τ, E, p⟩ := h
  refine ⟨env, τ, E, ?_⟩
  cases e : f env with
  | no => rw [e] at p; exact hno _ _ _ p
  | ex c => rw [e] at p; exact hex _ _ _ c p
  | ok r =>
    obtain ⟨d, o, u⟩ := r
    rw [e] at p
    cases d with
    | bl b => exact fun H1 s => step env τ H1 b E s p
    | _ => exact hno _ _ _ p
theorem postT.no {env : En} {τ : Nat → T} {σ : L2.St} {H : Hp} {Q : Bool → Hp → Prop} : ¬ postT C.G C.W env τ σ H Q .no := fun h => h
theorem anT {x y : CE} {σ : L2.St} {H : Hp} {Q : Bool → Hp → Prop} (q : tT C (evE Pg (.an x y)) σ H Q) : tAnd (tT C (evE Pg x)) (tT C (evE Pg y)) σ H Q := by
  refine tT.then (α := Unit) (pst := fun env τ H r => postT C.G C.W env τ σ H Q r) (g := fun env b => if b then evE Pg y env else .ok (.bl false, .deep, [])) (fun _ _ _ h => h) (fun _ _ _ c h => h) ?_ fun env τ H1 b E s p => ?_
  · obtain ⟨env, τ, E, p⟩ := q
    refine ⟨env, τ, E, ?_⟩
    rw [an_true] at p
    cases e : evE Pg x env with
    | ok r =>
      obtain ⟨d, o, u⟩ := r
      rw [e] at p
      cases d with
      | bl b => cases b <;> exact p
      | _ => exact p
    | _ => rw [e] at p; exact p
  · cases b with
    | true => exact ⟨env, τ, E.same s, p.mono s⟩
    | false => exact p H1 s
theorem orT {x y : CE} {σ : L2.St} {H : Hp} {Q : Bool → Hp → Prop} (q : tT C (evE Pg (.or x y)) σ H Q) : tOr (tT C (evE Pg x)) (tT C (evE Pg y)) σ H Q := by
  refine tT.then (α := Unit) (pst := fun env τ H r => postT C.G C.W env τ σ H Q r) (g := fun env b => if b then .ok (.bl true, .deep, []) else evE Pg y env) (fun _ _ _ h => h) (fun _ _ _ c h => h) ?_ fun env τ H1 b E s p => ?_
  · obtain ⟨env, τ, E, p⟩ := q
    refine ⟨env, τ, E, ?_⟩
    rw [or_true] at p
    cases e : evE Pg x env with
    | ok r =>
      obtain ⟨d, o, u⟩ := r
      rw [e] at p
      cases d with
      | bl b => cases b <;> exact p
      | _ => exact p
    | _ => rw [e] at p; exact p
  · cases b with
    | false => exact ⟨env, τ, E.same s, p.mono s⟩
    | true => exact p H1 s
/-- the rest of a chain of and | or: what comes of a chain of one or more -/
def Rest (C : CE₀) (X : Cx) (op : BoolOp) (r : List Expr) (pos : Pos) (f : En → Rv) : Prop := PE X (.BoolOp op r pos) (tE C f) ∧ PW X (.BoolOp op r pos) (tT C f)
theorem all3_an {x y : CE} {l e' : Expr} {r : List Expr} {pos : Pos} (hl : All3 C X l (evE Pg x)) (hr : Rest C X .And (e' :: r) pos (evE Pg y)) : All3 C X (.BoolOp .And (l :: e' :: r) pos) (evE Pg (.an x y)) := by
  have w : PW X (.BoolOp .And (l :: e' :: r) pos) (tT C (evE Pg (.an x y))) := PW.weak (pw_and hl.2.1 hr.2) fun σ H Q q => anT q
  refine ⟨PE.weak (pe_and hl.1 hr.1) fun σ H Q q => anV q, w.pt, fun op vs p e => ?_⟩
  cases e
  exact w
theorem all3_or {x y : CE} {l e' : Expr} {r : List Expr} {pos : Pos} (hl : All3 C X l (evE Pg x)) (hr : Rest C X .Or (e' :: r) pos (evE Pg y)) : All3 C X (.BoolOp .Or (l :: e' :: r) pos) (evE Pg (.or x y)) := by
  have w : PW X (.BoolOp .Or (l :: e' :: r) pos) (tT C (evE Pg (.or x y))) := PW.weak (pw_or hl.2.1 hr.2) fun σ H Q q => orT q
  refine ⟨PE.weak (pe_or hl.1 hr.1) fun σ H Q q => orV q, w.pt, fun op vs p e => ?_⟩
  cases e
  exact w
theorem Rest.one {op : BoolOp} {e : Expr} {pos : Pos} {f : En → Rv} (h : All3 C X e f) : Rest C X op [e] pos f := by
  refine ⟨pe_one h.1, ?_⟩
  cases op with
  | And => exact pw_and1 h.2.1
  | Or => exact pw_or1 h.2.1
theorem Rest.more {op : BoolOp} {r : List Expr} {pos : Pos} {f : En → Rv} (h : All3 C X (.BoolOp op r pos) f) : Rest C X op r pos f := ⟨h.1, h.2.2 op r pos rfl⟩
theorem pt_ife {c x y : CE} {ec l r : Expr} {pos : Pos} (hc : All3 C X ec (evE Pg c)) (hl : PT X l (tT C (evE Pg x))) (hr : PT X r (tT C (evE Pg y))) : PT X (.IfExp ec l r pos) (tT C (evE Pg (.ife c x y))) := by
  refine ⟨fun pins s σ H Q I q => ?_⟩
  have q2 : tT C (evE Pg c) σ H fun b H1 => if b = true then tT C (evE Pg x) σ H1 Q else tT C (evE Pg y) σ H1 Q := by
    refine tT.then (α := Unit) (pst := fun env τ H r => postT C.G C.W env τ σ H Q r) (g := fun env b => if b then evE Pg x env else evE Pg y env) (fun _ _ _ h => h) (fun _ _ _ c h => h) ?_ fun env τ H1 b E s p => ?_
    · obtain ⟨env, τ, E, p⟩ := q
      refine ⟨env, τ, E, ?_⟩
      rw [ife_true] at p
      cases e : evE Pg c env with
      | ok r =>
        obtain ⟨d, o, u⟩ := r
        rw [e] at p
        cases d with
        | bl b => cases b <;> exact p
        | _ => exact p
      | _ => rw [e] at p; exact p
    · cases b with
      | true => exact ⟨env, τ, E.same s, p.mono s⟩
      | false => exact ⟨env, τ, E.same s, p.mono s⟩
  refine PyProof.Rows.isTrue_IfExp (thn (hc.2.1.run pins s σ H _ I q2) fun b s1 ⟨H1, I1, q1⟩ => ?_)
  cases b with
  | true => exact hl.run pins s1 σ H1 Q I1 q1
  | false => exact hr.run pins s1 σ H1 Q I1 q1
theorem pe_ife {c x y : CE} {ec l r : Expr} {pos : Pos} (hc : All3 C X ec (evE Pg c)) (hl : PE X l (tE C (evE Pg x))) (hr : PE X r (tE C (evE Pg y))) : PE X (.IfExp ec l r pos) (tE C (evE Pg (.ife c x y))) := by
  refine PE.weak (pe_ifExp hc.2.1 hl hr) fun σ H Q q => ?_
  refine tT.then (α := Unit) (pst := fun env τ H r => post C.G C.W env τ σ H Q r) (g := fun env b => if b then evE Pg x env else evE Pg y env) (fun _ _ _ h => h) (fun _ _ _ c h => h) ?_ fun env τ H1 b E s p => ?_
  · obtain ⟨env, τ, E, p⟩ := q
    refine ⟨env, τ, E, ?_⟩
    rw [ife_true] at p
    cases e : evE Pg c env with
    | ok r =>
      obtain ⟨d, o, u⟩ := r
      rw [e] at p
      cases d with
      | bl b => cases b <;> exact p
      | _ => exact p
    | _ => rw [e] at p; exact p
  · cases b with
    | true => exact ⟨env, τ, E.same s, p.mono s⟩
    | false => exact ⟨env, τ, E.same s, p.mono s⟩
end
end FR

namespace FR
open PySem PySem.Spec L2
section
variable {C : CE₀} {X : Cx} {b : Tb} {Pg : Prog} {L : Nat} {sc : Scope}
/-! ### argument lists, displays -/
theorem pa_none : PA X [] (tA C (evEs Pg [])) := PA.weak pa_nil fun σ H Q ⟨env, τ, E, q⟩ => by
  have e : evEs Pg [] env = .ok ([], .deep, []) := by rw [evEs]
  rw [e] at q
  exact q H [] (Same.refl H) (by unfold T.oks; trivial) (by simp [T.ds]) .nil
theorem pa_more {x : CE} {xs : List CE} {e : Expr} {es : List Expr} (hs : okSt e = true) (he : PE X e (tE C (evE Pg x))) (hr : PA X es (tA C (evEs Pg xs))) : PA X (e :: es) (tA C (evEs Pg (x :: xs))) := by
  refine PA.weak (pa_cons he hr (okSt_ok hs)) fun σ H Q ⟨env, τ, E, q⟩ => ?_
  have ee : evEs Pg (x :: xs) env = (evE Pg x env).b fun x => (evEs Pg xs env).b fun r => .ok (x.1 :: r.1, cmb x.2.1 x.2.2 r.2.1 r.2.2) := by rw [evEs]
  rw [ee] at q
  refine ⟨env, τ, E, ?_⟩
  cases e1 : evE Pg x env with
  | no => rw [e1] at q; exact q
  | ex c => rw [e1] at q; exact q
  | ok r =>
    rw [e1] at q
    intro H1 t s k ed g
    obtain ⟨d, o, u⟩ := r
    dsimp only at ed g
    subst ed
    refine ⟨env, τ, E.same s, ?_⟩
    simp only [b_eq] at q
    cases e2 : evEs Pg xs env with
    | no => rw [e2] at q; exact q
    | ex c => rw [e2] at q; exact fun H' z => q H' (s.trans z)
    | ok r2 =>
      rw [e2] at q
      intro H2 ts s2 k2 ed2 g2
      have := q H2 (t :: ts) (s.trans s2) (by unfold T.oks; exact ⟨k.same s2, k2⟩) (by simp [T.ds, ed2]) (Tgs.cons E g s k g2)
      exact this
theorem evEs_len : ∀ {es : List CE} {env : En} {r : List D × Own × List Nat}, evEs Pg es env = .ok r → r.1.length = es.length
  | [], env, r, h => by
    rw [evEs] at h
    cases h
    rfl
  | e :: es, env, r, h => by
    rw [evEs] at h
    obtain ⟨a, _, h2⟩ := R.b_ok h
    obtain ⟨c, h3, h4⟩ := R.b_ok h2
    cases h4
    simp [evEs_len h3]
theorem small_line {n : Nat} (h : n ≤ 1000) : n ≤ sizeLine := Nat.le_trans h (by decide)
theorem pe_list {es : List CE} {l : List Expr} {pos : Pos} (hn : es.length ≤ 1000) (h : PA X l (tA C (evEs Pg es))) : PE X (.List l pos) (tE C (evE Pg (.lst es))) := by
  refine PE.weak (pe_lst h) fun σ H Q ⟨env, τ, E, q⟩ => ?_
  have ee : evE Pg (.lst es) env = (evEs Pg es env).b fun r => .ok (newL .lst r.1 r.2.1 r.2.2) := by rw [evE]
  rw [ee] at q
  refine ⟨env, τ, E, ?_⟩
  cases e1 : evEs Pg es env with
  | no => rw [e1] at q; exact q
  | ex c => rw [e1] at q; exact q
  | ok r =>
    have hl := evEs_len e1
    rw [e1] at q
    intro H1 ts s k ed g
    obtain ⟨ds, o, u⟩ := r
    dsimp only at ed g hl
    subst ed
    refine ⟨small_line (by rw [List.length_map, ← ds_length, hl]; exact hn), fun p n => ?_⟩
    exact (show post C.G C.W env τ σ H Q (.ok (newL .lst (T.ds ts) o u)) from q).list s k g n
theorem pe_tupl {es : List CE} {l : List Expr} {j : Nat} {pos : Pos} (hn : es.length ≤ 1000) (h : PA X l (tA C (evEs Pg es))) : PE X (.Tuple l j pos) (tE C (evE Pg (.tup es))) := by
  refine PE.weak (pe_tup h) fun σ H Q ⟨env, τ, E, q⟩ => ?_
  have ee : evE Pg (.tup es) env = (evEs Pg es env).b fun r => .ok (newL .tup r.1 r.2.1 r.2.2) := by rw [evE]
  rw [ee] at q
  refine ⟨env, τ, E, ?_⟩
  cases e1 : evEs Pg es env with
  | no => rw [e1] at q; exact q
  | ex c => rw [e1] at q; exact q
  | ok r =>
    have hl := evEs_len e1
    rw [e1] at q
    intro H1 ts s k ed g
    obtain ⟨ds, o, u⟩ := r
    dsimp only at ed g hl
    subst ed
    refine ⟨small_line (by rw [List.length_map, ← ds_length, hl]; exact hn), fun p n => ?_⟩
    exact (show post C.G C.W env τ σ H Q (.ok (newL .tup (T.ds ts) o u)) from q).tup s k g n
/-! ### subscripts -/
theorem atI_map {α β : Type} (f : α → β) (xs : List α) (i : Int) : atI (xs.map f) i = (atI xs i).map f := by
  unfold atI
  rw [List.length_map]
  cases ixN xs.length i with
  | none => rfl
  | some j => simp only [Option.bind_some, List.getElem?_map]
theorem atI_mem {α : Type} {xs : List α} {i : Int} {x : α} (h : atI xs i = some x) : x ∈ xs := by
  unfold atI at h
  obtain ⟨j, _, h⟩ := Option.bind_eq_some_iff.mp h
  exact List.mem_of_getElem? h
theorem plainIx_ok {r : Expr} (h : plainIx r = true) : PlainIx r := by
  intro o i
  cases r <;> first | rfl | cases h
theorem ix_kid {env : En} {τ : Nat → T} {σ : L2.St} {H H1 H2 : Hp} {k : TK} {a : Addr} {ts : List T} {o : Own} {u : List Nat} {Q : VK} {i : Int} (s1 : Same H H1) (s2 : Same H1 H2) (d : T.oks C.G H2 ts) (g : Tg env τ H (.node k a ts) o u) 
    (p : post C.G C.W env τ σ H Q ((R.of (atD (T.ds ts) i)).b fun d => .ok (fin d .sh u))) : ∃ x, atI (ts.map (T.v C.G)) i = some (T.v C.G x) ∧ Q (T.v C.G x) H2 := by
  unfold atD at p
  rw [ds_map, atI_map] at p
  cases q : atI ts i with
  | none => rw [q] at p; exact p.elim
  | some x =>
    rw [q] at p
    have hx := atI_mem q
    have kx := oks_iff.mp d x hx
    refine ⟨x, by rw [atI_map, q]; rfl, ?_⟩
    have gx : Tg env τ H x .sh u := .shared fun b hb => g.cov b (by simp only [T.fp, List.mem_cons]; exact .inr (mem_fps.mpr ⟨x, hx, hb⟩))
    obtain ⟨g1, g2⟩ := Tg.fn kx gx
    exact p H2 x (s1.trans s2) kx g2 g1
theorem pe_idx {x y : CE} {l r : Expr} {pos : Pos} (g : GoodE X b C.G Pg L C.W sc) (hr : plainIx r = true) (hx : PE X l (tE C (evE Pg x))) (hy : PE X r (tE C (evE Pg y))) : PE X (.Subscript l r pos) (tE C (evE Pg (.ix x y))) := by
  refine PE.weak (pe_ix (IxR.or ix_list ix_tup) hx hy (plainIx_ok hr)) fun σ H Q q => ?_
  refine tE.then2 (r := fun x y H Q => rIxL X.K x y H Q ∨ rIxT X.K x y H Q) (g := fun _ x y => match x.1, y.1 with
    | .node .lst xs, .int i => (R.of (atD xs i)).b fun d => .ok (fin d .sh x.2.2)
    | .node .tup xs, .int i => (R.of (atD xs i)).b fun d => .ok (fin d .sh x.2.2)
    | _, _ => .no) (q.ev fun env => by rw [evE] <;> rfl) fun env τ H1 H2 t o u t' o' u' E s1 s2 k1 k2 g1 g2 p => ?_
  dsimp only at p
  split at p
  · rename_i xs i e1 e2
    obtain ⟨tk, a, ts, rfl, d1, d2, d3, d4⟩ := (k1.same s2).node e1
    subst d2
    obtain ⟨x, h1, h2⟩ := ix_kid s1 s2 d4 g1 p
    exact .inl ⟨a, _, i, _, rfl, int_of k2 e2, by rw [g.K]; exact .inl (d3.list d1), h1, h2⟩
  · rename_i xs i e1 e2
    obtain ⟨tk, a, ts, rfl, d1, d2, d3, d4⟩ := (k1.same s2).node e1
    subst d2
    obtain ⟨x, h1, h2⟩ := ix_kid s1 s2 d4 g1 p
    exact .inr ⟨a, _, i, _, rfl, int_of k2 e2, by rw [g.K]; exact .inl (.inl (d3.tup d1)), h1, h2⟩
  · exact p.elim
/-! ### slices -/
/-- a bound: left out, or a number -/
def tO (C : CE₀) (left : Bool) (f : En → Rv) : TO := fun σ H Q => ∃ env τ, EO C.G C.F C.A₀ env τ σ H ∧ (match (f env).b fun x => boundD left x.1 with
  | .no => False
  | .ok o => ∀ H', Same H H' → Q o H'
  | .ex c => ∀ H', Same H H' → C.W (.ref (C.G.cls c)) none σ H')
theorem PO.weak {e : Option Expr} {t t' : TO} (h : PO X e t) (w : ∀ σ H Q, t' σ H Q → t σ H Q) : PO X e t' := ⟨fun pins s σ H Q I q => h.run pins s σ H Q I (w σ H Q q)⟩
theorem po_nil {x : CE} (h : x.isNil = true) : PO X none (tO C x.isNil (evE Pg x)) := PO.weak po_none fun σ H Q ⟨env, τ, E, q⟩ => by
  cases x <;> simp [CE.isNil] at h
  have e : evE Pg .nil env = .ok (.non, .deep, []) := by rw [evE]
  rw [e] at q
  exact q H (Same.refl H)
theorem po_e {x : CE} {e : Expr} (hn : x.isNil = false) (h : PE X e (tE C (evE Pg x))) : PO X (some e) (tO C x.isNil (evE Pg x)) := PO.weak (po_some h) fun σ H Q ⟨env, τ, E, q⟩ => by
  refine ⟨env, τ, E, ?_⟩
  rw [hn] at q
  cases e1 : evE Pg x env with
  | no => rw [e1] at q; exact q
  | ex c => rw [e1] at q; exact q
  | ok r =>
    rw [e1] at q
    intro H1 t s k ed g
    obtain ⟨d, o, u⟩ := r
    dsimp only at ed
    cases d with
    | int i => exact ⟨i, int_of k ed, q H1 s⟩
    | _ => exact q.elim
theorem cut_map {α β : Type} (f : α → β) (xs : List α) (n m : Nat) : ((xs.map f).drop n).take m = ((xs.drop n).take m).map f := by rw [List.map_take, List.map_drop]
theorem fps_sub {ts ts' : List T} (h : ts'.Sublist ts) : (T.fps ts').Sublist (T.fps ts) := by
  induction h with
  | slnil => exact List.Sublist.refl _
  | cons a _ ih => simp only [T.fps]; exact List.Sublist.trans ih (List.sublist_append_right _ _)
  | cons_cons a _ ih => simp only [T.fps]; exact (List.Sublist.refl _).append ih
theorem plains_sub {ts ts' : List T} (h : ts'.Sublist ts) (p : T.plains ts) : T.plains ts' := plains_iff.mpr fun x hx => plains_iff.mp p x (h.subset hx)
theorem pe_sl {x lo hi : CE} {l : Expr} {a c : Option Expr} {p2 pos : Pos} (g : GoodE X b C.G Pg L C.W sc) (hx : PE X l (tE C (evE Pg x))) (ha : PO X a (tO C lo.isNil (evE Pg lo))) (hc : PO X c (tO C hi.isNil (evE Pg hi))) :
    PE X (.Subscript l (.Slice a c none p2) pos) (tE C (evE Pg (.sl x lo hi))) := by
  refine PE.weak (pe_slice sl_list hx ha hc) fun σ H Q q => ?_
  refine tE.then (g := fun env x => ((evE Pg lo env).b fun l => boundD lo.isNil l.1).b fun l => ((evE Pg hi env).b fun h => boundD hi.isNil h.1).b fun h => match x.1 with
    | .node .lst xs => .ok (newL .lst (cutD xs l h) x.2.1 x.2.2)
    | _ => .no) (k := fun x H1 Q => tO C lo.isNil (evE Pg lo) σ H1 fun l H2 => tO C hi.isNil (evE Pg hi) σ H2 fun u H3 => rSlL X.K x l u H3 Q) (q.ev fun env => by rw [evE] <;> rfl) fun env τ H1 t o u E s1 k1 g1 p => ?_
  dsimp only at p
  refine ⟨env, τ, E.same s1, ?_⟩
  cases e1 : ((evE Pg lo env).b fun l => boundD lo.isNil l.1) with
  | no => rw [e1] at p; exact p
  | ex c => rw [e1] at p; exact fun H' z => p H' (s1.trans z)
  | ok ol =>
    rw [e1] at p
    intro H2 s2
    refine ⟨env, τ, E.same (s1.trans s2), ?_⟩
    rw [b_ok] at p
    cases e2 : ((evE Pg hi env).b fun l => boundD hi.isNil l.1) with
    | no => rw [e2] at p; exact p
    | ex c => rw [e2] at p; exact fun H' z => p H' ((s1.trans s2).trans z)
    | ok oh =>
      rw [e2] at p
      intro H3 s3
      split at p
      · rename_i xs e4
        obtain ⟨tk, a, ts, rfl, d1, d2, d3, d4⟩ := (k1.same (s2.trans s3)).node e4
        subst d2
        refine ⟨a, _, rfl, by rw [g.K]; exact .inl (d3.list d1), fun pa n => ?_⟩
        have sub : ((ts.drop (HT.sIx (T.ds ts).length 0 ol)).take (HT.sIx (T.ds ts).length (T.ds ts).length oh - HT.sIx (T.ds ts).length 0 ol)).Sublist ts := (List.take_sublist _ _).trans (List.drop_sublist _ _)
        have e5 : cutD (T.ds ts) ol oh = T.ds ((ts.drop (HT.sIx (T.ds ts).length 0 ol)).take (HT.sIx (T.ds ts).length (T.ds ts).length oh - HT.sIx (T.ds ts).length 0 ol)) := by
          unfold cutD
          rw [ds_map, ds_map, cut_map]
        rw [b_ok, e5] at p
        have := p.list ((s1.trans s2).trans s3) (oks_iff.mpr fun x hx => oks_iff.mp d4 x (sub.subset hx)) (g1.kids.sub (fps_sub sub) (plains_sub sub)) n
        unfold cutV
        rw [cut_map, List.length_map, ← ds_length]
        exact this
      · exact p.elim
theorem pe_rev {x : CE} {l : Expr} {j : Nat} {p1 p2 p3 pos : Pos} (g : GoodE X b C.G Pg L C.W sc) (hx : PE X l (tE C (evE Pg x))) : PE X (.Subscript l (.Slice none none (some (.UnaryOp .USub (.Constant (.int 1) j p1) p2)) p3) pos) (tE C (evE Pg (.rev x))) := by
  refine PE.weak (pe_revL hx) fun σ H Q q => ?_
  refine tE.then (g := fun _ x => match x.1 with
    | .node .lst xs => .ok (newL .lst xs.reverse x.2.1 x.2.2)
    | _ => .no) (k := fun x H1 Q => ∃ a xs, x = .ref a ∧ SqL X.K H1 a xs ∧ ∀ p, H1 p = none → Q (.ref p) (upd H1 p (.lst xs.reverse))) (q.ev fun env => by rw [evE] <;> rfl) fun env τ H1 t o u E s1 k1 g1 p => ?_
  dsimp only at p
  split at p
  · rename_i xs e4
    obtain ⟨tk, a, ts, rfl, d1, d2, d3, d4⟩ := k1.node e4
    subst d2
    refine ⟨a, _, rfl, by rw [g.K]; exact .inl (d3.list d1), fun pa n => ?_⟩
    have e5 : (T.ds ts).reverse = T.ds ts.reverse := by rw [ds_map, ds_map, List.map_reverse]
    rw [e5] at p
    have perm : ∀ ys : List T, (T.fps ys.reverse).Perm (T.fps ys) := fun ys => by
      induction ys with
      | nil => exact List.Perm.refl _
      | cons y ys ih =>
        rw [List.reverse_cons, fps_append]
        simp only [T.fps, List.append_nil]
        exact (ih.append_right _).trans List.perm_append_comm
    have gr : Tgs env τ H ts.reverse o u := by
      have gk := g1.kids
      refine ⟨fun b hb => gk.cov b ((perm ts).subset hb), fun e => ?_⟩
      obtain ⟨n1, p1, d1⟩ := gk.deep e
      exact ⟨((perm ts).nodup_iff).mpr n1, plains_iff.mpr fun y hy => plains_iff.mp p1 y (List.mem_reverse.mp hy), d1⟩
    have := p.list s1 (oks_iff.mpr fun y hy => oks_iff.mp d4 y (List.mem_reverse.mp hy)) gr n
    rw [List.map_reverse] at this
    exact this
  · exact p.elim
end
end FR

namespace FR
open PySem PySem.Spec L2
section
variable {C : CE₀} {X : Cx} {b : Tb} {Pg : Prog} {L : Nat} {sc : Scope}
/-! ### calls of defs -/
theorem back_no {pos : Pos} {es : List Expr} {env : PySem.Env} (h : es.all okSt = true) : (backTo pos (starEach es env)).any (·.1) = false := by
  unfold backTo
  rw [List.any_map]
  exact starEach_no (env := env) h
theorem call_post {env : En} {τ : Nat → T} {σ : L2.St} {H H1 : Hp} {ts : List T} {o : Own} {u : List Nat} {Q : VK} {m : List D → R (D × Bool)} (s : Same H H1) (k : T.oks C.G H1 ts) (g : Tgs env τ H ts o u)
    (p : post C.G C.W env τ σ H Q ((m (T.ds ts)).b fun z => .ok (fin z.1 (if z.2 then .deep else .sh) (if z.2 then [] else u)))) : spOf C.G m (ts.map (T.v C.G)) H1 Q (WE C.W σ) := by
  refine ⟨ts, rfl, k, ?_⟩
  cases e : m (T.ds ts) with
  | no => rw [e] at p; exact p
  | ex c => rw [e] at p; exact fun H' z => p H' (s.trans z)
  | ok r =>
    obtain ⟨d, fr⟩ := r
    rw [e] at p
    intro t H' s' kt ed fresh cov
    dsimp only at ed fresh
    subst ed
    have gt : Tg env τ H t (if fr then .deep else .sh) (if fr then [] else u) := by
      cases fr with
      | true =>
        obtain ⟨n1, p1, f1⟩ := fresh rfl
        exact ⟨fun a ha => .inl (s.free (f1 a ha)), fun _ => ⟨n1, p1, by simp⟩, fun z => by cases z⟩
      | false =>
        exact .shared fun a ha => (cov a ha).elim (fun z => .inl (s.free z)) fun z => g.cov a z
    obtain ⟨g1, g2⟩ := Tg.fn kt gt
    exact p H' t (s.trans s') kt g2 g1
theorem pe_fcall {k : Nat} {es : List CE} {x : Str} {l : List Expr} {p1 pos : Pos} (g : GoodE X b C.G Pg L C.W sc) (hk : b.fns[k]? = some x) (hx : glB sc x = true) (hn : okN x = true) (hl : l.isEmpty = false) (hs : l.all okSt = true) (ha : PA X l (tA C (evEs Pg es))) : PE X (.Call (.Name x p1) l [] pos) (tE C (evE Pg (.call k es))) := by
  obtain ⟨fd, ps, hm, hkp, hb, F⟩ := g.st.fn k x hk
  cases l with
  | nil => cases hl
  | cons e l =>
    simp only [List.all_cons, Bool.and_eq_true] at hs
    refine PE.weak (pe_callS F g.room (glB_ok g hx) (hm (okN_ok hn).2.2.2) hkp hb (fun σ => passAt g.tk σ) ha (okN_ok hn).1 (okSt_ok hs.1) (back_no hs.2)) fun σ H Q ⟨env, τ, E, q⟩ => ?_
    rw [evE] at q
    refine ⟨env, τ, E, ?_⟩
    cases e1 : evEs Pg es env with
    | no => rw [e1] at q; exact q
    | ex c => rw [e1] at q; exact q
    | ok r =>
      rw [e1] at q
      intro H1 ts s kk ed gg
      obtain ⟨ds, o, u⟩ := r
      dsimp only at ed gg
      subst ed
      exact call_post s kk gg q
/-! ### built-in functions of one thing -/
theorem CallR.weak {f : Value} {r r' : List V → Hp → VK → Prop} (h : CallR X f r) (w : ∀ xs H Q, r' xs H Q → r xs H Q) : CallR X f r' := fun pins s σ H xs us Q I rx q => h pins s σ H xs us Q I rx (w xs H Q q)
/-- what a built-in makes of one thing told -/
def rOne (C : CE₀) (g : (D × Own × List Nat) → Rv) : List V → Hp → VK → Prop := fun xs H1 Q => ∃ env τ σ H t o u, xs = [T.v C.G t] ∧ EO C.G C.F C.A₀ env τ σ H ∧ Same H H1 ∧ t.ok C.G H1 ∧ Tg env τ H t o u ∧ post C.G C.W env τ σ H Q (g (t.d, o, u))
theorem pa_1 {x : CE} {e : Expr} (h : PE X e (tE C (evE Pg x))) (hs : okSt e = true) : PA X [e] (tCons (tE C (evE Pg x)) tNil) := pa_cons h pa_nil (okSt_ok hs)
theorem pe_B1 {id : String} {x y : Str} {xe f : CE} {g : (D × Own × List Nat) → Rv} {e : Expr} {p1 pos : Pos} (gg : GoodE X b C.G Pg L C.W sc) (hc : CallR X (.builtin id) (rOne C g)) (hv : bootBuiltins y = some (.builtin id)) (hy : bltB b sc x y = true) (hn : y ≠ "__name__" := by decide) (hd : (y == ("__debug__" : Str)) = false := by decide)
    (hs : okSt e = true) (hx : PE X e (tE C (evE Pg xe))) (he : ∀ env, evE Pg f env = (evE Pg xe env).b g) : PE X (.Call (.Name x p1) [e] [] pos) (tE C (evE Pg f)) := by
  obtain ⟨rfl, h2, h3⟩ := bltB_ok gg hy
  refine PE.weak (pe_callB hc h2 h3 hv (pa_1 hx hs) hn hd (okSt_ok hs) (by rfl)) fun σ H Q q => ?_
  exact tE.then (g := fun _ => g) (k := fun x H1 Q => rOne C g [x] H1 Q) (q.ev fun env => he env) fun env τ H1 t o u E s k gt p => ⟨env, τ, σ, H, t, o, u, rfl, E, s, k, gt, p⟩
theorem pe_T1 {id : String} {x y : Str} {xe f : CE} {g : (D × Own × List Nat) → Rv} {e : Expr} {p1 pos : Pos} (gg : GoodE X b C.G Pg L C.W sc) (hc : CallR X (.type id) (rOne C g)) (hv : bootBuiltins y = some (.type id)) (hy : bltB b sc x y = true) (hn : y ≠ "__name__" := by decide) (hd : (y == ("__debug__" : Str)) = false := by decide)
    (hs : okSt e = true) (hx : PE X e (tE C (evE Pg xe))) (he : ∀ env, evE Pg f env = (evE Pg xe env).b g) : PE X (.Call (.Name x p1) [e] [] pos) (tE C (evE Pg f)) := by
  obtain ⟨rfl, h2, h3⟩ := bltB_ok gg hy
  refine PE.weak (pe_callTy hc h2 h3 hv (pa_1 hx hs) hn hd (okSt_ok hs) (by rfl)) fun σ H Q q => ?_
  exact tE.then (g := fun _ => g) (k := fun x H1 Q => rOne C g [x] H1 Q) (q.ev fun env => he env) fun env τ H1 t o u E s k gt p => ⟨env, τ, σ, H, t, o, u, rfl, E, s, k, gt, p⟩
def gLen (x : D × Own × List Nat) : Rv := match x.1 with
    | .node .lst xs => .ok (.int xs.length, .deep, [])
    | .node .tup xs => .ok (.int xs.length, .deep, [])
    | _ => .no
theorem r_len (hK : X.K = C.G.K) : CallR X (.builtin "len") (rOne C gLen) := CallR.weak call_len_seq fun xs H1 Q ⟨env, τ, σ, H, t, o, u, e, E, s, k, g, p⟩ => by
  subst e
  unfold gLen at p
  dsimp only at p
  split at p
  · rename_i ds e1
    obtain ⟨tk, a, ts, rfl, d1, d2, d3, d4⟩ := k.node e1
    subst d2
    refine ⟨a, _, rfl, by rw [hK]; exact .inl (.inl (d3.list d1)), ?_⟩
    rw [List.length_map, ← ds_length]; exact p.int s
  · rename_i ds e1
    obtain ⟨tk, a, ts, rfl, d1, d2, d3, d4⟩ := k.node e1
    subst d2
    refine ⟨a, _, rfl, by rw [hK]; exact .inr (.inl (.inl (d3.tup d1))), ?_⟩
    rw [List.length_map, ← ds_length]; exact p.int s
  · exact p.elim
def gList (x : D × Own × List Nat) : Rv := match x.1 with
    | .node .lst xs => .ok (newL .lst xs x.2.1 x.2.2)
    | .node .tup xs => .ok (newL .lst xs x.2.1 x.2.2)
    | _ => .no
theorem r_list (hK : X.K = C.G.K) : CallR X (.type "list") (rOne C gList) := CallR.weak call_list_of fun xs H1 Q ⟨env, τ, σ, H, t, o, u, e, E, s, k, g, p⟩ => by
  subst e
  unfold gList at p
  dsimp only at p
  split at p
  · rename_i ds e1
    obtain ⟨tk, a, ts, rfl, d1, d2, d3, d4⟩ := k.node e1
    subst d2
    exact ⟨a, _, rfl, by rw [hK]; exact .inl (.inl (d3.list d1)), fun l n => p.list s d4 g.kids n⟩
  · rename_i ds e1
    obtain ⟨tk, a, ts, rfl, d1, d2, d3, d4⟩ := k.node e1
    subst d2
    exact ⟨a, _, rfl, by rw [hK]; exact .inr (.inl (.inl (d3.tup d1))), fun l n => p.list s d4 g.kids n⟩
  · exact p.elim
theorem intsD_of : ∀ {ds : List D} {ns : List Int}, intsD ds = some ns → ds = ns.map D.int
  | [], ns, h => by cases h; rfl
  | .int i :: r, ns, h => by
    simp only [intsD, Option.map_eq_some_iff] at h
    obtain ⟨ms, e, rfl⟩ := h
    rw [intsD_of e]; rfl
  | .non :: _, _, h => by cases h
  | .bl _ :: _, _, h => by cases h
  | .str _ :: _, _, h => by cases h
  | .fn _ :: _, _, h => by cases h
  | .node _ _ :: _, _, h => by cases h
theorem blsD_of : ∀ {ds : List D} {ns : List Bool}, blsD ds = some ns → ds = ns.map D.bl
  | [], ns, h => by cases h; rfl
  | .bl i :: r, ns, h => by
    simp only [blsD, Option.map_eq_some_iff] at h
    obtain ⟨ms, e, rfl⟩ := h
    rw [blsD_of e]; rfl
  | .non :: _, _, h => by cases h
  | .int _ :: _, _, h => by cases h
  | .str _ :: _, _, h => by cases h
  | .fn _ :: _, _, h => by cases h
  | .node _ _ :: _, _, h => by cases h
theorem vs_ints {H : Hp} {ts : List T} {ns : List Int} (k : T.oks C.G H ts) (e : T.ds ts = ns.map D.int) : ts.map (T.v C.G) = ns.map V.int := by
  rw [vs_flat k (by rw [e, List.all_map]; exact List.all_eq_true.mpr fun _ _ => rfl), e, List.map_map]; rfl
theorem vs_bls {H : Hp} {ts : List T} {ns : List Bool} (k : T.oks C.G H ts) (e : T.ds ts = ns.map D.bl) : ts.map (T.v C.G) = ns.map V.bl := by
  rw [vs_flat k (by rw [e, List.all_map]; exact List.all_eq_true.mpr fun _ _ => rfl), e, List.map_map]; rfl
def gSum (x : D × Own × List Nat) : Rv := match x.1 with
    | .node .lst xs => (R.of (intsD xs)).b fun ns => .ok (.int ns.sum, .deep, [])
    | _ => .no
theorem r_sum (hc : X.calm = true) (hK : X.K = C.G.K) : CallR X (.builtin "sum") (rOne C gSum) := CallR.weak (cr_sum hc) fun xs H1 Q ⟨env, τ, σ, H, t, o, u, e, E, s, k, g, p⟩ => by
  subst e
  unfold gSum at p
  dsimp only at p
  split at p
  · rename_i ds e1
    obtain ⟨tk, a, ts, rfl, d1, d2, d3, d4⟩ := k.node e1
    cases e2 : intsD ds with
    | none => rw [e2] at p; exact p.elim
    | some ns =>
      rw [e2] at p
      have e3 := vs_ints d4 (by rw [d2]; exact intsD_of e2)
      exact ⟨a, ns, rfl, by rw [hK, ← e3]; exact .inl (d3.list d1), p.int s⟩
  · exact p.elim
def gAll (x : D × Own × List Nat) : Rv := match x.1 with
    | .node .lst xs => (R.of (blsD xs)).b fun bs => .ok (.bl (bs.all id), .deep, [])
    | _ => .no
theorem r_all (hc : X.calm = true) (hK : X.K = C.G.K) : CallR X (.builtin "all") (rOne C gAll) := CallR.weak (cr_all hc) fun xs H1 Q ⟨env, τ, σ, H, t, o, u, e, E, s, k, g, p⟩ => by
  subst e
  unfold gAll at p
  dsimp only at p
  split at p
  · rename_i ds e1
    obtain ⟨tk, a, ts, rfl, d1, d2, d3, d4⟩ := k.node e1
    cases e2 : blsD ds with
    | none => rw [e2] at p; exact p.elim
    | some ns =>
      rw [e2] at p
      have e3 := vs_bls d4 (by rw [d2]; exact blsD_of e2)
      exact ⟨a, ns, rfl, by rw [hK, ← e3]; exact .inl (d3.list d1), p.bl s⟩
  · exact p.elim
def rAnyI (K : PySem.W.Frag) : List V → Hp → VK → Prop := fun vs H Q => ∃ (a : Addr) (ns : List Int), vs = [V.ref a] ∧ SqL K H a (ns.map V.int) ∧ Q (.bl (ns.any (· != 0))) H
theorem truth_ints {prog : Program} {w : World} {A : Around} {ns : List Int} {its : List Value} (e : Vals (ns.map V.int) its) :
    TruthOf prog w A (fun i v => its.toArray[i]? = some v) (fun i => ns.getD i 0 != 0) := fun i v s Q E hv hq => by
  have hv' : its[i]? = some v := by simpa using hv
  obtain ⟨hl, hx⟩ := List.getElem?_eq_some_iff.mp hv'
  have hl' : i < ns.length := by have := e.length; rw [List.length_map] at this; omega
  have h1 : (ns.map V.int)[i]? = some (.int ns[i]) := by rw [List.getElem?_map, List.getElem?_eq_getElem hl']; rfl
  obtain ⟨u, hu, ru⟩ := e.get h1
  rw [hv'] at hu
  cases hu
  obtain ⟨t, rfl⟩ := ru
  have hg : ns.getD i 0 = ns[i] := by rw [List.getD_eq_getElem?_getD, List.getElem?_eq_getElem hl'] <;> rfl
  have hq' : Q (ns.getD i 0 != 0) s := hq
  rw [hg] at hq'
  exact PySem.P.truthy_int hq'
theorem any_rangeI : ∀ ns : List Int, (List.range ns.length).any (fun i => ns.getD i 0 != 0) = ns.any (· != 0)
  | [] => rfl
  | b :: bs => by
    rw [List.length_cons, List.range_succ_eq_map, List.any_cons, List.any_map, List.any_cons, ← any_rangeI bs]
    all_goals rfl
theorem cr_anyI (hc : X.calm = true) : CallR X (.builtin "any") (rAnyI X.K) := by
  intro pins s σ H vs us Q I r h
  obtain ⟨a, ns, rfl, hs, q⟩ := h
  obtain ⟨its, rv, hl, _⟩ := I.list hs
  rw [Vals.ref1 r]
  refine call_any_walk (iter_any hl.isList fun s₂ e2 st hne => ?_)
  subst e2
  refine ⟨_, _, _, _, _, _, _, rfl, Walks.list (A := X.A.in1) (I.ok.hd hc) _ a hne its.toArray, st, truth_ints rv, fun h' tk hk => ?_⟩
  refine ⟨.bl _, H, I.kept fun b o eo => hk b o (fun hmem => ?_) (Heap.get?_push_of_some _ eo), ?_, q⟩
  · rcases List.mem_cons.mp hmem with e1 | hmem
    · exact absurd (e1 ▸ Heap.lt_size eo) (Nat.lt_irrefl _)
    · cases hmem
  · show Value.bool _ = Value.bool _
    have := rv.length
    rw [List.length_map] at this
    rw [← any_rangeI, List.size_toArray, this]
def gAny (x : D × Own × List Nat) : Rv := match x.1 with
    | .node .lst xs => match blsD xs with
      | some bs => .ok (.bl (bs.any id), .deep, [])
      | none => (R.of (intsD xs)).b fun ns => .ok (.bl (ns.any (· != 0)), .deep, [])
    | _ => .no
theorem r_any (hc : X.calm = true) (hK : X.K = C.G.K) : CallR X (.builtin "any") (rOne C gAny) := CallR.weak (CallR.or (cr_any hc) (cr_anyI hc)) fun xs H1 Q ⟨env, τ, σ, H, t, o, u, e, E, s, k, g, p⟩ => by
  subst e
  unfold gAny at p
  dsimp only at p
  split at p
  · rename_i ds e1
    obtain ⟨tk, a, ts, rfl, d1, d2, d3, d4⟩ := k.node e1
    split at p
    · rename_i bs e2
      have e3 := vs_bls d4 (by rw [d2]; exact blsD_of e2)
      exact .inl ⟨a, bs, rfl, by rw [hK, ← e3]; exact .inl (d3.list d1), p.bl s⟩
    · cases e2 : intsD ds with
      | none => rw [e2] at p; exact p.elim
      | some ns =>
        rw [e2] at p
        have e3 := vs_ints d4 (by rw [d2]; exact intsD_of e2)
        exact .inr ⟨a, ns, rfl, by rw [hK, ← e3]; exact .inl (d3.list d1), p.bl s⟩
  · exact p.elim
def gInt (x : D × Own × List Nat) : Rv := match x.1 with
    | .bl b => .ok (.int (if b then 1 else 0), .deep, [])
    | .int i => .ok (.int i, .deep, [])
    | _ => .no
theorem r_int : CallR X (.type "int") (rOne C gInt) := CallR.weak call_int1 fun xs H1 Q ⟨env, τ, σ, H, t, o, u, e, E, s, k, g, p⟩ => by
  subst e
  unfold gInt at p
  dsimp only at p
  split at p
  · rename_i e1
    exact .inr ⟨_, by rw [bl_of k e1], p.int s⟩
  · rename_i e1
    exact .inl ⟨_, by rw [int_of k e1], p.int s⟩
  · exact p.elim
/-! ### sorted -/
theorem insInt_perm (x : Int) : ∀ l : List Int, (insInt x l).Perm (x :: l)
  | [] => List.Perm.refl _
  | y :: ys => by
    unfold insInt
    split
    · exact ((insInt_perm x ys).cons y).trans (List.Perm.swap x y ys)
    · exact List.Perm.refl _
theorem sortInts_perm : ∀ l : List Int, (sortInts l).Perm l
  | [] => List.Perm.refl _
  | x :: xs => (insInt_perm x _).trans ((sortInts_perm xs).cons x)
theorem insInt_sorted (x : Int) : ∀ l : List Int, l.Pairwise (· ≤ ·) → (insInt x l).Pairwise (· ≤ ·)
  | [], _ => by simp [insInt]
  | y :: ys, h => by
    unfold insInt
    have h' := List.pairwise_cons.mp h
    split
    · rename_i hlt
      refine List.pairwise_cons.mpr ⟨fun z hz => ?_, insInt_sorted x ys h'.2⟩
      rcases List.mem_cons.mp ((insInt_perm x ys).subset hz) with rfl | hz
      · omega
      · exact h'.1 z hz
    · rename_i hge
      refine List.pairwise_cons.mpr ⟨fun z hz => ?_, h⟩
      rcases List.mem_cons.mp hz with rfl | hz
      · omega
      · have := h'.1 z hz; omega
theorem sortInts_sorted : ∀ l : List Int, (sortInts l).Pairwise (· ≤ ·)
  | [] => List.Pairwise.nil
  | x :: xs => insInt_sorted x _ (sortInts_sorted xs)
theorem sort_uniq {l m : List Int} (h : l.Perm m) (h1 : l.Pairwise (· ≤ ·)) (h2 : m.Pairwise (· ≤ ·)) : l = m :=
  h.eq_of_pairwise (fun a b _ _ p q => Int.le_antisymm p q) h1 h2
def gSrtI (x : D × Own × List Nat) : Rv := match x.1 with
    | .node .lst xs => (R.of (intsD xs)).b fun ns => .ok (.node .lst ((sortInts ns).map D.int), .deep, [])
    | _ => .no
theorem r_srtI (hK : X.K = C.G.K) : CallR X (.builtin "sorted") (rOne C gSrtI) := CallR.weak cr_sortedI fun xs H1 Q ⟨env, τ, σ, H, t, o, u, e, E, s, k, g, p⟩ => by
  subst e
  unfold gSrtI at p
  dsimp only at p
  split at p
  · rename_i ds e1
    obtain ⟨tk, a, ts, rfl, d1, d2, d3, d4⟩ := k.node e1
    cases e2 : intsD ds with
    | none => rw [e2] at p; exact p.elim
    | some ns =>
      rw [e2] at p
      have e3 := vs_ints d4 (by rw [d2]; exact intsD_of e2)
      refine ⟨a, ns, rfl, by rw [hK, ← e3]; exact .inl (d3.list d1), fun ns' pa pm ps n => ?_⟩
      have e4 : ns' = sortInts ns := sort_uniq (pm.trans (sortInts_perm ns).symm) ps (sortInts_sorted ns)
      subst e4
      have e5 : D.node .lst ((sortInts ns).map D.int) = (newL .lst (T.ds ((sortInts ns).map fun i => T.leaf (.int i))) .deep []).1 := by
        unfold newL; split <;> simp [ds_map, T.d]
      have fl : flatAll (T.ds ((sortInts ns).map fun i => T.leaf (.int i))) = true := by
        unfold flatAll
        rw [ds_map, List.map_map, List.all_map]
        exact List.all_eq_true.mpr fun _ _ => rfl
      have e6 : newL .lst (T.ds ((sortInts ns).map fun i => T.leaf (.int i))) .deep [] = (D.node .lst ((sortInts ns).map D.int), Own.deep, []) := by
        unfold newL
        rw [if_pos fl, ds_map, List.map_map]
        rfl
      have := (show post C.G C.W env τ σ H Q (.ok (newL .lst (T.ds ((sortInts ns).map fun i => T.leaf (.int i))) .deep [])) by rw [e6]; exact p).list s
        (oks_iff.mpr fun x hx => by
          obtain ⟨i, _, rfl⟩ := List.mem_map.mp hx
          unfold T.ok; rfl)
        ⟨fun b hb => by rw [(flatAll_fps fl).1] at hb; simp at hb, fun _ => ⟨by rw [(flatAll_fps fl).1]; exact List.nodup_nil, (flatAll_fps fl).2, by simp⟩⟩ n
      rw [List.map_map] at this
      exact this
  · exact p.elim
end
end FR

namespace FR
open PySem PySem.Spec L2
section
variable {C : CE₀} {X : Cx} {b : Tb} {Pg : Prog} {L : Nat} {sc : Scope}
/-! ### isinstance -/
theorem kit_all : ∀ m ∈ ["NoneType", "bool", "int", "str", "list", "tuple"], ∀ n ∈ ["int", "bool", "list", "tuple", "str"], kitB m n = some (decide (m = n) || (decide (m = "bool") && decide (n = "int"))) := by decide +kernel
theorem tyD_ok {H : Hp} {t : T} {m : String} (k : t.ok C.G H) (e : tyD t.d = some m) : TyX C.G.K H (t.v C.G) (.type m) ∧ m ∈ ["NoneType", "bool", "int", "str", "list", "tuple"] := by
  cases q : t.d with
  | non => rw [q] at e; cases e; rw [k.leaf (by rw [q]; rfl), q]; exact ⟨.base .non, by simp⟩
  | bl x => rw [q] at e; cases e; rw [bl_of k q]; exact ⟨.base (.bl x), by simp⟩
  | int x => rw [q] at e; cases e; rw [int_of k q]; exact ⟨.base (.int x), by simp⟩
  | str x => rw [q] at e; cases e; rw [k.leaf (by rw [q]; rfl), q]; exact ⟨.base (.str x), by simp⟩
  | fn x => rw [q] at e; cases e
  | node dk ds =>
    rw [q] at e
    obtain ⟨tk, a, ts, rfl, d1, d2, d3, d4⟩ := k.node q
    cases dk with
    | lst =>
      cases e
      rcases d3.list d1 with h | ⟨o, h⟩
      · exact ⟨.base (.lst h), by simp⟩
      · exact ⟨.base (.frz h), by simp⟩
    | tup => cases e; exact ⟨.base (.tup (d3.tup d1)), by simp⟩
    | ins c => cases e
theorem tyN_mem {t : Ty} {n : String} (e : tyN t = some n) : n ∈ ["int", "bool", "list", "tuple", "str"] := by cases t <;> cases e <;> simp
theorem boot_ty {t : Ty} {n : String} (e : tyN t = some n) : bootBuiltins (Str.ofString n) = some (.type n) := by
  cases t with
  | int => cases e; exact PyProof.Rows.boot_int
  | bool => cases e; exact PyProof.Rows.boot_bool
  | list => cases e; exact PyProof.Rows.boot_list
  | tuple => cases e; exact PyProof.Rows.boot_tuple
  | str => cases e; exact PyProof.Rows.boot_str
  | cls c => cases e
theorem nn {t : Ty} {n : String} (e : tyN t = some n) : Str.ofString n ≠ ("__name__" : Str) ∧ ((Str.ofString n) == ("__debug__" : Str)) = false := by
  have h : ∀ n ∈ ["int", "bool", "list", "tuple", "str"], Str.ofString n ≠ ("__name__" : Str) ∧ ((Str.ofString n) == ("__debug__" : Str)) = false := by decide +kernel
  exact h n (tyN_mem e)
theorem pe_isin {xe : CE} {t : Ty} {n : String} {x y : Str} {e : Expr} {p1 p2 pos : Pos} (g : GoodE X b C.G Pg L C.W sc) (hy : bltB b sc x "isinstance" = true) (hn : tyN t = some n) (ht : bltB b sc y (Str.ofString n) = true) (hs : okSt e = true) (hx : PE X e (tE C (evE Pg xe))) :
    PE X (.Call (.Name x p1) [e, .Name y p2] [] pos) (tE C (evE Pg (.isin xe t))) := by
  obtain ⟨rfl, h2, h3⟩ := bltB_ok g hy
  obtain ⟨rfl, h5, h6⟩ := bltB_ok g ht
  have py : PE X (.Name (Str.ofString n) p2) (tC (.ty n)) := pe_bltn h5 h6 (boot_ty hn) rfl (nn hn).1 (nn hn).2
  refine PE.weak (pe_callB call_isi h2 h3 PyProof.Rows.boot_isinstance (pa_cons hx (pa_cons py pa_nil (by rfl)) (okSt_ok hs)) (by decide) (by decide) (okSt_ok hs) (by rfl)) fun σ H Q q => ?_
  refine tE.then (g := fun _ x => (isinD Pg x.1 t).b fun r => .ok (.bl r, .deep, [])) (k := fun x H1 Q => rIsi X.K [x, .ty n] H1 Q) (q.ev fun env => by rw [evE]) fun env τ H1 t' o u E s k gt p => ?_
  dsimp only at p
  unfold isinD at p
  rw [hn] at p
  dsimp only at p
  cases e1 : tyD t'.d with
  | none => rw [e1] at p; exact p.elim
  | some m =>
    rw [e1] at p
    obtain ⟨ty, hm⟩ := tyD_ok k e1
    exact ⟨_, _, _, _, _, rfl, .ty n, by rw [g.K]; exact ty, kit_ty (kit_all m hm n (tyN_mem hn)), p.bl s⟩
/-! ### index -/
theorem attB_ok {e : Expr} {a : Str} {env : PySem.Env} (h : attB e = true) : attributeBase e a env (eval e env) = eval e env := by
  cases e with
  | Call f as kw pos =>
    cases as with
    | nil => cases h
    | cons x xs => cases f <;> rfl
  | _ => rfl
theorem pe_index {x y : CE} {l e : Expr} {ap cp : Pos} (g : GoodE X b C.G Pg L C.W sc) (hl : ap.endLine = cp.line) (ha : attB l = true) (hs : okSt e = true) (hx : PE X l (tE C (evE Pg x))) (hy : PE X e (tE C (evE Pg y))) :
    PE X (.Call (.Attribute l "index" ap) [e] [] cp) (tE C (evE Pg (.index x y))) := by
  refine PE.weak (pe_bm PySem.F.plainAttrs_list PySem.F.slot_list_index PySem.F.type_list_index mt_index hx (pa_cons hy pa_nil (okSt_ok hs)) (attB_ok ha) (by rw [okSt_ok hs]; rfl) (by rw [hl]; simp) (okSt_ok hs) (by rfl)) fun σ H Q q => ?_
  refine tE.then (k := fun x H1 Q => tyV X.K "list" x H1 ∧ tE C (evE Pg y) σ H1 fun y H2 => rIndex X.K x [y] H2 Q) (g := fun env x => match x.1 with
    | .node .lst xs => (evE Pg y env).b fun y => (R.of (findD y.1 xs)).b fun i => .ok (.int i, .deep, [])
    | _ => .no) (q.ev fun env => by rw [evE] <;> rfl) fun env τ H1 t o u E s1 k1 g1 p => ?_
  dsimp only at p
  split at p
  · rename_i ds e1
    obtain ⟨tk, a, ts, rfl, d1, d2, d3, d4⟩ := k1.node e1
    refine ⟨.inl ⟨rfl, _, by rw [g.K]; exact .inl (d3.list d1)⟩, env, τ, E.same s1, ?_⟩
    cases e3 : evE Pg y env with
    | no => rw [e3] at p; exact p
    | ex c => rw [e3] at p; exact fun H' z => p H' (s1.trans z)
    | ok ry =>
      rw [e3] at p
      intro H2 t' s2 k2 ed _
      obtain ⟨dy, o', u'⟩ := ry
      dsimp only at ed
      subst ed
      rw [b_ok] at p
      cases e2 : findD t'.d ds with
      | none => rw [e2] at p; exact p.elim
      | some j =>
        rw [e2] at p
        have pe : t'.d.pl = true ∧ ds.all D.pl = true ∧ ds.findIdx? (fun y => eqf y t'.d) = some j := by
          unfold findD at e2
          split at e2
          · rename_i hc
            simp only [Bool.and_eq_true] at hc
            exact ⟨hc.1, hc.2, e2⟩
          · cases e2
        obtain ⟨f1, f2, f3⟩ := pe
        obtain ⟨hj, f4, f5⟩ := List.findIdx?_eq_some_iff_getElem.mp f3
        have ev : ts.map (T.v C.G) = ds.map (lv C.G) := by rw [← d2]; exact vs_pl d4 (by rw [d2]; exact f2)
        have hsq : SqL X.K H2 a (ts.map (T.v C.G)) := by rw [g.K]; exact .inl ((d3.keep fun o z => s2 a o z).list d1)
        refine ⟨a, _, _, j, lv C.G ds[j], rfl, rfl, hsq, ?_, ?_, ?_, ?_, fun m z' hm hz => ?_, (show post C.G C.W env τ σ H Q (.ok (.int j, .deep, [])) from p).int (s1.trans s2)⟩
        · rw [k2.leaf (pl_flat f1)]; exact flatV_lv f1
        · rw [ev]; exact all_flatV f2
        · rw [ev, List.getElem?_map, List.getElem?_eq_getElem hj]; rfl
        · rw [k2.leaf (pl_flat f1), eqV_lv (List.all_eq_true.mp f2 _ (List.getElem_mem hj)) f1]; exact f4
        · rw [ev, List.getElem?_map] at hz
          have hm' : m < ds.length := by omega
          rw [List.getElem?_eq_getElem hm'] at hz
          cases hz
          rw [k2.leaf (pl_flat f1), eqV_lv (List.all_eq_true.mp f2 _ (List.getElem_mem hm')) f1]
          have := f5 m hm
          simpa using this
  · exact p.elim
end
end FR

namespace FR
open PySem PySem.Spec L2
open PyProof.Rows (IntsAre oneType' keyLt')
/-! ### lists of whole numbers in order -/
theorem lex_total : ∀ xs ys : List Int, HT.lexLt xs ys = false → HT.lexLt ys xs = false → xs = ys
  | [], [], _, _ => rfl
  | [], y :: ys, h, _ => by rw [HT.lexLt_nil_cons] at h; cases h
  | x :: xs, [], _, h => by rw [HT.lexLt_nil_cons] at h; cases h
  | x :: xs, y :: ys, h1, h2 => by
    rw [HT.lexLt_cons] at h1 h2
    by_cases e : x = y
    · subst e
      rw [if_pos rfl] at h1 h2
      rw [lex_total xs ys h1 h2]
    · rw [if_neg e] at h1
      rw [if_neg (Ne.symm e)] at h2
      have a := of_decide_eq_false h1
      have b := of_decide_eq_false h2
      omega
def gi (ns : List Int) (j : Nat) : Int := (ns[j]?).getD 0
theorem firstLt_eq {ns ms : List Int} : ∀ (k i : Nat), i ≤ min ns.length ms.length → k = min ns.length ms.length - i → SeqAt.firstLt (fun j => gi ns j == gi ms j) (fun j => decide (gi ns j < gi ms j)) (decide (ns.length < ms.length)) ((List.range (min ns.length ms.length)).drop i) = HT.lexLt (ns.drop i) (ms.drop i)
  | 0, i, hi, h => by
    rw [show (List.range (min ns.length ms.length)).drop i = [] from List.drop_of_length_le (by rw [List.length_range]; omega)]
    show decide _ = _
    by_cases hn : ns.length ≤ ms.length
    · rw [show ns.drop i = [] from List.drop_of_length_le (by omega)]
      by_cases h2 : ms.length ≤ i
      · rw [show ms.drop i = [] from List.drop_of_length_le h2, HT.lexLt_nil_nil]
        exact decide_eq_false (by omega)
      · rw [List.drop_eq_getElem_cons (by omega : i < ms.length), HT.lexLt_nil_cons]
        exact decide_eq_true (by omega)
    · rw [show ms.drop i = [] from List.drop_of_length_le (by omega), List.drop_eq_getElem_cons (by omega : i < ns.length), HT.lexLt_cons_nil]
      exact decide_eq_false (by omega)
  | k + 1, i, hi, h => by
    have hm : i < min ns.length ms.length := by omega
    have h1 : i < ns.length := by omega
    have h2 : i < ms.length := by omega
    rw [show (List.range (min ns.length ms.length)).drop i = i :: (List.range (min ns.length ms.length)).drop (i + 1) by simp [List.drop_eq_getElem_cons, hm], List.drop_eq_getElem_cons h1, List.drop_eq_getElem_cons h2, HT.lexLt_cons]
    have g1 : gi ns i = ns[i] := by unfold gi; rw [List.getElem?_eq_getElem h1]; rfl
    have g2 : gi ms i = ms[i] := by unfold gi; rw [List.getElem?_eq_getElem h2]; rfl
    by_cases e : ns[i] = ms[i]
    · rw [if_pos e, SeqAt.firstLt_yes (by rw [g1, g2, e]; simp)]
      exact firstLt_eq k (i + 1) (by omega) (by omega)
    · rw [if_neg e, SeqAt.firstLt_no (by rw [g1, g2]; simpa using e), g1, g2]
section
variable {prog : Program} {w : World} {A : Around} {E : Value → Shared → Prop} {s : Shared}
theorem ints_at {its : Array Value} {ns : List Int} (hi : IntsAre its.toList ns) {j : Nat} (h : j < its.size) : ∃ t, its[j] = .int (gi ns j) t := by
  obtain ⟨n, t, e1, e2⟩ := hi.at j its[j] (by rw [List.getElem?_eq_getElem (by simpa using h)]; simp)
  refine ⟨t, ?_⟩
  unfold gi
  rw [e1, e2]; rfl
theorem lt_rows {a b : Addr} {its its2 : Array Value} {ns ms : List Int} {Q : Bool → Shared → Prop} (hl : s.heap.IsList a its) (hb : s.heap.IsList b its2) (hi : IntsAre its.toList ns) (hj : IntsAre its2.toList ms) (hu : A.units < cLine)
    (h : Q (HT.lexLt ns ms) s) : wpAny (model prog w) A (keyLt' oneType' (.ref a) (.ref b)) Q E s := by
  have z1 : its.size = ns.length := by rw [← hi.length]; simp
  have z2 : its2.size = ms.length := by rw [← hj.length]; simp
  rw [PyProof.Rows.keyLt'_oneType, PyProof.Rows.oneLt'_eq]
  simp only [if_true]
  refine wpAny_bind (wpAny_cRoomFor hu ?_)
  have ht : s.TypeIs (.ref a) "list" := by
    obtain ⟨o, ho, hc, _⟩ := id hl
    exact ⟨o, ho, hc⟩
  refine wpAny_bind (wpAny_callSpecialIfBound?_slot (T := "list") ht PySem.F.slot_list_lt (SeqAt.call_list_lt (e := fun j => gi ns j == gi ms j) (r := fun j => decide (gi ns j < gi ms j)) hl hb (fun j h1 h2 => ?_) (fun j h1 h2 _ => ?_) ?_))
  · obtain ⟨t, e1⟩ := ints_at hi h1
    obtain ⟨u, e2⟩ := ints_at hj h2
    rw [e1, e2]
    exact SeqAt.EqAt.int_int _ t _ u
  · obtain ⟨t, e1⟩ := ints_at hi h1
    obtain ⟨u, e2⟩ := ints_at hj h2
    rw [e1, e2]
    exact fun prog w E Q q => HT.rcLt_int _ _ _ t _ u prog w E Q q
  · rw [z1, z2]
    have := firstLt_eq (ns := ns) (ms := ms) _ 0 (Nat.zero_le _) rfl
    rw [List.drop_zero, List.drop_zero, List.drop_zero] at this
    rw [this]
    exact wpAny_truthy_bool h
/-- the numbers of the list at v -/
def rowOf (h : Heap) (v : Value) : List Int := match v with
  | .ref a => match h.get? a with
    | some ⟨_, _, .seq its _, _⟩ => its.toList.map SrtO.iv
    | _ => []
  | _ => []
def IsRow (h : Heap) (v : Value) (ns : List Int) : Prop := ∃ a its, v = .ref a ∧ h.IsList a its ∧ IntsAre its.toList ns
theorem rowOf_eq {h : Heap} {v : Value} {ns : List Int} (x : IsRow h v ns) : rowOf h v = ns := by
  obtain ⟨a, its, rfl, ⟨⟨cls, dd, data, sl⟩, ho, hc, n, hd⟩, hi⟩ := x
  simp only at hd
  subst hd
  unfold rowOf
  simp only [ho]
  exact SrtO.iv_ints hi
theorem IsRow.keeps {h h' : Heap} {v : Value} {ns : List Int} (x : IsRow h v ns) (k : ∀ b o, v = .ref b → h.get? b = some o → h'.get? b = some o) : IsRow h' v ns := by
  obtain ⟨a, its, rfl, ⟨o, ho, r⟩, hi⟩ := x
  exact ⟨a, its, rfl, ⟨o, k a o rfl ho, r⟩, hi⟩
theorem rows_sortable {a : Addr} {vs : List Value} {k : Value → List Int} (h2 : 2 ≤ vs.length) (hu : A.units < cLine) (hv : ∀ v ∈ vs, IsRow s.heap v (k v)) (ha : ∀ v ∈ vs, v ≠ .ref a) : SrtO.SortableO prog w A s a vs fun v u => HT.lexLt (k v) (k u) := by
  intro h' keep
  have hv' : ∀ v ∈ vs, IsRow h' v (k v) := fun v hm => (hv v hm).keeps fun b o e g => keep b o (fun z => ha v hm (by rw [e, z])) g
  refine ⟨oneType', fun Q E hq => ?_, fun p q hp hq => ?_⟩
  · refine PySem.W.kas_kind (s := { s with heap := h' }) (T := .type "list") h2 (fun v hm => ?_) (by rfl) (by rfl) hq
    obtain ⟨b, its, rfl, ⟨o, ho, hc, _⟩, _⟩ := hv' v hm
    rw [← hc]
    exact (PySem.W.Looks.ld ho).andThen .now
  · obtain ⟨b, its, e1, l1, i1⟩ := hv' p.1 hp
    obtain ⟨c, its2, e2, l2, i2⟩ := hv' q.1 hq
    rw [e1, e2]
    exact lt_rows (Q := fun r s' => s' = { s with heap := h' } ∧ r = HT.lexLt (k p.1) (k q.1)) (s := { s with heap := h' }) l1 l2 i1 i2 hu ⟨rfl, rfl⟩
end
/-- sorted of lists of whole numbers, rising, or with reverse=True falling -/
def rSortRows (K : PySem.W.Frag) (b : Bool) : List V → Hp → VK → Prop := fun vs H Q => ∃ (a : Addr) (xs : List V) (k : V → List Int), vs = [V.ref a] ∧ SqL K H a xs ∧ (∀ x ∈ xs, ∃ p, x = V.ref p ∧ SqL K H p ((k x).map V.int)) ∧
  ∀ ys p, ys.Perm xs → ys.Pairwise (fun x y => (if b then HT.lexLt (k x) (k y) else HT.lexLt (k y) (k x)) = false) → H p = none → Q (.ref p) (upd H p (.lst ys))
section
variable {X : Cx} {L : Nat}
theorem rows_run {b : Bool} {pins : List (Addr × Obj)} {s : Shared} {σ : L2.St} {H : Hp} {a : Addr} {xs : List V} {k : V → List Int} {Q : VK} {go : Prop} (hu : X.A.in1.in1.units < cLine) (I : Inv X pins σ H s) (hs : SqL X.K H a xs) (hx : ∀ x ∈ xs, ∃ p, x = V.ref p ∧ SqL X.K H p ((k x).map V.int))
    (q : ∀ ys p, ys.Perm xs → ys.Pairwise (fun x y => (if b then HT.lexLt (k x) (k y) else HT.lexLt (k y) (k x)) = false) → H p = none → Q (.ref p) (upd H p (.lst ys)))
    (run : ∀ (its : List Value), s.heap.IsList a its.toArray → its.length ≤ sizeLine →
      (2 ≤ its.length → ∀ (h₁ : Heap) (a : Addr), h₁.get? a = some (PyProof.Rows.seqObj "list" its.toArray 0) → (∀ b o, s.heap.get? b = some o → b ≠ a ∧ h₁.get? b = some o) → SrtO.SortableO X.prog X.w X.A.in1.in1 { s with heap := h₁ } a its fun v u => HT.lexLt (rowOf s.heap v) (rowOf s.heap u)) →
      (∀ out : List Value, SrtO.Srtd (fun v u => HT.lexLt (rowOf s.heap v) (rowOf s.heap u)) out → SrtO.Stb (fun v u => HT.lexLt (rowOf s.heap v) (rowOf s.heap u)) out (if b = true then its.reverse else its) → EP X pins σ Q (.ref (s.heap.objs.size + 1)) { s with heap := PyProof.Rows.sortedAll s.heap its (if b = true then out.toArray.reverse else out.toArray) }) → go) : go := by
  obtain ⟨its, rv, hl, hz⟩ := I.list hs
  obtain ⟨e1, e2⟩ := refs_back rv fun x m => by
    obtain ⟨t, e, _⟩ := hx x m
    exact ⟨t, e⟩
  have row : ∀ v ∈ its, IsRow s.heap v (k (backV v)) := fun v hv => by
    obtain ⟨p, rfl⟩ := e2 v hv
    have hm : V.ref p ∈ xs := by rw [e1]; exact List.mem_map.mpr ⟨_, hv, rfl⟩
    obtain ⟨p', e, h⟩ := hx _ hm
    cases e
    obtain ⟨its2, r2, l2, _⟩ := I.list h
    exact ⟨p, its2.toArray, rfl, l2.isList, by
      have := r2.ints
      show IntsAre _ (k (V.ref p))
      simpa using this⟩
  have rk : ∀ v ∈ its, rowOf s.heap v = k (backV v) := fun v hv => rowOf_eq (row v hv)
  refine run its hl.isList (by rw [← rv.length]; exact hz) (fun h2 h₁ c _ hk => rows_sortable (s := { s with heap := h₁ }) h2 hu (fun v hv => ?_) fun v hv e => ?_) fun out h1 h2 => ?_
  · have := row v hv
    rw [← rk v hv] at this
    exact this.keeps fun b o _ g => (hk b o g).2
  · obtain ⟨p, its2, e', ⟨o, ho, _⟩, _⟩ := row v hv
    rw [e] at e'
    cases e'
    exact (hk c o ho).1 rfl
  · have pm : out.Perm its := by
      have := h2.perm
      cases b with
      | true => exact this.trans (List.reverse_perm its)
      | false => exact this
    have h3 : ∀ u ∈ out, ∃ a, u = Value.ref a := fun u hu => e2 u (pm.mem_iff.mp hu)
    have hp : (out.map backV).Perm xs := by rw [e1]; exact pm.map _
    have srt : (out.map backV).Pairwise (fun x y => HT.lexLt (k y) (k x) = false) := by
      refine List.pairwise_map.mpr ((List.Pairwise.imp_of_mem fun {x y} mx my h => ?_) h1)
      rw [← rk x (pm.mem_iff.mp mx), ← rk y (pm.mem_iff.mp my)]
      exact h
    obtain ⟨ep, he'⟩ := PyProof.Rows.sortedAll_at s.heap its (if b = true then out.toArray.reverse else out.toArray)
    cases b with
    | false =>
      refine ⟨.ref _, upd H (s.heap.objs.size + 1) (.lst (out.map backV)), I.laid (t' := s.toks) (fun _ _ => PyProof.Rows.sortedAll_old) (Nat.le_succ _) ⟨by rw [hp.length_eq]; exact hz, out, ep, vals_back h3, he'⟩, rfl, q _ _ hp srt (I.hok.fresh (Nat.le_succ _))⟩
    | true =>
      have h4 : ∀ u ∈ out.reverse, ∃ a, u = Value.ref a := fun u hu => h3 u (List.mem_reverse.mp hu)
      have er : (out.map backV).reverse = out.reverse.map backV := (List.map_reverse ..).symm
      refine ⟨.ref _, upd H (s.heap.objs.size + 1) (.lst (out.map backV).reverse), I.laid (t' := s.toks) (fun _ _ => PyProof.Rows.sortedAll_old) (Nat.le_succ _) ⟨by rw [List.length_reverse, hp.length_eq]; exact hz, out.reverse, ep, by rw [er]; exact vals_back h4, by simpa using he'⟩, rfl,
        q _ _ ((List.reverse_perm _).trans hp) (List.pairwise_reverse.mpr srt) (I.hok.fresh (Nat.le_succ _))⟩
theorem cr_sortedRows (hu : X.A.in1.in1.units < cLine) : CallR X (.builtin "sorted") (rSortRows X.K false) := by
  intro pins s σ H vs us Q I r h
  obtain ⟨a, xs, k, rfl, hs, hx, q⟩ := h
  obtain rfl := Vals.ref1 r
  exact rows_run (b := false) hu I hs hx q fun its hl hz hS hout => SrtO.sorted_ord (NtL.swo_lexL (rowOf s.heap)) hl hz hS fun out h1 h2 => hout out h1 h2
theorem cr_sortedRowsR (hu : X.A.in1.in1.units < cLine) : CallRK X (.builtin "sorted") [Str.ofString "reverse"] (fun vs zs H Q => zs = [.bl true] ∧ rSortRows X.K true vs H Q) := by
  intro pins s σ H vs zs us ws Q I r rz h
  obtain ⟨rfl, a, xs, k, rfl, hs, hx, q⟩ := h
  obtain rfl := Vals.ref1 r
  obtain ⟨w1, rfl, ew⟩ := vals1 rz
  obtain rfl : w1 = Value.bool true := ew
  exact rows_run (b := true) hu I hs hx q fun its hl hz hS hout => SrtR.sorted_ordK (b := true) (fun _ => rfl) (PyProof.Rows.args_sorted_rev _ _) (fun _ => PyProof.Rows.args_list_sort_rev _ _) (NtL.swo_lexL (rowOf s.heap)) hl hz hS fun out h1 h2 => hout out h1 h2
end
/-! ### .. told -/
theorem perm_map_inv {α β : Type} {f : α → β} {ys zs : List β} (h : ys.Perm zs) : ∀ {ts : List α}, zs = ts.map f → ∃ ts' : List α, ts'.Perm ts ∧ ys = ts'.map f := by
  induction h with
  | nil => intro ts e; exact ⟨ts, List.Perm.refl _, e⟩
  | cons x _ ih =>
    intro ts e
    cases ts with
    | nil => cases e
    | cons t ts =>
      simp only [List.map_cons, List.cons.injEq] at e
      obtain ⟨ts', h1, h2⟩ := ih e.2
      exact ⟨t :: ts', h1.cons t, by rw [List.map_cons, e.1, h2]⟩
  | swap x y l =>
    intro ts e
    cases ts with
    | nil => cases e
    | cons t ts => cases ts with
      | nil => simp at e
      | cons u ts =>
        simp only [List.map_cons, List.cons.injEq] at e
        exact ⟨u :: t :: ts, List.Perm.swap t u ts, by rw [List.map_cons, List.map_cons, ← e.1, ← e.2.1, ← e.2.2]⟩
  | trans _ _ ih1 ih2 =>
    intro ts e
    obtain ⟨ts2, h1, h2⟩ := ih2 e
    obtain ⟨ts3, h3, h4⟩ := ih1 h2
    exact ⟨ts3, h3.trans h1, h4⟩
theorem insRow_perm (x : List Int) : ∀ l, (insRow x l).Perm (x :: l)
  | [] => List.Perm.refl _
  | y :: ys => by
    unfold insRow
    split
    · exact ((insRow_perm x ys).cons y).trans (List.Perm.swap x y ys)
    · exact List.Perm.refl _
theorem sortRows_perm : ∀ l, (sortRows l).Perm l
  | [] => List.Perm.refl _
  | x :: xs => (insRow_perm x _).trans ((sortRows_perm xs).cons x)
abbrev Fall (l : List (List Int)) : Prop := l.Pairwise fun x y => HT.lexLt x y = false
theorem insRow_fall (x : List Int) : ∀ l, Fall l → Fall (insRow x l)
  | [], _ => by simp [insRow, Fall]
  | y :: ys, h => by
    unfold insRow
    have h' := List.pairwise_cons.mp h
    split
    · rename_i hlt
      refine List.pairwise_cons.mpr ⟨fun z hz => ?_, insRow_fall x ys h'.2⟩
      rcases List.mem_cons.mp ((insRow_perm x ys).subset hz) with rfl | hz
      · exact NtL.lex_asym _ _ hlt
      · exact h'.1 z hz
    · rename_i hge
      have hge : HT.lexLt x y = false := by simpa using hge
      refine List.pairwise_cons.mpr ⟨fun z hz => ?_, h⟩
      rcases List.mem_cons.mp hz with rfl | hz
      · exact hge
      · exact NtL.lex_tr z y x (h'.1 z hz) hge
theorem sortRows_fall : ∀ l, Fall (sortRows l)
  | [] => List.Pairwise.nil
  | x :: xs => insRow_fall x _ (sortRows_fall xs)
theorem fall_uniq {l m : List (List Int)} (h : l.Perm m) (h1 : Fall l) (h2 : Fall m) : l = m := h.eq_of_pairwise (fun a b _ _ p q => lex_total a b p q) h1 h2
/-- the rows of several told lists -/
def rowT (t : T) : List Int := match t.d with
  | .node .lst xs => (intsD xs).getD []
  | _ => []
theorem rows_told : ∀ {ts : List T} {rs : List (List Int)}, rowsOf (T.ds ts) = some rs → rs = ts.map rowT ∧ ∀ t ∈ ts, t.d = rowD (rowT t)
  | [], rs, h => by
    simp only [T.ds, rowsOf, Option.some.injEq] at h
    subst h
    exact ⟨rfl, by simp⟩
  | t :: ts, rs, h => by
    simp only [T.ds] at h
    unfold rowsOf at h
    split at h
    · rename_i e; cases e
    · rename_i xs r e
      simp only [List.cons.injEq] at e
      obtain ⟨e1, rfl⟩ := e
      cases e2 : intsD xs with
      | none => rw [e2] at h; cases h
      | some ns =>
        rw [e2] at h
        cases e3 : rowsOf (T.ds ts) with
        | none => rw [e3] at h; cases h
        | some rs' =>
          rw [e3] at h
          simp only [Option.bind_some, Option.map_some, Option.some.injEq] at h
          subst h
          obtain ⟨h1, h2⟩ := rows_told e3
          have er : rowT t = ns := by unfold rowT; rw [e1]; simp [e2]
          refine ⟨by rw [List.map_cons, er, ← h1], fun u hu => ?_⟩
          rcases List.mem_cons.mp hu with rfl | hu
          · rw [er, e1, intsD_of e2]; rfl
          · exact h2 u hu
    · cases h
section
variable {C : CE₀} {X : Cx} {b : Tb} {Pg : Prog} {L : Nat} {sc : Scope}
theorem row_sq {H : Hp} {t : T} (k : t.ok C.G H) (e : t.d = rowD (rowT t)) : ∃ p, t.v C.G = .ref p ∧ Rd H p (.lst ((rowT t).map V.int)) := by
  unfold rowD at e
  obtain ⟨tk, a, ts, rfl, d1, d2, d3, d4⟩ := k.node e
  refine ⟨a, rfl, ?_⟩
  have := vs_ints d4 d2
  rw [← this]
  exact d3.list d1
theorem row_same {H : Hp} {t u : T} (k : t.ok C.G H) (e : t.d = rowD (rowT t)) (k' : u.ok C.G H) (e' : u.d = rowD (rowT u)) (h : t.v C.G = u.v C.G) : rowT t = rowT u := by
  obtain ⟨p, h1, h2⟩ := row_sq k e
  obtain ⟨p', h3, h4⟩ := row_sq k' e'
  rw [h, h3] at h1
  cases h1
  have : (rowT t).map V.int = (rowT u).map V.int := by
    rcases h2 with h2 | ⟨o, h2⟩ <;> rcases h4 with h4 | ⟨o', h4⟩
    · exact (HO.lst.inj (Option.some.inj (h2.symm.trans h4)))
    · have := Option.some.inj (h2.symm.trans h4); cases this
    · have := Option.some.inj (h2.symm.trans h4); cases this
    · exact HO.lst.inj (HO.frz.inj (Option.some.inj (h2.symm.trans h4))).2
  exact List.map_inj_right (fun a b z => by injection z) |>.mp this
theorem sort_told {bb : Bool} {env : En} {τ : Nat → T} {σ : L2.St} {H H1 : Hp} {t : T} {o : Own} {u : List Nat} {ds : List D} {rs : List (List Int)} {Q : VK} (hK : X.K = C.G.K) (s : Same H H1) (k : t.ok C.G H1) (g : Tg env τ H t o u) (ed : t.d = .node .lst ds) (er : rowsOf ds = some rs)
    (p : post C.G C.W env τ σ H Q (.ok (newL .lst ((if bb then sortRows rs else (sortRows rs).reverse).map rowD) o u))) : rSortRows X.K bb [t.v C.G] H1 Q := by
  obtain ⟨tk, a, ts, rfl, d1, rfl, d3, d4⟩ := k.node ed
  obtain ⟨r1, r2⟩ := rows_told er
  have ok : ∀ x ∈ ts, x.ok C.G H1 := oks_iff.mp d4
  let kf : V → List Int := fun x => ((ts.find? fun t => decide (t.v C.G = x)).map rowT).getD []
  have kf_eq : ∀ x ∈ ts, kf (x.v C.G) = rowT x := fun x hx => by
    show ((ts.find? fun t => decide (t.v C.G = x.v C.G)).map rowT).getD [] = _
    cases e : ts.find? fun t => decide (t.v C.G = x.v C.G) with
    | none =>
      have := List.find?_eq_none.mp e x hx
      simp at this
    | some y =>
      have hy := List.mem_of_find?_eq_some e
      have ey : y.v C.G = x.v C.G := by simpa using List.find?_some e
      exact row_same (ok y hy) (r2 y hy) (ok x hx) (r2 x hx) ey
  refine ⟨a, ts.map (T.v C.G), kf, rfl, by rw [hK]; exact .inl (d3.list d1), fun x hx => ?_, fun ys q pm srt hq => ?_⟩
  · obtain ⟨y, hy, rfl⟩ := List.mem_map.mp hx
    obtain ⟨c, h1, h2⟩ := row_sq (ok y hy) (r2 y hy)
    exact ⟨c, h1, by rw [kf_eq y hy]; exact .inl h2⟩
  · obtain ⟨ts', pm', rfl⟩ := perm_map_inv pm rfl
    have mem : ∀ x ∈ ts', x ∈ ts := fun x hx => pm'.subset hx
    have srt' : (ts'.map rowT).Pairwise (fun x y => (if bb then HT.lexLt x y else HT.lexLt y x) = false) := by
      refine List.pairwise_map.mpr ((List.Pairwise.imp_of_mem fun {x y} mx my h => ?_) (List.pairwise_map.mp srt))
      rw [kf_eq x (mem x mx), kf_eq y (mem y my)] at h
      exact h
    have er' : (if bb then sortRows rs else (sortRows rs).reverse) = ts'.map rowT := by
      cases bb with
      | true =>
        refine fall_uniq ((sortRows_perm rs).trans (by rw [r1]; exact (pm'.map rowT).symm)) (sortRows_fall rs) ?_
        exact srt'
      | false =>
        have h1 : sortRows rs = (ts'.map rowT).reverse := fall_uniq ((sortRows_perm rs).trans (by rw [r1]; exact ((List.reverse_perm _).trans (pm'.map rowT)).symm)) (sortRows_fall rs) (List.pairwise_reverse.mpr srt')
        show (sortRows rs).reverse = _
        rw [h1, List.reverse_reverse]
    have ed' : (if bb then sortRows rs else (sortRows rs).reverse).map rowD = T.ds ts' := by
      rw [er', ds_map, List.map_map]
      refine List.map_congr_left fun x hx => ?_
      exact (r2 x (mem x hx)).symm
    rw [ed'] at p
    refine p.list s (oks_iff.mpr fun x hx => ok x (mem x hx)) ?_ hq
    have gk := g.kids
    have fp : (T.fps ts').Perm (T.fps ts) := by
      have : ∀ l : List T, T.fps l = l.flatMap T.fp := fun l => by
        induction l with
        | nil => simp [T.fps]
        | cons x xs ih => simp [T.fps, ih]
      rw [this, this]
      exact pm'.flatMap_right _
    refine ⟨fun b hb => gk.cov b (fp.subset hb), fun e => ?_⟩
    obtain ⟨n, pl, dd⟩ := gk.deep e
    exact ⟨fp.symm.nodup n, plains_iff.mpr fun x hx => plains_iff.mp pl x (mem x hx), dd⟩
def gSrt (x : D × Own × List Nat) : Rv := match x.1 with
    | .node .lst xs => match intsD xs with
      | some ns => .ok (.node .lst ((sortInts ns).map D.int), .deep, [])
      | none => (R.of (rowsOf xs)).b fun rs => .ok (newL .lst ((sortRows rs).reverse.map rowD) x.2.1 x.2.2)
    | _ => .no
theorem room_in1 {A : Around} (r : Room L A) : A.in1.in1.units < cLine := by
  have := r.un
  show A.units + 1 + 1 < _
  omega
theorem r_srt (hr : Room L X.A) (hK : X.K = C.G.K) : CallR X (.builtin "sorted") (rOne C gSrt) := by
  intro pins s σ H vs us Q I r h
  obtain ⟨env, τ, σ', H0, t, o, u, e, E, s1, k, g, p⟩ := h
  cases ed : t.d with
  | node dk ds =>
    cases dk with
    | lst =>
      cases e2 : intsD ds with
      | some ns =>
        refine r_srtI (C := C) hK pins s σ H vs us Q I r ⟨env, τ, σ', H0, t, o, u, e, E, s1, k, g, ?_⟩
        unfold gSrt at p
        unfold gSrtI
        rw [ed] at p ⊢
        dsimp only at p ⊢
        rw [e2] at p ⊢
        exact p
      | none =>
        refine cr_sortedRows (room_in1 hr) pins s σ H vs us Q I r ?_
        subst e
        unfold gSrt at p
        rw [ed] at p
        dsimp only at p
        rw [e2] at p
        cases e3 : rowsOf ds with
        | none => rw [e3] at p; exact p.elim
        | some rs =>
          rw [e3] at p
          exact sort_told (bb := false) hK s1 k g ed e3 p
    | _ =>
      unfold gSrt at p
      rw [ed] at p
      exact p.elim
  | _ =>
    unfold gSrt at p
    rw [ed] at p
    exact p.elim
theorem pe_srtR {x : CE} {f : Str} {e : Expr} {j : Nat} {p p1 p2 q : Pos} (g : GoodE X b C.G Pg L C.W sc) (hf : bltB b sc f "sorted" = true) (hs : okSt e = true) (hx : PE X e (tE C (evE Pg x))) :
    PE X (.Call (.Name f p) [e] [⟨some "reverse", .Constant (.bool true) j p1, p2⟩] q) (tE C (evE Pg (.srtR x))) := by
  obtain ⟨rfl, h2, h3⟩ := bltB_ok g hf
  refine PE.weak (pe_callBK (cr_sortedRowsR (room_in1 g.room)) h2 h3 PyProof.Rows.boot_sorted (pa_cons hx pa_nil (okSt_ok hs)) (pk_cons pe_bl pk_nil) (by decide) (by decide) (by rw [okSt_ok hs]; rfl) (by rw [okSt_ok hs]; rfl)) fun σ H Q q => ?_
  refine tE.then (k := fun v H1 Q => [V.bl true] = [V.bl true] ∧ rSortRows X.K true [v] H1 Q) (g := fun env x => match x.1 with
    | .node .lst xs => (R.of (rowsOf xs)).b fun rs => .ok (newL .lst ((sortRows rs).map rowD) x.2.1 x.2.2)
    | _ => .no) (q.ev fun env => by rw [evE] <;> rfl) fun env τ H1 t o u E s1 k1 g1 p => ?_
  dsimp only at p
  split at p
  · rename_i ds e1
    cases e3 : rowsOf ds with
    | none => rw [e3] at p; exact p.elim
    | some rs =>
      rw [e3] at p
      exact ⟨rfl, sort_told (bb := true) g.K s1 k1 g1 e1 e3 p⟩
  · exact p.elim
end
end FR

namespace FR
open PySem PySem.Spec L2
/-! ### a callee that is told -/
section
variable {C : CE₀} {X : Cx} {b : Tb} {Pg : Prog} {L : Nat} {sc : Scope}
theorem eval_callee {f : Expr} {es : List Expr} {pos : Pos} {env : PySem.Env} (h : callee f = true) : eval (.Call f es [] pos) env = (do
    let v ← eval f env
    callWith pos v [] (backTo pos (starEach es env)) (backToKw pos (keywordEach [] env))) := by
  cases f <;> first | rfl | cases h
theorem fn_v {H : Hp} {t : T} {k : Nat} (kk : t.ok C.G H) (e : t.d = .fn k) : t.v C.G = .ref (C.G.fnA k) := by
  rw [kk.leaf (by rw [e]; rfl), e]; rfl
theorem pe_callv {x : CE} {es : List CE} {f : Expr} {l : List Expr} {pos : Pos} (g : GoodE X b C.G Pg L C.W sc) (hf : callee f = true) (hl : l.isEmpty = false) (hs : l.all okSt = true) (hx : PE X f (tE C (evE Pg x))) (ha : PA X l (tA C (evEs Pg es))) :
    PE X (.Call f l [] pos) (tE C (evE Pg (.callv x es))) := by
  cases l with
  | nil => cases hl
  | cons e l =>
    simp only [List.all_cons, Bool.and_eq_true] at hs
    refine ⟨fun pins s σ H Q I ⟨env, τ, E, q⟩ => ?_⟩
    rw [eval_callee hf]
    rw [evE] at q
    have q1 : tE C (evE Pg x) σ H fun v H1 => ∃ k, v = .ref (C.G.fnA k) ∧ ∃ nm, b.fns[k]? = some nm ∧ tA C (evEs Pg es) σ H1 fun vs H2 => spOf C.G (Pg.fn k) vs H2 Q (WE C.W σ) := by
      refine ⟨env, τ, E, ?_⟩
      cases e1 : evE Pg x env with
      | no => rw [e1] at q; exact q
      | ex c => rw [e1] at q; exact q
      | ok r =>
        rw [e1, b_ok] at q
        obtain ⟨d, o, u⟩ := r
        cases d with
        | fn k =>
          intro H1 t s1 kk ed gg
          refine ⟨k, fn_v kk ed, ?_⟩
          cases hk : b.fns[k]? with
          | none =>
            exfalso
            dsimp only at q
            cases e2 : evEs Pg es env with
            | no => rw [e2] at q; exact q
            | ex c => rw [e2] at q; exact q
            | ok r =>
              rw [e2] at q
              change post C.G C.W env τ σ H Q ((Pg.fn k r.1).b _) at q
              rw [g.st.out k _ hk] at q
              exact q
          | some nm =>
            refine ⟨nm, rfl, env, τ, E.same s1, ?_⟩
            dsimp only at q
            cases e2 : evEs Pg es env with
            | no => rw [e2] at q; exact q
            | ex c => rw [e2] at q; exact q.elim
            | ok r =>
              rw [e2] at q
              intro H2 ts s2 kk2 ed2 gg2
              obtain ⟨ds, o2, u2⟩ := r
              dsimp only at ed2 gg2
              subst ed2
              exact call_post (s1.trans s2) kk2 (gg2.mono s1) q
        | _ => exact q.elim
    refine wpAny_bind (thn (hx.run pins s σ H _ I q1) fun u s1 ⟨v, H1, I1, r1, k, ev, nm, hk, q2⟩ => ?_)
    subst ev
    cases r1
    obtain ⟨fd, ps, hm, hkp, hb, F⟩ := g.st.fn k nm hk
    refine PySem.W.callWith_K (h₀ := X.base) I.ok.mod.kin hkp (thn (ha.run pos pins s1 σ H1 _ I1 q2) fun us s2 ⟨vs, H2, I2, r, q3⟩ => ⟨I2.kIn, ?_⟩) (okSt_ok hs.1) (back_no hs.2)
    exact L2.run_fnSD (dvs := []) (ds := []) (E := fun σ => WE C.W σ) F g.room hb .nil (passAt g.tk σ) I2 r (by rw [List.append_nil]; exact q3)
end
end FR

namespace FR
open PySem PySem.Spec L2
/-! ### the environment changed -/
theorem ex2 {α β : Type} {a : α} {b : β} {p : α → β → Prop} : (∃ x y, (a = x ∧ b = y) ∧ p x y) ↔ p a b :=
  ⟨fun ⟨_, _, ⟨e, f⟩, h⟩ => e ▸ f ▸ h, fun h => ⟨a, b, ⟨rfl, rfl⟩, h⟩⟩
theorem setS_len (i : Nat) (s : Sl) (env : En) : (setS i s env).length = env.length := by unfold setS; rw [List.length_set, List.length_map]
theorem setS_self {i : Nat} {s : Sl} {env : En} (h : i < env.length) : (setS i s env)[i]? = some (some s) := by
  unfold setS; rw [List.getElem?_set_self (by rw [List.length_map]; exact h)]
theorem setS_out {i : Nat} {s : Sl} {env : En} (h : ¬ i < env.length) (j : Nat) : (setS i s env)[j]? = (env.map (stripF i))[j]? := by
  unfold setS; rw [List.set_eq_of_length_le (by rw [List.length_map]; omega)]
theorem setS_ne {i j : Nat} {s : Sl} {env : En} (h : j ≠ i) : (setS i s env)[j]? = (env.map (stripF i))[j]? := by
  unfold setS; rw [List.getElem?_set_ne (Ne.symm h)]
theorem strip_val {i j : Nat} {env : En} {d : D} {o : Own} : (env.map (stripF i))[j]? = some (some (Sl.val d o)) ↔ env[j]? = some (some (Sl.val d o)) := by
  rw [List.getElem?_map]
  cases env[j]? with
  | none => simp
  | some t =>
    cases t with
    | none => simp [stripF]
    | some t =>
      cases t with
      | val d' o' => simp [stripF]
      | al k p => by_cases hk : k = i <;> simp [hk, stripF]
theorem strip_al {i j k : Nat} {p : List Nat} {env : En} : (env.map (stripF i))[j]? = some (some (Sl.al k p)) ↔ env[j]? = some (some (Sl.al k p)) ∧ k ≠ i := by
  rw [List.getElem?_map]
  cases env[j]? with
  | none => simp
  | some t =>
    cases t with
    | none => simp [stripF]
    | some t =>
      cases t with
      | val d' o' => simp [stripF]
      | al k' p' =>
        by_cases hk : k' = i
        · simp only [Option.map_some, stripF, hk, if_true, Option.some.injEq, Sl.al.injEq]
          constructor
          · intro h; cases h
          · rintro ⟨⟨rfl, rfl⟩, h⟩; exact absurd rfl h
        · simp only [Option.map_some, stripF, if_neg hk, Option.some.injEq, Sl.al.injEq]
          constructor
          · rintro ⟨rfl, rfl⟩; exact ⟨⟨rfl, rfl⟩, hk⟩
          · rintro ⟨h, _⟩; exact h
theorem setS_val {i j : Nat} {s : Sl} {env : En} {d : D} {o : Own} (h : j ≠ i) : (setS i s env)[j]? = some (some (Sl.val d o)) ↔ env[j]? = some (some (Sl.val d o)) := by
  rw [setS_ne h]; exact strip_val
theorem setS_al {i j k : Nat} {s : Sl} {env : En} {p : List Nat} (h : j ≠ i) : (setS i s env)[j]? = some (some (Sl.al k p)) ↔ env[j]? = some (some (Sl.al k p)) ∧ k ≠ i := by
  rw [setS_ne h]; exact strip_al
theorem setS_isVal {i j : Nat} {s : Sl} {env : En} (h : j ≠ i) : isVal (setS i s env) j ↔ isVal env j := by
  unfold isVal; simp only [setS_val h]
theorem setS_isDeep {i j : Nat} {s : Sl} {env : En} (h : j ≠ i) : isDeep (setS i s env) j ↔ isDeep env j := by
  unfold isDeep; simp only [setS_val h]
def put (τ : Nat → T) (i : Nat) (t : T) : Nat → T := fun j => if j = i then t else τ j
theorem put_self {τ : Nat → T} {i : Nat} {t : T} : put τ i t i = t := by unfold put; rw [if_pos rfl]
theorem put_ne {τ : Nat → T} {i j : Nat} {t : T} (h : j ≠ i) : put τ i t j = τ j := by unfold put; rw [if_neg h]
/-- what is asked of the owner of a datum -/
def OwnOk (F : Hp) (env : En) (τ : Nat → T) (i : Nat) (t : T) : Own → Prop
  | .sh => True
  | .top => ∀ k a xs, t = .node k a xs → F a = none ∧ a ∉ T.fps xs ∧ (∀ o, k ≠ .lst (some o)) ∧ ∀ j, j ≠ i → isVal env j → a ∉ (τ j).fp
  | .deep => t.fp.Nodup ∧ t.plain ∧ (∀ a ∈ t.fp, F a = none) ∧ ∀ j, j ≠ i → isVal env j → ∀ a ∈ t.fp, a ∉ (τ j).fp
  | .bor => False
section
variable {G : Gs} {F H : Hp} {A₀ : AP} {env : En} {τ : Nat → T} {σ σ' : L2.St}
theorem EO.put (E : EO G F A₀ env τ σ H) {i : Nat} {t : T} {o : Own} (hl : σ'.length = σ.length) (h1 : i < env.length → σ'[i]? = some (some (t.v G))) (h2 : ∀ (j : Nat) (s : Sl), j ≠ i → env[j]? = some (some s) → σ'[j]? = σ[j]?)
    (k : t.ok G H) (cov : ∀ a ∈ t.fp, F a = none ∨ a ∈ A₀) (own : OwnOk F env τ i t o)
    (oth : ∀ j, j ≠ i → (∀ d, env[j]? = some (some (Sl.val d .top)) → ∀ k a xs, τ j = .node k a xs → a ∉ t.fp) ∧ (isDeep env j → ∀ a ∈ (τ j).fp, a ∉ t.fp)) :
    EO G F A₀ (setS i (.val t.d o) env) (put τ i t) σ' H := by
  by_cases hi : i < env.length
  · have sv : ∀ j d o', (setS i (.val t.d o) env)[j]? = some (some (Sl.val d o')) → (j = i ∧ d = t.d ∧ o' = o) ∨ (j ≠ i ∧ env[j]? = some (some (Sl.val d o'))) := fun j d o' e => by
      by_cases hj : j = i
      · subst hj
        rw [setS_self hi] at e
        cases e
        exact .inl ⟨rfl, rfl, rfl⟩
      · exact .inr ⟨hj, (setS_val hj).mp e⟩
    refine ⟨by rw [hl, setS_len, E.len], fun j d o' e => ?_, fun j m p e => ?_, E.old, fun j v => ?_, fun j d e => ?_, fun j v => ?_, fun j d e => (sv j d .bor e).elim (fun ⟨_, _, z⟩ => by rw [← z] at own; exact own.elim) fun ⟨hj, e⟩ => by rw [h2 j _ hj e]; exact E.pin j d e⟩
    · rcases sv j d o' e with ⟨rfl, rfl, rfl⟩ | ⟨hj, e⟩
      · rw [put_self]; exact ⟨rfl, k, h1 hi⟩
      · rw [put_ne hj, h2 j _ hj e]; exact E.val j d o' e
    · by_cases hj : j = i
      · subst hj
        rw [setS_self hi] at e
        cases e
      · obtain ⟨e, hm⟩ := (setS_al hj).mp e
        obtain ⟨d, o', u, e1, e2, e3⟩ := E.ali j m p e
        exact ⟨d, o', u, (setS_val hm).mpr e1, by rw [put_ne hm]; exact e2, by rw [h2 j _ hj e]; exact e3⟩
    · by_cases hj : j = i
      · subst hj; rw [put_self]; exact cov
      · rw [put_ne hj]; exact E.cov j ((setS_isVal hj).mp v)
    · rcases sv j d .top e with ⟨rfl, rfl, rfl⟩ | ⟨hj, e⟩
      · rw [put_self]
        intro k' a xs et
        obtain ⟨x1, x2, x3, x4⟩ := own k' a xs et
        exact ⟨x1, x2, x3, fun m hm v => by rw [put_ne hm]; exact x4 m hm ((setS_isVal hm).mp v)⟩
      · rw [put_ne hj]
        intro k' a xs et
        obtain ⟨x1, x2, x3, x4⟩ := E.top j d e k' a xs et
        refine ⟨x1, x2, x3, fun m hm v => ?_⟩
        by_cases hmi : m = i
        · rw [hmi, put_self]; exact (oth j hj).1 d e k' a xs et
        · rw [put_ne hmi]; exact x4 m hm ((setS_isVal hmi).mp v)
    · by_cases hj : j = i
      · subst hj
        obtain ⟨d, e⟩ := v
        rw [setS_self hi] at e
        cases e
        rw [put_self]
        obtain ⟨x1, x2, x3, x4⟩ := own
        exact ⟨x1, x2, x3, fun m hm v => by rw [put_ne hm]; exact x4 m hm ((setS_isVal hm).mp v)⟩
      · have v' := (setS_isDeep hj).mp v
        rw [put_ne hj]
        obtain ⟨x1, x2, x3, x4⟩ := E.deep j v'
        refine ⟨x1, x2, x3, fun m hm w => ?_⟩
        by_cases hmi : m = i
        · subst hmi; rw [put_self]; exact (oth j hj).2 v'
        · rw [put_ne hmi]; exact x4 m hm ((setS_isVal hmi).mp w)
  · have out : ∀ j s, (setS i (.val t.d o) env)[j]? = some (some s) → j ≠ i := fun j s e q => by
      subst q
      have := (List.getElem?_eq_some_iff.mp e).1
      rw [setS_len] at this
      exact hi this
    have outv : ∀ j, isVal (setS i (.val t.d o) env) j → j ≠ i := fun j ⟨d, o', e⟩ => out j _ e
    refine ⟨by rw [hl, setS_len, E.len], fun j d o' e => ?_, fun j m p e => ?_, E.old, fun j v => ?_, fun j d e => ?_, fun j v => ?_, fun j d e => by
      have hj := out j _ e
      have e := (setS_val hj).mp e
      rw [h2 j _ hj e]; exact E.pin j d e⟩
    · have hj := out j _ e
      have e := (setS_val hj).mp e
      rw [put_ne hj, h2 j _ hj e]; exact E.val j d o' e
    · have hj := out j _ e
      obtain ⟨e, hm⟩ := (setS_al hj).mp e
      obtain ⟨d, o', u, e1, e2, e3⟩ := E.ali j m p e
      exact ⟨d, o', u, (setS_val hm).mpr e1, by rw [put_ne hm]; exact e2, by rw [h2 j _ hj e]; exact e3⟩
    · have hj := outv j v
      rw [put_ne hj]; exact E.cov j ((setS_isVal hj).mp v)
    · have hj := out j _ e
      rw [put_ne hj]
      intro k' a xs et
      obtain ⟨x1, x2, x3, x4⟩ := E.top j d ((setS_val hj).mp e) k' a xs et
      exact ⟨x1, x2, x3, fun m hm v => by rw [put_ne (outv m v)]; exact x4 m hm ((setS_isVal (outv m v)).mp v)⟩
    · have hj := outv j v.val
      rw [put_ne hj]
      obtain ⟨x1, x2, x3, x4⟩ := E.deep j ((setS_isDeep hj).mp v)
      exact ⟨x1, x2, x3, fun m hm w => by rw [put_ne (outv m w)]; exact x4 m hm ((setS_isVal (outv m w)).mp w)⟩
/-- an environment that knows less -/
theorem EO.less {env' : En} (E : EO G F A₀ env τ σ H) (hl : env'.length = env.length) (hv : ∀ (j : Nat) d o, env'[j]? = some (some (Sl.val d o)) → env[j]? = some (some (Sl.val d o)) ∨ (o = .sh ∧ ∃ o', env[j]? = some (some (Sl.val d o'))))
    (ha : ∀ (j m : Nat) p, env'[j]? = some (some (Sl.al m p)) → env[j]? = some (some (Sl.al m p)) ∧ (isVal env m → isVal env' m)) : EO G F A₀ env' τ σ H := by
  have vv : ∀ j, isVal env' j → isVal env j := fun j ⟨d, o, e⟩ => (hv j d o e).elim (fun e => ⟨d, o, e⟩) fun ⟨_, o', e⟩ => ⟨d, o', e⟩
  have vt : ∀ j d o, o ≠ .sh → env'[j]? = some (some (Sl.val d o)) → env[j]? = some (some (Sl.val d o)) := fun j d o ho e => (hv j d o e).elim id fun ⟨z, _⟩ => absurd z ho
  refine ⟨by rw [E.len, hl], fun j d o e => ?_, fun j m p e => ?_, E.old, fun j v => E.cov j (vv j v), fun j d e k a xs et => ?_, fun j ⟨d, e⟩ => ?_, fun j d e => (hv j d .bor e).elim (E.pin j d) fun ⟨z, _⟩ => by cases z⟩
  · rcases hv j d o e with e | ⟨_, o', e⟩
    · exact E.val j d o e
    · exact E.val j d o' e
  · obtain ⟨e, h⟩ := ha j m p e
    obtain ⟨d, o', u, e1, e2, e3⟩ := E.ali j m p e
    obtain ⟨d', o2, e4⟩ := h ⟨d, o', e1⟩
    exact ⟨d', o2, u, e4, e2, e3⟩
  · obtain ⟨x1, x2, x3, x4⟩ := E.top j d (vt j d .top (by simp) e) k a xs et
    exact ⟨x1, x2, x3, fun m hm v => x4 m hm (vv m v)⟩
  · obtain ⟨x1, x2, x3, x4⟩ := E.deep j ⟨d, vt j d .deep (by simp) e⟩
    exact ⟨x1, x2, x3, fun m hm v => x4 m hm (vv m v)⟩
theorem shAll_get {j : Nat} {s : Sl} : (shAll env)[j]? = some (some s) ↔ (∃ d o, env[j]? = some (some (Sl.val d o)) ∧ s = .val d .sh) ∨ (∃ m p, env[j]? = some (some (Sl.al m p)) ∧ s = .al m p) := by
  unfold shAll
  rw [List.getElem?_map]
  cases env[j]? with
  | none => simp
  | some t =>
    cases t with
    | none => simp [shF]
    | some t =>
      cases t with
      | val d' o' => simp [shF, ex2, eq_comm (a := s)]
      | al k p => simp [shF, ex2, eq_comm (a := s)]
theorem EO.shAll (E : EO G F A₀ env τ σ H) : EO G F A₀ (FR.shAll env) τ σ H := by
  refine E.less (by unfold FR.shAll; rw [List.length_map]) (fun j d o e => ?_) fun j m p e => ?_
  · rcases shAll_get.mp e with ⟨d', o', e', q⟩ | ⟨m, p, _, q⟩
    · cases q; exact .inr ⟨rfl, o', e'⟩
    · cases q
  · rcases shAll_get.mp e with ⟨d', o', _, q⟩ | ⟨m', p', e', q⟩
    · cases q
    · cases q
      exact ⟨e', fun ⟨d, o, v⟩ => ⟨d, .sh, shAll_get.mpr (.inl ⟨d, o, v, rfl⟩)⟩⟩
theorem shAll_isVal {j : Nat} : isVal (shAll env) j ↔ isVal env j := by
  constructor
  · rintro ⟨d, o, e⟩
    rcases shAll_get.mp e with ⟨d', o', e', q⟩ | ⟨m, p, _, q⟩
    · exact ⟨d', o', e'⟩
    · cases q
  · rintro ⟨d, o, e⟩
    exact ⟨d, .sh, shAll_get.mpr (.inl ⟨d, o, e, rfl⟩)⟩
theorem shAll_sh {j : Nat} {d : D} {o : Own} (e : (shAll env)[j]? = some (some (Sl.val d o))) : o = .sh := by
  rcases shAll_get.mp e with ⟨d', o', e', q⟩ | ⟨m, p, _, q⟩
  · cases q; rfl
  · cases q
theorem kilF_get {js : List Nat} : ∀ {env : En} {n j : Nat} {s : Sl}, (kilF js n env)[j]? = some (some s) ↔ n + j ∉ js ∧ ((∃ d o, env[j]? = some (some (Sl.val d o)) ∧ s = .val d o) ∨ (∃ m p, env[j]? = some (some (Sl.al m p)) ∧ m ∉ js ∧ s = .al m p))
  | [], n, j, s => by simp [kilF]
  | t :: r, n, 0, s => by
    simp only [kilF, List.getElem?_cons_zero, Option.some.injEq, Nat.add_zero]
    by_cases h : n ∈ js
    · simp [h]
    · simp only [List.contains_eq_mem, decide_eq_true_eq, h, if_false, not_false_eq_true, true_and]
      cases t with
      | none => simp
      | some t =>
        cases t with
        | val d o => simp [ex2, eq_comm (a := s)]
        | al m p => by_cases hm : m ∈ js <;> simp [hm, ex2, eq_comm (a := s)]
  | t :: r, n, j + 1, s => by
    simp only [kilF, List.getElem?_cons_succ]
    rw [kilF_get (env := r) (n := n + 1) (j := j)]
    rw [show n + 1 + j = n + (j + 1) by omega]
theorem kilF_len {js : List Nat} : ∀ {env : En} {n : Nat}, (kilF js n env).length = env.length
  | [], n => by simp [kilF]
  | t :: r, n => by simp [kilF, kilF_len (env := r)]
theorem kil_get {js : List Nat} {env : En} {j : Nat} {s : Sl} : (kil js env)[j]? = some (some s) ↔ j ∉ js ∧ ((∃ d o, env[j]? = some (some (Sl.val d o)) ∧ s = .val d o) ∨ (∃ m p, env[j]? = some (some (Sl.al m p)) ∧ m ∉ js ∧ s = .al m p)) := by
  unfold kil
  split
  · rename_i h
    have : js = [] := List.isEmpty_iff.mp h
    subst this
    simp only [List.not_mem_nil, not_false_eq_true, true_and]
    constructor
    · intro e
      cases s with
      | val d o => exact .inl ⟨d, o, e, rfl⟩
      | al m p => exact .inr ⟨m, p, e, rfl⟩
    · rintro (⟨d, o, e, rfl⟩ | ⟨m, p, e, rfl⟩) <;> exact e
  · rw [kilF_get]; simp
theorem kil_len {js : List Nat} {env : En} : (kil js env).length = env.length := by
  unfold kil; split
  · rfl
  · exact kilF_len
theorem kil_isVal {js : List Nat} {env : En} {j : Nat} : isVal (kil js env) j ↔ j ∉ js ∧ isVal env j := by
  constructor
  · rintro ⟨d, o, e⟩
    obtain ⟨h, ⟨d', o', e', q⟩ | ⟨m, p, _, _, q⟩⟩ := kil_get.mp e
    · exact ⟨h, d', o', e'⟩
    · cases q
  · rintro ⟨h, d, o, e⟩
    exact ⟨d, o, kil_get.mpr ⟨h, .inl ⟨d, o, e, rfl⟩⟩⟩
theorem EO.kil (E : EO G F A₀ env τ σ H) (js : List Nat) : EO G F A₀ (FR.kil js env) τ σ H := by
  refine E.less kil_len (fun j d o e => ?_) fun j m p e => ?_
  · obtain ⟨h, ⟨d', o', e', q⟩ | ⟨m, p, _, _, q⟩⟩ := kil_get.mp e
    · cases q; exact .inl e'
    · cases q
  · obtain ⟨h, ⟨d', o', e', q⟩ | ⟨m', p', e', hm, q⟩⟩ := kil_get.mp e
    · cases q
    · cases q
      exact ⟨e', fun v => kil_isVal.mpr ⟨hm, v⟩⟩
theorem demF_get {js : List Nat} : ∀ {env : En} {n j : Nat} {s : Sl}, (demF js n env)[j]? = some (some s) ↔ (∃ d o, env[j]? = some (some (Sl.val d o)) ∧ s = .val d (if n + j ∈ js then o.dm else o)) ∨ (∃ m p, env[j]? = some (some (Sl.al m p)) ∧ s = .al m p)
  | [], n, j, s => by simp [demF]
  | t :: r, n, 0, s => by
    simp only [demF, List.getElem?_cons_zero, Option.some.injEq, Nat.add_zero]
    cases t with
    | none => simp
    | some t =>
      cases t with
      | val d o => by_cases h : n ∈ js <;> simp [h, ex2, eq_comm (a := s)]
      | al m p => simp [ex2, eq_comm (a := s)]
  | t :: r, n, j + 1, s => by
    simp only [demF, List.getElem?_cons_succ]
    rw [demF_get (env := r) (n := n + 1) (j := j)]
    rw [show n + 1 + j = n + (j + 1) by omega]
theorem demF_len {js : List Nat} : ∀ {env : En} {n : Nat}, (demF js n env).length = env.length
  | [], n => by simp [demF]
  | t :: r, n => by simp [demF, demF_len (env := r)]
theorem dem_get {js : List Nat} {env : En} {j : Nat} {s : Sl} : (dem js env)[j]? = some (some s) ↔ (∃ d o, env[j]? = some (some (Sl.val d o)) ∧ s = .val d (if j ∈ js then o.dm else o)) ∨ (∃ m p, env[j]? = some (some (Sl.al m p)) ∧ s = .al m p) := by
  unfold dem
  split
  · rename_i h
    have : js = [] := List.isEmpty_iff.mp h
    subst this
    simp only [List.not_mem_nil, if_false]
    constructor
    · intro e
      cases s with
      | val d o => exact .inl ⟨d, o, e, rfl⟩
      | al m p => exact .inr ⟨m, p, e, rfl⟩
    · rintro (⟨d, o, e, rfl⟩ | ⟨m, p, e, rfl⟩) <;> exact e
  · rw [demF_get]; simp
theorem dem_len {js : List Nat} {env : En} : (dem js env).length = env.length := by
  unfold dem; split
  · rfl
  · exact demF_len
theorem dem_isVal {js : List Nat} {env : En} {j : Nat} : isVal (dem js env) j ↔ isVal env j := by
  constructor
  · rintro ⟨d, o, e⟩
    rcases dem_get.mp e with ⟨d', o', e', q⟩ | ⟨m, p, _, q⟩
    · exact ⟨d', o', e'⟩
    · cases q
  · rintro ⟨d, o, e⟩
    exact ⟨d, _, dem_get.mpr (.inl ⟨d, o, e, rfl⟩)⟩
theorem dem_own {js : List Nat} {env : En} {j : Nat} {d : D} {o : Own} (ho : o ≠ .sh ∧ o ≠ .bor) (e : (dem js env)[j]? = some (some (Sl.val d o))) : j ∉ js ∧ env[j]? = some (some (Sl.val d o)) := by
  rcases dem_get.mp e with ⟨d', o', e', q⟩ | ⟨m, p, _, q⟩
  · by_cases h : j ∈ js
    · rw [if_pos h] at q
      cases q
      cases o' with
      | bor => exact absurd rfl ho.2
      | sh => exact absurd rfl ho.1
      | top => exact absurd rfl ho.1
      | deep => exact absurd rfl ho.1
    · rw [if_neg h] at q; cases q; exact ⟨h, e'⟩
  · cases q
theorem EO.dem (E : EO G F A₀ env τ σ H) (js : List Nat) : EO G F A₀ (FR.dem js env) τ σ H := by
  refine E.less dem_len (fun j d o e => ?_) fun j m p e => ?_
  · rcases dem_get.mp e with ⟨d', o', e', q⟩ | ⟨m, p, _, q⟩
    · by_cases h : j ∈ js
      · rw [if_pos h] at q
        cases q
        cases o' with
        | bor => exact .inl e'
        | sh => exact .inl e'
        | top => exact .inr ⟨rfl, _, e'⟩
        | deep => exact .inr ⟨rfl, _, e'⟩
      · rw [if_neg h] at q; cases q; exact .inl e'
    · cases q
  · rcases dem_get.mp e with ⟨d', o', _, q⟩ | ⟨m', p', e', q⟩
    · cases q
    · cases q
      exact ⟨e', fun v => dem_isVal.mpr v⟩
end
end FR

namespace FR
open PySem PySem.Spec L2
/-! ### what is walked -/
structure Walks (G : Gs) (J : It) (t1 t2 : T) (ds : List D) : Prop where
  go : ∀ i H, t1.ok G H → t2.ok G H → i < ds.length → J.go i H
  yld : ∀ (i : Nat) H x H', t1.ok G H → t2.ok G H → i < ds.length → J.yld i H x H' → Same H H' ∧ ∃ t : T, x = t.v G ∧ t.ok G H' ∧ ds[i]? = some t.d ∧ ∀ a ∈ t.fp, H a = none ∨ a ∈ t1.fp ∨ a ∈ t2.fp
  stop : ∀ i H, t1.ok G H → t2.ok G H → ds.length ≤ i → J.stop i H
section
variable {C : CE₀} {X : Cx} {b : Tb} {Pg : Prog} {L : Nat} {sc : Scope}
def itR (ik : IK) (fx fy : En → Rv) (env : En) : R ((D × Own × List Nat) × (D × Own × List Nat) × List D) :=
  (fx env).b fun x => (fy env).b fun y => (itD ik x.1 y.1).b fun items => .ok (x, y, items)
def tI (C : CE₀) (ik : IK) (fx fy : En → Rv) : TI := fun σ H R => ∃ env τ, EO C.G C.F C.A₀ env τ σ H ∧ (match itR ik fx fy env with
  | .no => False
  | .ex c => ∀ H', Same H H' → C.W (.ref (C.G.cls c)) none σ H'
  | .ok r => ∀ H1 (t1 t2 : T) J, Same H H1 → t1.ok C.G H1 → t2.ok C.G H1 → t1.d = r.1.1 → t2.d = r.2.1.1 → Tg env τ H t1 r.1.2.1 r.1.2.2 → Tg env τ H t2 r.2.1.2.1 r.2.1.2.2 → Walks C.G J t1 t2 r.2.2 → R J H1)
theorem PI.weak {tg it : Expr} {t t' : TI} (h : PI X tg it t) (w : ∀ σ H R, t' σ H R → t σ H R) : PI X tg it t' := ⟨fun pins s σ H R I q => h.run pins s σ H R I (w σ H R q)⟩
theorem itD_nex {ik : IK} {x y : D} {c : Nat} : itD ik x y ≠ .ex c := fun e => by
  unfold itD at e
  (repeat' split at e) <;> cases e
/-- one thing walked: the second is nothing -/
theorem tI.one {ik : IK} {fx : En → Rv} {y : CE} (hy : y.isNil = true) {σ : L2.St} {H : Hp} {R : It → Hp → Prop} {env : En} {τ : Nat → T} (E : EO C.G C.F C.A₀ env τ σ H) 
    (q : match itR ik fx (evE Pg y) env with
      | .no => False
      | .ex c => ∀ H', Same H H' → C.W (.ref (C.G.cls c)) none σ H'
      | .ok r => ∀ H1 (t1 t2 : T) J, Same H H1 → t1.ok C.G H1 → t2.ok C.G H1 → t1.d = r.1.1 → t2.d = r.2.1.1 → Tg env τ H t1 r.1.2.1 r.1.2.2 → Tg env τ H t2 r.2.1.2.1 r.2.1.2.2 → Walks C.G J t1 t2 r.2.2 → R J H1) {k : V → Hp → Prop}
    (step : ∀ H1 (t : T) items, (∃ o u, fx env = .ok (t.d, o, u)) → Same H H1 → t.ok C.G H1 → itD ik t.d .non = .ok items → (∀ J, Walks C.G J t (.leaf .non) items → R J H1) → k (t.v C.G) H1) : tE C fx σ H k := by
  cases y <;> simp [CE.isNil] at hy
  refine ⟨env, τ, E, ?_⟩
  unfold itR at q
  have en : evE Pg .nil env = .ok (.non, .deep, []) := by rw [evE]
  cases e : fx env with
  | no => rw [e] at q; exact q
  | ex c => rw [e] at q; exact q
  | ok r =>
    obtain ⟨d, o, u⟩ := r
    rw [e, b_ok, en, b_ok] at q
    dsimp only at q
    intro H1 t s kk ed g
    dsimp only at ed g
    cases e2 : itD ik d .non with
    | no => rw [e2] at q; exact q.elim
    | ex c => exact absurd e2 itD_nex
    | ok items =>
      rw [e2, b_ok] at q
      refine step H1 t items ⟨o, u, by rw [ed, e]⟩ s kk (by rw [ed]; exact e2) fun J w => ?_
      exact q H1 t (.leaf .non) J s kk (by unfold T.ok; rfl) ed (by simp [T.d]) g .leaf w
theorem leafok {H : Hp} : (T.leaf .non).ok C.G H := by unfold T.ok; rfl
theorem walks_list {K : PySem.W.Frag} (hK : K = C.G.K) {k : TK} {a : Addr} {ts : List T} (hk : k.dk = .lst) {t2 : T} : Walks C.G (Itl K a) (.node k a ts) t2 (T.ds ts) := by
  have sq : ∀ H, (T.node k a ts).ok C.G H → SqL K H a (ts.map (T.v C.G)) := fun H h => by
    unfold T.ok at h
    rw [hK]; exact .inl (h.1.list hk)
  refine ⟨fun i H h _ hi => ?_, fun i H x H' h _ hi hy => ?_, fun i H h _ hi => ?_⟩
  · rw [ds_length] at hi
    exact ⟨_, (ts[i]).v C.G, sq H h, by rw [List.getElem?_map, List.getElem?_eq_getElem hi]; rfl⟩
  · obtain ⟨rfl, hx⟩ := hy
    rw [ds_length] at hi
    have := hx _ (sq _ h)
    rw [List.getElem?_map, List.getElem?_eq_getElem hi] at this
    unfold T.ok at h
    refine ⟨Same.refl _, ts[i], (Option.some.inj this).symm, oks_iff.mp h.2 _ (List.getElem_mem hi), by rw [ds_get, List.getElem?_eq_getElem hi]; rfl, fun b hb => .inr (.inl ?_)⟩
    simp only [T.fp, List.mem_cons]
    exact .inr (mem_fps.mpr ⟨_, List.getElem_mem hi, hb⟩)
  · rw [ds_length] at hi
    exact ⟨_, sq H h, by rw [List.length_map]; exact hi⟩
theorem walks_tup {K : PySem.W.Frag} (hK : K = C.G.K) {k : TK} {a : Addr} {ts : List T} (hk : k.dk = .tup) {t2 : T} : Walks C.G (Itt K a) (.node k a ts) t2 (T.ds ts) := by
  have sq : ∀ H, (T.node k a ts).ok C.G H → SqT K H a (ts.map (T.v C.G)) := fun H h => by
    unfold T.ok at h
    exact .inl (.inl (h.1.tup hk))
  refine ⟨fun i H h _ hi => ?_, fun i H x H' h _ hi hy => ?_, fun i H h _ hi => ?_⟩
  · rw [ds_length] at hi
    exact ⟨_, (ts[i]).v C.G, sq H h, by rw [List.getElem?_map, List.getElem?_eq_getElem hi]; rfl⟩
  · obtain ⟨rfl, hx⟩ := hy
    rw [ds_length] at hi
    have := hx _ (sq _ h)
    rw [List.getElem?_map, List.getElem?_eq_getElem hi] at this
    unfold T.ok at h
    refine ⟨Same.refl _, ts[i], (Option.some.inj this).symm, oks_iff.mp h.2 _ (List.getElem_mem hi), by rw [ds_get, List.getElem?_eq_getElem hi]; rfl, fun b hb => .inr (.inl ?_)⟩
    simp only [T.fp, List.mem_cons]
    exact .inr (mem_fps.mpr ⟨_, List.getElem_mem hi, hb⟩)
  · rw [ds_length] at hi
    exact ⟨_, sq H h, by rw [List.length_map]; exact hi⟩
theorem rangeD_len (lo : Int) : ∀ n, (rangeD lo n).length = n
  | 0 => rfl
  | n + 1 => by simp [rangeD, rangeD_len (lo + 1) n]
theorem rangeD_get : ∀ (n i : Nat) (lo : Int), i < n → (rangeD lo n)[i]? = some (.int (lo + i))
  | 0, _, _, h => absurd h (by omega)
  | n + 1, 0, lo, _ => by simp [rangeD]
  | n + 1, i + 1, lo, h => by
    simp only [rangeD, List.getElem?_cons_succ]
    rw [rangeD_get n i (lo + 1) (by omega)]
    congr 2
    omega
theorem walks_rng {t1 t2 : T} {lo : Int} {n : Nat} : Walks C.G (Itr lo n) t1 t2 (rangeD lo n) := by
  refine ⟨fun i H _ _ hi => ?_, fun i H x H' _ _ hi hy => ?_, fun i H _ _ hi => ?_⟩
  · rw [rangeD_len] at hi; exact hi
  · obtain ⟨rfl, rfl⟩ := hy
    rw [rangeD_len] at hi
    exact ⟨Same.refl _, .leaf (.int (lo + i)), rfl, by unfold T.ok; rfl, rangeD_get n i lo hi, fun a ha => by simp [T.fp] at ha⟩
  · rw [rangeD_len] at hi; exact hi
theorem same_upd {H : Hp} {p : Addr} {o : HO} (h : H p = none) : Same H (upd H p o) := fun b x e => by
  rw [upd_ne (ne_of_none e h)]
  exact e
theorem enumD_len : ∀ (ds : List D) (i : Int), (enumD i ds).length = ds.length
  | [], _ => rfl
  | d :: ds, i => by simp [enumD, enumD_len ds (i + 1)]
theorem enumD_get : ∀ (ds : List D) (i : Int) (j : Nat) (d : D), ds[j]? = some d → (enumD i ds)[j]? = some (.node .tup [.int (i + j), d])
  | [], _, _, _, h => by simp at h
  | d :: ds, i, 0, d', h => by simp at h; simp [enumD, h]
  | d :: ds, i, j + 1, d', h => by
    simp only [List.getElem?_cons_succ] at h
    simp only [enumD, List.getElem?_cons_succ]
    rw [enumD_get ds (i + 1) j d' h]
    congr 4
    omega
theorem walks_enum {K : PySem.W.Frag} (hK : K = C.G.K) {k : TK} {a : Addr} {ts : List T} (hk : k.dk = .lst) {t2 : T} : Walks C.G (Ite K a) (.node k a ts) t2 (enumD 0 (T.ds ts)) := by
  have sq : ∀ H, (T.node k a ts).ok C.G H → SqL K H a (ts.map (T.v C.G)) := fun H h => by
    unfold T.ok at h
    rw [hK]; exact .inl (h.1.list hk)
  refine ⟨fun i H h _ hi => ?_, fun i H x H' h _ hi hy => ?_, fun i H h _ hi => ?_⟩
  · rw [enumD_len, ds_length] at hi
    exact ⟨_, (ts[i]).v C.G, sq H h, by rw [List.getElem?_map, List.getElem?_eq_getElem hi]; rfl⟩
  · obtain ⟨p, x', rfl, hp, rfl, hx⟩ := hy
    rw [enumD_len, ds_length] at hi
    have := hx _ (sq _ h)
    rw [List.getElem?_map, List.getElem?_eq_getElem hi] at this
    have ex := (Option.some.inj this).symm
    unfold T.ok at h
    have kx := oks_iff.mp h.2 _ (List.getElem_mem hi)
    have s2 : Same H (upd H p (.tup [.int (i : Nat), x'])) := same_upd hp
    refine ⟨s2, .node .tup p [.leaf (.int (i : Nat)), ts[i]], rfl, ?_, ?_, fun b hb => ?_⟩
    · unfold T.ok
      refine ⟨?_, oks_iff.mpr fun z hz => ?_⟩
      rotate_left
      · simp only [List.mem_cons, List.not_mem_nil, or_false] at hz
        rcases hz with rfl | rfl
        · unfold T.ok; rfl
        · exact kx.same s2
      show upd H p _ p = _
      rw [upd_same, ex]; rfl
    · rw [enumD_get (T.ds ts) 0 i (ts[i]).d (by rw [ds_get, List.getElem?_eq_getElem hi]; rfl)]
      simp [T.d, T.ds, TK.dk]
    · simp only [T.fp, T.fps, List.mem_cons, List.nil_append, List.append_nil] at hb
      rcases hb with rfl | hb
      · exact .inl hp
      · refine .inr (.inl ?_)
        simp only [T.fp, List.mem_cons]
        exact .inr (mem_fps.mpr ⟨_, List.getElem_mem hi, hb⟩)
  · rw [enumD_len, ds_length] at hi
    exact ⟨_, sq H h, by rw [List.length_map]; exact hi⟩
theorem zipD_len : ∀ xs ys : List D, (zipD xs ys).length = min xs.length ys.length
  | [], ys => by simp [zipD]
  | x :: xs, [] => by simp [zipD]
  | x :: xs, y :: ys => by
    simp only [zipD, List.length_cons, zipD_len xs ys]
    omega
theorem zipD_get : ∀ (xs ys : List D) (j : Nat) (x y : D), xs[j]? = some x → ys[j]? = some y → (zipD xs ys)[j]? = some (.node .tup [x, y])
  | [], _, _, _, _, h, _ => by simp at h
  | _ :: _, [], _, _, _, _, h => by simp at h
  | x :: xs, y :: ys, 0, x', y', h, h' => by simp at h h'; simp [zipD, h, h']
  | x :: xs, y :: ys, j + 1, x', y', h, h' => by
    simp only [List.getElem?_cons_succ] at h h'
    simp only [zipD, List.getElem?_cons_succ]
    exact zipD_get xs ys j x' y' h h'
theorem walks_zip {K : PySem.W.Frag} (hK : K = C.G.K) {k k' : TK} {a a' : Addr} {ts ts' : List T} (hk : k.dk = .lst) (hk' : k'.dk = .lst) : Walks C.G (Itz K a a') (.node k a ts) (.node k' a' ts') (zipD (T.ds ts) (T.ds ts')) := by
  have sq : ∀ {k a ts} H, k.dk = .lst → (T.node k a ts).ok C.G H → SqL K H a (ts.map (T.v C.G)) := fun H hk h => by
    unfold T.ok at h
    rw [hK]; exact .inl (h.1.list hk)
  refine ⟨fun i H h h' hi => ?_, fun i H x H' h h' hi hy => ?_, fun i H h h' hi => ?_⟩
  · rw [zipD_len, ds_length, ds_length] at hi
    have h1 : i < ts.length := by omega
    have h2 : i < ts'.length := by omega
    exact ⟨_, _, (ts[i]).v C.G, (ts'[i]).v C.G, sq H hk h, sq H hk' h', by rw [List.getElem?_map, List.getElem?_eq_getElem h1]; rfl, by rw [List.getElem?_map, List.getElem?_eq_getElem h2]; rfl⟩
  · obtain ⟨p, x', y', rfl, hp, rfl, hx, hy⟩ := hy
    rw [zipD_len, ds_length, ds_length] at hi
    have h1 : i < ts.length := by omega
    have h2 : i < ts'.length := by omega
    have t1 := hx _ (sq _ hk h)
    have t2 := hy _ (sq _ hk' h')
    rw [List.getElem?_map, List.getElem?_eq_getElem h1] at t1
    rw [List.getElem?_map, List.getElem?_eq_getElem h2] at t2
    have ex := (Option.some.inj t1).symm
    have ey := (Option.some.inj t2).symm
    unfold T.ok at h h'
    have kx := oks_iff.mp h.2 _ (List.getElem_mem h1)
    have ky := oks_iff.mp h'.2 _ (List.getElem_mem h2)
    have s2 : Same H (upd H p (.tup [x', y'])) := same_upd hp
    refine ⟨s2, .node .tup p [ts[i], ts'[i]], rfl, ?_, ?_, fun b hb => ?_⟩
    · unfold T.ok
      refine ⟨?_, oks_iff.mpr fun z hz => ?_⟩
      rotate_left
      · simp only [List.mem_cons, List.not_mem_nil, or_false] at hz
        rcases hz with rfl | rfl
        · exact kx.same s2
        · exact ky.same s2
      show upd H p _ p = _
      rw [upd_same, ex, ey]; rfl
    · rw [zipD_get (T.ds ts) (T.ds ts') i (ts[i]).d (ts'[i]).d (by rw [ds_get, List.getElem?_eq_getElem h1]; rfl) (by rw [ds_get, List.getElem?_eq_getElem h2]; rfl)]
      simp [T.d, T.ds, TK.dk]
    · simp only [T.fp, T.fps, List.mem_cons, List.append_nil, List.mem_append] at hb
      rcases hb with rfl | hb | hb
      · exact .inl hp
      · refine .inr (.inl ?_)
        simp only [T.fp, List.mem_cons]
        exact .inr (mem_fps.mpr ⟨_, List.getElem_mem h1, hb⟩)
      · refine .inr (.inr ?_)
        simp only [T.fp, List.mem_cons]
        exact .inr (mem_fps.mpr ⟨_, List.getElem_mem h2, hb⟩)
  · rw [zipD_len, ds_length, ds_length] at hi
    exact ⟨_, _, sq H hk h, sq H hk' h', by rw [List.length_map, List.length_map]; omega⟩
/-! ### the iterables' rules -/
theorem pi_lst {tg it : Expr} {x y : CE} (g : GoodE X b C.G Pg L C.W sc) (hy : y.isNil = true) (hx : PE X it (tE C (evE Pg x))) : PI X tg it (tI C .lst (evE Pg x) (evE Pg y)) := by
  refine ⟨fun pins s σ H R I ⟨env, τ, E, q⟩ => ?_⟩
  by_cases ht : ∃ ds o u, evE Pg x env = .ok (.node .tup ds, o, u)
  · obtain ⟨ds, o, u, e⟩ := ht
    refine (pi_tup hx).run pins s σ H R I ?_
    refine tI.one hy E q fun H1 t items ⟨o', u', e'⟩ s kk ei w => ?_
    have ed : t.d = .node .tup ds := by
      rw [e] at e'
      injection e' with e'
      exact (congrArg Prod.fst e').symm
    obtain ⟨tk, a, ts, rfl, d1, d2, d3, d4⟩ := kk.node ed
    subst d2
    rw [ed] at ei
    cases ei
    exact ⟨a, rfl, ⟨_, .inl (.inl (d3.tup d1))⟩, w _ (walks_tup g.K d1)⟩
  · refine (pi_list hx).run pins s σ H R I ?_
    refine tI.one hy E q fun H1 t items ⟨o', u', e'⟩ s kk ei w => ?_
    cases ed : t.d with
    | node dk ds =>
      rw [ed] at ei e'
      cases dk with
      | lst =>
        obtain ⟨tk, a, ts, rfl, d1, d2, d3, d4⟩ := kk.node ed
        subst d2
        cases ei
        exact ⟨a, rfl, ⟨_, by rw [g.K]; exact .inl (d3.list d1)⟩, w _ (walks_list g.K d1)⟩
      | tup => exact absurd ⟨ds, o', u', e'⟩ ht
      | ins c => cases ei
    | _ => rw [ed] at ei; cases ei
theorem rng_of {n : Int} {items : List D} (h : itD .rng1 (.int n) .non = .ok items) : n < 16777216 ∧ -16777216 < n ∧ items = rangeD 0 n.toNat := by
  change (if (decide (n < 16777216) && decide (-16777216 < n)) = true then R.ok (rangeD 0 n.toNat) else R.no) = .ok items at h
  split at h
  · rename_i hc
    simp only [Bool.and_eq_true, decide_eq_true_eq] at hc
    cases h
    exact ⟨hc.1, hc.2, rfl⟩
  · cases h
theorem pi_rng1 {tg e : Expr} {x y : CE} {f : Str} {p pos : Pos} (g : GoodE X b C.G Pg L C.W sc) (hf : bltB b sc f "range" = true) (hy : y.isNil = true) (hs : okSt e = true) (hx : PE X e (tE C (evE Pg x))) :
    PI X tg (.Call (.Name f p) [e] [] pos) (tI C .rng1 (evE Pg x) (evE Pg y)) := by
  obtain ⟨rfl, h2, h3⟩ := bltB_ok g hf
  refine PI.weak (pi_range1 h2 h3 (pa_cons hx pa_nil (okSt_ok hs)) (okSt_ok hs)) fun σ H R ⟨env, τ, E, q⟩ => ?_
  refine tI.one hy E q fun H1 t items _ s kk ei w => ?_
  cases ed : t.d with
  | int n =>
    rw [ed] at ei
    obtain ⟨n1, n2, rfl⟩ := rng_of ei
    exact ⟨n, by rw [int_of kk ed], by omega, by omega, w _ walks_rng⟩
  | _ => rw [ed] at ei; cases ei
theorem pi_enm {e : Expr} {x y : CE} {f : Str} {elts : List Expr} {kk : Nat} {tpos p pos : Pos} (g : GoodE X b C.G Pg L C.W sc) (hf : bltB b sc f "enumerate" = true) (hy : y.isNil = true) (hs : okSt e = true) (hx : PE X e (tE C (evE Pg x))) :
    PI X (.Tuple elts kk tpos) (.Call (.Name f p) [e] [] pos) (tI C .enm (evE Pg x) (evE Pg y)) := by
  obtain ⟨rfl, h2, h3⟩ := bltB_ok g hf
  refine PI.weak (pi_enum h2 h3 (pa_cons hx pa_nil (okSt_ok hs)) (okSt_ok hs)) fun σ H R ⟨env, τ, E, q⟩ => ?_
  refine tI.one hy E q fun H1 t items _ s kk ei w => ?_
  cases ed : t.d with
  | node dk ds =>
    rw [ed] at ei
    cases dk with
    | lst =>
      obtain ⟨tk, a, ts, rfl, d1, d2, d3, d4⟩ := kk.node ed
      subst d2
      cases ei
      exact ⟨a, _, rfl, by rw [g.K]; exact .inl (d3.list d1), w _ (walks_enum g.K d1)⟩
    | _ => cases ei
  | _ => rw [ed] at ei; cases ei
/-- two things walked -/
theorem tI.two {ik : IK} {x y : CE} {σ : L2.St} {H : Hp} {R : It → Hp → Prop} (q : tI C ik (evE Pg x) (evE Pg y) σ H R) {k : V → V → Hp → Prop}
    (step : ∀ H1 (t t' : T) items, t.ok C.G H1 → t'.ok C.G H1 → itD ik t.d t'.d = .ok items → (∀ J, Walks C.G J t t' items → R J H1) → k (t.v C.G) (t'.v C.G) H1) : tE C (evE Pg x) σ H fun v H1 => tE C (evE Pg y) σ H1 fun w H2 => k v w H2 := by
  obtain ⟨env, τ, E, q⟩ := q
  refine ⟨env, τ, E, ?_⟩
  unfold itR at q
  cases e : evE Pg x env with
  | no => rw [e] at q; exact q
  | ex c => rw [e] at q; exact q
  | ok r =>
    obtain ⟨d, o, u⟩ := r
    rw [e, b_ok] at q
    intro H1 t s kk ed g
    dsimp only at ed g
    refine ⟨env, τ, E.same s, ?_⟩
    cases e' : evE Pg y env with
    | no => rw [e'] at q; exact q
    | ex c => rw [e'] at q; exact fun H' z => q H' (s.trans z)
    | ok r' =>
      obtain ⟨d', o', u'⟩ := r'
      rw [e', b_ok] at q
      intro H2 t' s' kk' ed' g'
      dsimp only at ed' g' q
      cases e2 : itD ik d d' with
      | no => rw [e2] at q; exact q.elim
      | ex c => exact absurd e2 itD_nex
      | ok items =>
        rw [e2, b_ok] at q
        refine step H2 t t' items (kk.same s') kk' (by rw [ed, ed']; exact e2) fun J w => ?_
        exact q H2 t t' J (s.trans s') (kk.same s') kk' ed ed' g (g'.mono s) w
theorem rng2_of {m n : Int} {items : List D} (h : itD .rng2 (.int m) (.int n) = .ok items) : n < 16777216 ∧ -16777216 < n ∧ m < 16777216 ∧ -16777216 < m ∧ items = rangeD m (n - m).toNat := by
  change (if (decide (n < 16777216) && decide (-16777216 < n) && decide (m < 16777216) && decide (-16777216 < m) && decide (n - m < 16777216)) = true then R.ok (rangeD m (n - m).toNat) else R.no) = .ok items at h
  split at h
  · rename_i hc
    simp only [Bool.and_eq_true, decide_eq_true_eq] at hc
    cases h
    exact ⟨hc.1.1.1.1, hc.1.1.1.2, hc.1.1.2, hc.1.2, rfl⟩
  · cases h
theorem pi_rng2 {tg e e2 : Expr} {x y : CE} {f : Str} {p pos : Pos} (g : GoodE X b C.G Pg L C.W sc) (hf : bltB b sc f "range" = true) (hs : okSt e = true) (hs2 : okSt e2 = true) (hx : PE X e (tE C (evE Pg x))) (hy : PE X e2 (tE C (evE Pg y))) :
    PI X tg (.Call (.Name f p) [e, e2] [] pos) (tI C .rng2 (evE Pg x) (evE Pg y)) := by
  obtain ⟨rfl, h2, h3⟩ := bltB_ok g hf
  refine PI.weak (pi_range2 h2 h3 (pa_cons hx (pa_cons hy pa_nil (okSt_ok hs2)) (okSt_ok hs)) (by rw [okSt_ok hs, okSt_ok hs2]; rfl) (okSt_ok hs2)) fun σ H R q => ?_
  refine tI.two (k := fun v w H2 => ∃ i j : Int, [v, w] = [.int i, .int j] ∧ (-(2 ^ 62) ≤ i ∧ i < 2 ^ 62 ∧ -(2 ^ 62) ≤ j ∧ j < 2 ^ 62) ∧ R (Itr i (j - i).toNat) H2) q fun H1 t t' items k1 k2 ei w => ?_
  cases ed : t.d with
  | int m =>
    cases ed' : t'.d with
    | int n =>
      rw [ed, ed'] at ei
      obtain ⟨n1, n2, n3, n4, rfl⟩ := rng2_of ei
      exact ⟨m, n, by rw [int_of k1 ed, int_of k2 ed'], ⟨by omega, by omega, by omega, by omega⟩, w _ walks_rng⟩
    | _ => rw [ed, ed'] at ei; cases ei
  | _ => rw [ed] at ei; cases ei
theorem pi_zp {e e2 : Expr} {x y : CE} {f : Str} {elts : List Expr} {kk : Nat} {tpos p pos : Pos} (g : GoodE X b C.G Pg L C.W sc) (hf : bltB b sc f "zip" = true) (hs : okSt e = true) (hs2 : okSt e2 = true) (hx : PE X e (tE C (evE Pg x))) (hy : PE X e2 (tE C (evE Pg y))) :
    PI X (.Tuple elts kk tpos) (.Call (.Name f p) [e, e2] [] pos) (tI C .zip (evE Pg x) (evE Pg y)) := by
  obtain ⟨rfl, h2, h3⟩ := bltB_ok g hf
  refine PI.weak (pi_zip h2 h3 (pa_cons hx (pa_cons hy pa_nil (okSt_ok hs2)) (okSt_ok hs)) (okSt_ok hs) (by rw [okSt_ok hs2]; rfl)) fun σ H R q => ?_
  refine tI.two (k := fun v w H2 => ∃ a b xs ys, [v, w] = [.ref a, .ref b] ∧ SqL X.K H2 a xs ∧ SqL X.K H2 b ys ∧ R (Itz X.K a b) H2) q fun H1 t t' items k1 k2 ei w => ?_
  have hh : (∃ ds, t.d = .node .lst ds) ∧ ∃ ds, t'.d = .node .lst ds := by
    cases ed : t.d with
    | node dk ds =>
      cases dk with
      | lst =>
        cases ed' : t'.d with
        | node dk' ds' =>
          cases dk' with
          | lst => exact ⟨⟨_, rfl⟩, _, rfl⟩
          | _ => rw [ed, ed'] at ei; cases ei
        | _ => rw [ed, ed'] at ei; cases ei
      | _ => rw [ed] at ei; cases ei
    | _ => rw [ed] at ei; cases ei
  obtain ⟨⟨ds, ed⟩, ds', ed'⟩ := hh
  obtain ⟨tk, a, ts, rfl, d1, d2, d3, d4⟩ := k1.node ed
  obtain ⟨tk', a', ts', rfl, d1', d2', d3', d4'⟩ := k2.node ed'
  subst d2 d2'
  rw [ed, ed'] at ei
  cases ei
  exact ⟨a, a', _, _, rfl, by rw [g.K]; exact .inl (d3.list d1), by rw [g.K]; exact .inl (d3'.list d1'), w _ (walks_zip g.K d1 d1')⟩
end
end FR

namespace FR
open PySem PySem.Spec L2
section
variable {C : CE₀} {X : Cx} {b : Tb} {Pg : Prog} {L : Nat} {sc : Scope}
/-! ### targets -/
def gT (K : PySem.W.Frag) : List Nat → TG
  | [i] => gName i
  | [i, j] => gTup K 2 (gCons (gName i) (gCons (gName j) gNil))
  | _ => fun _ _ _ _ => False
theorem pg_of {tg : List Nat} {t : Expr} {W : WX} {fn : Str → Bool} (g : GoodE X b C.G Pg L W sc) (hfn : ∀ x, fn x = true → X.fn x = true) (h : tgB b sc fn tg t = true) : PG X t (gT X.K tg) := by
  have nm : ∀ {i : Nat} {x : Str} {p : Pos}, nameL b sc fn i x = true → PG X (.Name x p) (gName i) := fun {i x p} h => by
    unfold nameL at h
    simp only [Bool.and_eq_true, Bool.or_eq_true, decide_eq_true_eq] at h
    obtain ⟨h1, h2⟩ := h
    rcases h2 with h2 | ⟨h2, h3⟩
    · have hl : X.env.scope.names.lookup x = some .local := by rw [g.scope]; exact h2
      exact pg_name g.nd (by rw [g.N]; exact h1) (.inl hl) (.inr hl)
    · have hl : X.env.scope.names.lookup x = some .cell := by rw [g.scope]; exact h2
      exact pg_name g.nd (by rw [g.N]; exact h1) (.inr hl) (.inl (hfn x h3))
  unfold tgB at h
  split at h
  · exact nm h
  · simp only [Bool.and_eq_true] at h
    exact pg_tup g.calm (pgs_cons (nm h.1.1) (pgs_cons (nm h.1.2) pgs_nil))
  · cases h
theorem flat_own {F : Hp} {env : En} {τ : Nat → T} {i : Nat} {t : T} {H : Hp} (k : t.ok C.G H) : OwnOk F env τ i t (if t.d.flat then .deep else .sh) := by
  by_cases f : t.d.flat = true
  · rw [if_pos f]
    obtain ⟨f1, f2⟩ := flat_fp k f
    exact ⟨by rw [f1]; exact List.nodup_nil, by rw [f2]; simp [T.plain], by rw [f1]; simp, by rw [f1]; simp⟩
  · rw [if_neg f]; trivial
/-- what is bound: a datum kept apart from what may change -/
def Sep (env : En) (τ : Nat → T) (t : T) : Prop := ∀ j, (∀ d, env[j]? = some (some (Sl.val d .top)) → ∀ k a xs, τ j = .node k a xs → a ∉ t.fp) ∧ (isDeep env j → ∀ a ∈ (τ j).fp, a ∉ t.fp)
theorem bind_ok {G : Gs} {F H : Hp} {A₀ : AP} {env env2 : En} {τ : Nat → T} {σ σ' : L2.St} {K : PySem.W.Frag} {tg : List Nat} {t : T} (E : EO G F A₀ env τ σ H) (k : t.ok G H) (cov : ∀ a ∈ t.fp, F a = none ∨ a ∈ A₀) (sep : Sep env τ t) (h : bindTg tg t.d env = .ok env2)
    (hl : σ'.length = σ.length) (hσ : ∀ (j : Nat) (s : Sl), j ∉ tg → env[j]? = some (some s) → σ'[j]? = σ[j]?) (hn : ∀ i j, tg = [i, j] → i ≠ j) {Q : L2.St → Hp → Prop}
    (hQ : ∀ τ' σ2, EO G F A₀ env2 τ' σ2 H → σ2.length = σ'.length → (∀ j, j ∉ tg → σ2[j]? = σ'[j]?) → (∀ i, isVal env2 i → (i ∉ tg ∧ isVal env i ∧ τ' i = τ i) ∨ (i ∈ tg ∧ ∀ a ∈ (τ' i).fp, a ∈ t.fp)) → (∀ j, j ∉ tg → ∀ s : Sl, env2[j]? = some (some s) → env[j]? = some (some s)) → Q σ2 H) : gT K tg (t.v G) σ' H Q := by
  unfold bindTg at h
  split at h
  · rename_i i
    cases h
    have E2 := E.put (σ' := σ'.set i (some (t.v G))) (i := i) (t := t) (o := if t.d.flat then .deep else .sh) (by rw [List.length_set, hl]) (fun hi => by rw [List.getElem?_set_self (by rw [hl, E.len]; exact hi)])
      (fun j s hj e => by rw [List.getElem?_set_ne (Ne.symm hj)]; exact hσ j s (by simpa using hj) e) k cov (by cases G; exact flat_own (C := ⟨_, F, A₀, fun _ _ _ _ => True⟩) k) (fun j _ => sep j)
    refine hQ _ _ E2 (by rw [List.length_set]) (fun j hj => ?_) (fun m v => ?_) fun j hj s e => ?_
    · rw [List.getElem?_set_ne]
      exact fun z => hj (by simp [z])
    · by_cases hm : m = i
      · subst hm; exact .inr ⟨by simp, by rw [put_self]; exact fun _ z => z⟩
      · exact .inl ⟨by simpa using hm, (setS_isVal hm).mp v, put_ne hm⟩
    · have hj' : j ≠ i := by simpa using hj
      cases s with
      | val d o => exact (setS_val hj').mp e
      | al m p => exact ((setS_al hj').mp e).1
  · rename_i i j
    have hij := hn i j rfl
    cases ed : t.d with
    | node dk ds =>
      rw [ed] at h
      split at h
      · rename_i x y he
        have he' : dk = .tup ∧ ds = [x, y] := by injection he with h1 h2; exact ⟨h1, h2⟩
        obtain ⟨rfl, rfl⟩ := he'
        obtain ⟨tk, ad, ts, rfl, d1, d2, d3, d4⟩ := k.node ed
        match ts, d2, d3, d4 with
        | [tx, ty], d2, d3, d4 =>
          simp only [T.ds, List.cons.injEq, and_true] at d2
          obtain ⟨rfl, rfl⟩ := d2
          cases h
          have kx : tx.ok G H := oks_iff.mp d4 tx (by simp)
          have ky : ty.ok G H := oks_iff.mp d4 ty (by simp)
          have sx : ∀ a ∈ tx.fp, a ∈ (T.node tk ad [tx, ty]).fp := fun a ha => by simp [T.fp, T.fps, ha]
          have sy : ∀ a ∈ ty.fp, a ∈ (T.node tk ad [tx, ty]).fp := fun a ha => by simp [T.fp, T.fps, ha]
          refine ⟨ad, [tx.v G, ty.v G], rfl, .inl (.inl (d3.tup d1)), rfl, tx.v G, [ty.v G], rfl, ty.v G, [], rfl, rfl, ?_⟩
          have E1 := E.put (σ' := σ.set i (some (tx.v G))) (i := i) (t := tx) (o := if tx.d.flat then .deep else .sh) (by rw [List.length_set]) (fun hi => by rw [List.getElem?_set_self (by rw [E.len]; exact hi)])
            (fun m s hm e => by rw [List.getElem?_set_ne (Ne.symm hm)]) kx (fun a ha => cov a (sx a ha)) (flat_own (C := ⟨_, F, A₀, fun _ _ _ _ => True⟩) kx) (fun m _ => ⟨fun d e k' a' xs q ha => (sep m).1 d e k' a' xs q (sx _ ha), fun v a ha q => (sep m).2 v a ha (sx a q)⟩)
          have fx : isDeep (setS i (Sl.val tx.d (if tx.d.flat then .deep else .sh)) env) i → tx.fp = [] := fun ⟨d, e⟩ => by
            have hi : i < env.length := by
              have := (List.getElem?_eq_some_iff.mp e).1
              rw [setS_len] at this; exact this
            rw [setS_self hi] at e
            by_cases f : tx.d.flat = true
            · exact (flat_fp kx f).1
            · rw [if_neg f] at e; cases e
          have E2 := E1.put (σ' := (σ'.set i (some (tx.v G))).set j (some (ty.v G))) (i := j) (t := ty) (o := if ty.d.flat then .deep else .sh) (by rw [List.length_set, List.length_set, List.length_set, hl])
            (fun hj => by
              rw [setS_len] at hj
              rw [List.getElem?_set_self (by rw [List.length_set, hl, E.len]; exact hj)])
            (fun m s hm e => by
              rw [List.getElem?_set_ne (Ne.symm hm)]
              by_cases hmi : m = i
              · subst hmi
                have hi : m < env.length := by
                  have := (List.getElem?_eq_some_iff.mp e).1
                  rw [setS_len] at this; exact this
                rw [List.getElem?_set_self (by rw [hl, E.len]; exact hi), List.getElem?_set_self (by rw [E.len]; exact hi)]
              · rw [List.getElem?_set_ne (Ne.symm hmi), List.getElem?_set_ne (Ne.symm hmi)]
                have e' : ∃ s, env[m]? = some (some s) := by
                  cases s with
                  | val d o => exact ⟨_, (setS_val hmi).mp e⟩
                  | al k p => exact ⟨_, ((setS_al hmi).mp e).1⟩
                obtain ⟨s', e'⟩ := e'
                exact hσ m s' (by simp [hmi, hm]) e')
            ky (fun a ha => cov a (sy a ha)) (flat_own (C := ⟨_, F, A₀, fun _ _ _ _ => True⟩) ky) (fun m hm => ⟨fun d e k' a' xs q ha => ?_, fun v a ha q => ?_⟩)
          · refine hQ _ _ E2 (by rw [List.length_set, List.length_set]) (fun m hm => ?_) (fun m v => ?_) fun m hm s e => ?_
            · simp only [List.mem_cons, List.not_mem_nil, or_false, not_or] at hm
              rw [List.getElem?_set_ne (Ne.symm hm.2), List.getElem?_set_ne (Ne.symm hm.1)]
            · by_cases hmj : m = j
              · subst hmj; exact .inr ⟨by simp, by rw [put_self]; exact sy⟩
              · have v1 := (setS_isVal hmj).mp v
                rw [put_ne hmj]
                by_cases hmi : m = i
                · subst hmi; exact .inr ⟨by simp, by rw [put_self]; exact sx⟩
                · exact .inl ⟨by simp [hmi, hmj], (setS_isVal hmi).mp v1, put_ne hmi⟩
            · simp only [List.mem_cons, List.not_mem_nil, or_false, not_or] at hm
              cases s with
              | val d o => exact (setS_val hm.1).mp ((setS_val hm.2).mp e)
              | al k p => exact ((setS_al hm.1).mp ((setS_al hm.2).mp e).1).1
          · by_cases hmi : m = i
            · subst hmi
              have hi : m < env.length := by
                have := (List.getElem?_eq_some_iff.mp e).1
                rw [setS_len] at this; exact this
              rw [setS_self hi] at e
              by_cases f : tx.d.flat = true
              · rw [if_pos f] at e; cases e
              · rw [if_neg f] at e; cases e
            · rw [put_ne hmi] at q
              exact (sep m).1 d ((setS_val hmi).mp e) k' a' xs q (sy _ ha)
          · by_cases hmi : m = i
            · subst hmi
              rw [put_self, fx v] at ha
              simp at ha
            · rw [put_ne hmi] at ha
              exact (sep m).2 ((setS_isDeep hmi).mp v) a ha (sy a q)
      · cases h
    | _ => rw [ed] at h; cases h
  · cases h
end
end FR

namespace FR
open PySem PySem.Spec L2
section
variable {C : CE₀} {X : Cx} {b : Tb} {Pg : Prog} {L : Nat} {sc : Scope}
/-! ### list comprehensions -/
abbrev CE₀.quiet (C : CE₀) : CE₀ := ⟨C.G, C.F, C.A₀, fun _ _ _ _ => False⟩
def lcF (Pg : Prog) (tg : List Nat) (c e : CE) (env : En) (d : D) : R (Option (D × Own × List Nat)) := ((bindTg tg d (shAll env)).b fun env => (evE Pg c env).b fun t => match t.1 with
        | .bl true => (evE Pg e env).b fun z => .ok (some z)
        | .bl false => .ok none
        | _ => .no).nx
theorem nx_ok {α : Type} {x : R α} {a : α} (h : x.nx = .ok a) : x = .ok a := by cases x <;> first | cases h; rfl | cases h
theorem nx_nex {α : Type} {x : R α} {c : Nat} : x.nx ≠ .ex c := by cases x <;> simp [R.nx]
theorem lcL_nex {f : D → R (Option (D × Own × List Nat))} (hf : ∀ d c, f d ≠ .ex c) : ∀ {ds : List D} {c : Nat}, lcL f ds ≠ .ex c
  | [], c => by simp [lcL]
  | d :: ds, c => by
    unfold lcL
    intro h
    cases e : f d with
    | no => rw [e] at h; cases h
    | ex c' => exact hf d c' e
    | ok r =>
      rw [e, b_ok] at h
      cases e2 : lcL f ds with
      | no => rw [e2] at h; cases h
      | ex c' => exact lcL_nex hf e2
      | ok z => rw [e2, b_ok] at h; cases r <;> cases h
theorem lcF_ok {tg : List Nat} {c e : CE} {env : En} {d : D} {r : Option (D × Own × List Nat)} (h : lcF Pg tg c e env d = .ok r) : ∃ env2, bindTg tg d (shAll env) = .ok env2 ∧ ∃ o u, (evE Pg c env2 = .ok (.bl false, o, u) ∧ r = none) ∨ (evE Pg c env2 = .ok (.bl true, o, u) ∧ ∃ z, evE Pg e env2 = .ok z ∧ r = some z) := by
  have h := nx_ok h
  obtain ⟨env2, h1, h⟩ := R.b_ok h
  obtain ⟨⟨t, o, u⟩, h2, h⟩ := R.b_ok h
  refine ⟨env2, h1, o, u, ?_⟩
  cases t with
  | bl x =>
    cases x with
    | true =>
      obtain ⟨z, h3, h⟩ := R.b_ok h
      cases h
      exact .inr ⟨h2, z, h3, rfl⟩
    | false => cases h; exact .inl ⟨h2, rfl⟩
  | _ => cases h
theorem wipe_get {σ : L2.St} {j : Nat} : ∀ {vs : List Nat}, j ∉ vs → (wipe σ vs)[j]? = σ[j]?
  | [], _ => rfl
  | v :: vs, h => by
    simp only [List.mem_cons, not_or] at h
    unfold wipe
    rw [List.getElem?_set_ne (fun z => h.1 z.symm), wipe_get h.2]
theorem wipe_in {σ : L2.St} {j : Nat} : ∀ {vs : List Nat}, j ∈ vs → (wipe σ vs)[j]? = if j < σ.length then some none else none
  | v :: vs, h => by
    unfold wipe
    by_cases hj : v = j
    · subst hj
      by_cases hl : v < σ.length
      · rw [List.getElem?_set_self (by rw [wipe_length]; exact hl), if_pos hl]
      · rw [if_neg hl, List.getElem?_eq_none (by rw [List.length_set, wipe_length]; omega)]
    · rw [List.getElem?_set_ne hj]
      rcases List.mem_cons.mp h with e | h
      · exact absurd e.symm hj
      · exact wipe_in h
theorem wipe_eq {σ σ' : L2.St} {vs : List Nat} (hl : σ'.length = σ.length) (h : ∀ j, j ∉ vs → σ'[j]? = σ[j]?) : wipe σ' vs = wipe σ vs := by
  refine List.ext_getElem? fun j => ?_
  by_cases hj : j ∈ vs
  · rw [wipe_in hj, wipe_in hj, hl]
  · rw [wipe_get hj, wipe_get hj, h j hj]
theorem sep_sh {env : En} {τ : Nat → T} {t : T} : Sep (shAll env) τ t := fun j => ⟨fun d e => absurd (shAll_sh e) (by simp), fun ⟨d, e⟩ => absurd (shAll_sh e) (by simp)⟩
theorem comp_read {ik : IK} {x y c e : CE} {tg : List Nat} {tt : TT} {te : TE} {σ : L2.St} {H : Hp} {Q : VK} (hn : ∀ i j, tg = [i, j] → i ≠ j)
    (ht : ∀ σ H Q, tT C.quiet (evE Pg c) σ H Q → tt σ H Q) (he : ∀ σ H Q, tE C.quiet (evE Pg e) σ H Q → te σ H Q) (q : tE C (evE Pg (.lc e tg ik x y c)) σ H Q) : tLc (tI C ik (evE Pg x) (evE Pg y)) (gT X.K tg) tt te tg σ H Q := by
  obtain ⟨env, τ, E, q⟩ := q
  have ev : evE Pg (.lc e tg ik x y c) env = (itR ik (evE Pg x) (evE Pg y) env).b fun r => if LIM < r.2.2.length then .no else (lcL (lcF Pg tg c e env) r.2.2).b fun z =>
      if z.2.1 then .ok (.node .lst z.1, .deep, []) else .ok (newL .lst z.1 .sh (z.2.2.filter (fun i => !tg.contains i) ++ (r.1.2.2 ++ r.2.1.2.2))) := by
    rw [evE]
    unfold itR
    cases evE Pg x env with
    | no => rfl
    | ex c => rfl
    | ok rx =>
      rw [b_ok, b_ok]
      cases evE Pg y env with
      | no => rfl
      | ex c => rfl
      | ok ry =>
        rw [b_ok, b_ok]
        cases itD ik rx.1 ry.1 with
        | no => rfl
        | ex c => rfl
        | ok items => rfl
  rw [ev] at q
  refine ⟨env, τ, E, ?_⟩
  cases er : itR ik (evE Pg x) (evE Pg y) env with
  | no => rw [er] at q; exact q
  | ex c => rw [er] at q; exact q
  | ok r =>
    rw [er, b_ok] at q
    obtain ⟨⟨dx, ox, ux⟩, ⟨dy, oy, uy⟩, items⟩ := r
    dsimp only at q ⊢
    intro H1 t1 t2 J s k1 k2 e1 e2 g1 g2 w D nD
    by_cases hlim : LIM < items.length
    · rw [if_pos hlim] at q; exact q.elim
    rw [if_neg hlim] at q
    cases ez : lcL (lcF Pg tg c e env) items with
    | no => rw [ez] at q; exact q.elim
    | ex c => exact absurd ez (lcL_nex fun d c => nx_nex)
    | ok z =>
      rw [ez, b_ok] at q
      have nD0 : H D = none := s.free nD
      have sD : Same H1 (upd H1 D (.lst [])) := same_upd nD
      refine ⟨fun i m H' => m = items.length - i ∧ i ≤ items.length ∧ Same H1 H' ∧ ∃ ts z', H' D = some (.lst (ts.map (T.v C.G))) ∧ T.oks C.G H' ts ∧ D ∉ T.fps ts ∧ lcL (lcF Pg tg c e env) (items.drop i) = .ok z' ∧ z.1 = T.ds ts ++ z'.1 ∧
          (z.2.1 = true → z'.2.1 = true ∧ (T.fps ts).Nodup ∧ T.plains ts ∧ ∀ a ∈ T.fps ts, H a = none) ∧ (∀ i ∈ z'.2.2, i ∈ z.2.2) ∧
          (∀ a ∈ T.fps ts, H a = none ∨ ∃ i ∈ z.2.2.filter (fun i => !tg.contains i) ++ (ux ++ uy), isVal env i ∧ a ∈ (τ i).fp) ∧ ts.length ≤ i,
        ⟨items.length, by simp, Nat.zero_le _, sD, [], z, upd_same, by unfold T.oks; trivial, by simp [T.fps], by rw [List.drop_zero]; exact ez, by simp [T.ds], fun h => ⟨h, by simp [T.fps], by simp [T.plains], by simp [T.fps]⟩, fun _ h => h, by simp [T.fps], Nat.zero_le _⟩, ?_⟩
      rintro i m H' ⟨rfl, hi, s1, ts, z', hD, kts, nDts, ezi, ezs, hdeep, hsub, hcov, hlen⟩
      have k1' := k1.same s1
      have k2' := k2.same s1
      by_cases hlt : i < items.length
      · refine .inr ⟨w.go i H' k1' k2' hlt, fun H'' => Same H1 H'' ∧ ∃ ts z', H'' D = some (.lst (ts.map (T.v C.G))) ∧ T.oks C.G H'' ts ∧ D ∉ T.fps ts ∧ lcL (lcF Pg tg c e env) (items.drop (i + 1)) = .ok z' ∧ z.1 = T.ds ts ++ z'.1 ∧
          (z.2.1 = true → z'.2.1 = true ∧ (T.fps ts).Nodup ∧ T.plains ts ∧ ∀ a ∈ T.fps ts, H a = none) ∧ (∀ i ∈ z'.2.2, i ∈ z.2.2) ∧
          (∀ a ∈ T.fps ts, H a = none ∨ ∃ i ∈ z.2.2.filter (fun i => !tg.contains i) ++ (ux ++ uy), isVal env i ∧ a ∈ (τ i).fp) ∧ ts.length ≤ i + 1,
          fun H'' nx => ⟨items.length - (i + 1), by omega, rfl, by omega, nx⟩, fun x H2 hy => ?_⟩
        obtain ⟨s2, t, rfl, kt, edt, ct⟩ := w.yld i H' x H2 k1' k2' hlt hy
        have edr : items.drop i = t.d :: items.drop (i + 1) := by
          rw [List.drop_eq_getElem_cons hlt]
          rw [List.getElem?_eq_getElem hlt] at edt
          rw [Option.some.inj edt]
        rw [edr] at ezi
        unfold lcL at ezi
        obtain ⟨r, hr, ezi⟩ := R.b_ok ezi
        obtain ⟨z2, hz2, ezi⟩ := R.b_ok ezi
        obtain ⟨env2, hb, oc, uc, hc⟩ := lcF_ok hr
        have sH2 : Same H H2 := (s.trans s1).trans s2
        have ct' : ∀ a ∈ t.fp, H a = none ∨ ∃ i ∈ ux ++ uy, isVal env i ∧ a ∈ (τ i).fp := fun a ha => by
          rcases ct a ha with h | h | h
          · exact .inl ((s.trans s1).free h)
          · exact (g1.cov a h).imp id fun ⟨i, hi, q⟩ => ⟨i, List.mem_append_left _ hi, q⟩
          · exact (g2.cov a h).imp id fun ⟨i, hi, q⟩ => ⟨i, List.mem_append_right _ hi, q⟩
        have Dt : D ∉ t.fp := fun h => by
          rcases ct D h with q | q | q
          · rw [hD] at q; cases q
          · obtain ⟨o, z⟩ := k1.trk q
            rw [nD] at z; cases z
          · obtain ⟨o, z⟩ := k2.trk q
            rw [nD] at z; cases z
        have covt : ∀ a ∈ t.fp, C.F a = none ∨ a ∈ C.A₀ := fun a ha => by
          rcases ct' a ha with h | ⟨i, _, v, h⟩
          · exact .inl (E.old.free h)
          · exact E.cov i v a h
        refine bind_ok (E.shAll.same sH2) kt covt sep_sh hb (wipe_length _ _) (fun j s hj _ => wipe_get hj) hn fun τ2 σ2 E2 hl2 hσ2 hv2 hw2 => ⟨?_, ?_⟩
        · rw [wipe_eq (σ := wipe σ tg) hl2 hσ2]
          exact wipe_eq (wipe_length _ _) fun j hj => wipe_get hj
        · refine ht σ2 H2 _ ⟨env2, τ2, E2, ?_⟩
          rcases hc with ⟨hcf, rfl⟩ | ⟨hct, ⟨d, o, u⟩, hev, rfl⟩
          · rw [hcf]
            intro H3 s3
            rw [if_neg (by simp)]
            have ezz : z2 = z' := by injection ezi
            rw [← ezz] at ezs hdeep hsub
            have s13 := s1.trans (s2.trans s3)
            exact ⟨s13, ts, z2, (s2.trans s3) D _ hD, oks_same kts (s2.trans s3), nDts, hz2, ezs, hdeep, hsub, hcov, by omega⟩
          · rw [hct]
            intro H3 s3
            rw [if_pos rfl]
            refine he σ2 H3 _ ⟨env2, τ2, E2.same s3, ?_⟩
            rw [hev]
            intro H4 t4 s4 k4 ed4 g4
            dsimp only at ed4 g4
            subst ed4
            injection ezi with ezi
            subst ezi
            have s34 := (s2.trans s3).trans s4
            have hD4 : H4 D = some (.lst (ts.map (T.v C.G))) := s34 D _ hD
            have c4 : ∀ a ∈ t4.fp, H3 a = none ∨ ∃ i ∈ u, (i ∉ tg ∧ isVal env i ∧ a ∈ (τ i).fp) ∨ a ∈ t.fp := fun a ha => by
              rcases g4.cov a ha with h | ⟨i, hi, v, h⟩
              · exact .inl h
              · refine .inr ⟨i, hi, ?_⟩
                rcases hv2 i v with ⟨x1, x2, x3⟩ | ⟨x1, x2⟩
                · exact .inl ⟨x1, shAll_isVal.mp x2, by rw [← x3]; exact h⟩
                · exact .inr (x2 a h)
            have D4 : D ∉ t4.fp := fun h => by
              rcases c4 D h with q | ⟨i, _, ⟨_, v, q⟩ | q⟩
              · have := (s2.trans s3) D _ hD
                rw [q] at this; cases this
              · obtain ⟨o, z⟩ := (E.ok v).trk q
                rw [nD0] at z; cases z
              · exact Dt q
            refine ⟨_, hD4, ?_, ?_, ts ++ [t4], z2, ?_, ?_, ?_, hz2, ?_, fun hz => ?_, fun j hj => ?_, fun a ha => ?_, ?_⟩
            · rw [List.length_map]
              have : sizeLine = 16777216 := by decide
              unfold LIM at hlim
              omega
            · intro b o eb
              rw [upd_ne (ne_of_none eb nD)]
              exact (s1.trans s34) b o eb
            · rw [upd_same, List.map_append]; rfl
            · refine oks_iff.mpr fun y hy => ?_
              rcases List.mem_append.mp hy with hy | hy
              · refine (oks_iff.mp kts y hy).keep fun a ha o eo => ?_
                rw [upd_ne (fun z => nDts (by rw [← z]; exact mem_fps.mpr ⟨y, hy, ha⟩))]
                exact s34 a o eo
              · simp only [List.mem_singleton] at hy
                subst hy
                refine k4.keep fun a ha o eo => ?_
                rw [upd_ne (fun z => D4 (by rw [← z]; exact ha))]
                exact eo
            · rw [fps_append]
              simp only [T.fps, List.append_nil, List.mem_append, not_or]
              exact ⟨nDts, D4⟩
            · rw [ezs]; simp [ds_map]
            · obtain ⟨h1, h2, h3, h4⟩ := hdeep hz
              simp only [Bool.and_eq_true, decide_eq_true_eq, List.isEmpty_iff] at h1
              obtain ⟨⟨ho, hu⟩, hz2'⟩ := h1
              subst hu
              obtain ⟨n4, p4, _⟩ := g4.deep ho
              have new4 : ∀ a ∈ t4.fp, H3 a = none := fun a ha => (g4.cov a ha).elim id fun ⟨i, hi, _⟩ => by simp at hi
              refine ⟨hz2', ?_, plains_iff.mpr fun y hy => ?_, fun a ha => ?_⟩
              · rw [fps_append]
                simp only [T.fps, List.append_nil]
                refine List.nodup_append.mpr ⟨h2, n4, fun a ha b hb eab => ?_⟩
                subst eab
                obtain ⟨o, eo⟩ := T.oks.trk kts ha
                have := (s2.trans s3) a o eo
                rw [new4 a hb] at this; cases this
              · rcases List.mem_append.mp hy with hy | hy
                · exact plains_iff.mp h3 y hy
                · simp only [List.mem_singleton] at hy; subst hy; exact p4
              · rw [fps_append] at ha
                simp only [T.fps, List.append_nil, List.mem_append] at ha
                rcases ha with ha | ha
                · exact h4 a ha
                · exact (sH2.trans s3).free (new4 a ha)
            · exact hsub j (by simp only [List.mem_append]; exact .inr hj)
            · rw [fps_append] at ha
              simp only [T.fps, List.append_nil, List.mem_append] at ha
              rcases ha with ha | ha
              · exact hcov a ha
              · rcases c4 a ha with h | ⟨i, hi, ⟨x1, x2, x3⟩ | h⟩
                · exact .inl ((sH2.trans s3).free h)
                · refine .inr ⟨i, List.mem_append_left _ (List.mem_filter.mpr ⟨hsub i (by simp only [List.mem_append]; exact .inl hi), by simpa using x1⟩), x2, x3⟩
                · exact (ct' a h).imp id fun ⟨i, hi, q⟩ => ⟨i, List.mem_append_right _ hi, q⟩
            · rw [List.length_append, List.length_singleton]; omega
      · have hi' : i = items.length := by omega
        subst hi'
        refine .inl ⟨w.stop _ H' k1' k2' (Nat.le_refl _), ?_⟩
        rw [List.drop_length] at ezi
        cases ezi
        have kD : (T.node (.lst none) D ts).ok C.G H' := by unfold T.ok; exact ⟨hD, kts⟩
        have ezs' : z.1 = T.ds ts := by rw [ezs]; simp
        by_cases hz : z.2.1 = true
        · rw [if_pos hz] at q
          obtain ⟨_, h2, h3, h4⟩ := hdeep hz
          refine q H' (.node (.lst none) D ts) (s.trans s1) kD (by simp [T.d, TK.dk, ezs']) ⟨fun a ha => .inl ?_, fun _ => ⟨?_, ?_, by simp⟩, fun z => by cases z⟩
          · simp only [T.fp, List.mem_cons] at ha
            rcases ha with rfl | ha
            · exact nD0
            · exact h4 a ha
          · simp only [T.fp]; exact List.nodup_cons.mpr ⟨nDts, h2⟩
          · unfold T.plain; exact ⟨trivial, h3⟩
        · rw [if_neg hz] at q
          have gs : Tgs env τ H ts .sh (z.2.2.filter (fun i => !tg.contains i) ++ (ux ++ uy)) := ⟨hcov, fun z => by cases z⟩
          obtain ⟨g3, e3⟩ := Tg.nw (k := .lst none) (by simp) nDts nD0 gs z.1 ezs'.symm
          exact q H' (.node (.lst none) D ts) (s.trans s1) kD e3 g3
end
end FR

namespace FR
open PySem PySem.Spec PyProof.Rows L2
theorem fm_congr {α β : Type} {f g : α → Option β} : ∀ {l : List α}, (∀ x ∈ l, f x = g x) → l.filterMap f = l.filterMap g
  | [], _ => rfl
  | x :: l, h => by
    rw [List.filterMap_cons, List.filterMap_cons, h x (by simp), fm_congr fun y hy => h y (by simp [hy])]
/-! ### every other item, from a place on -/
theorem evens_range {α : Type} : ∀ l : List α, (List.range ((l.length + 1) / 2)).filterMap (fun k => l[2 * k]?) = evens l
  | [] => by simp [evens]
  | [x] => by simp [evens]
  | x :: y :: r => by
    have e : ((x :: y :: r).length + 1) / 2 = (r.length + 1) / 2 + 1 := by simp only [List.length_cons]; omega
    rw [e, List.range_succ_eq_map, List.filterMap_cons]
    simp only [Nat.mul_zero, List.getElem?_cons_zero, List.filterMap_map, evens]
    congr 1
    rw [← evens_range r]
    apply fm_congr
    intro k _
    show (x :: y :: r)[2 * (k + 1)]? = r[2 * k]?
    rw [show 2 * (k + 1) = 2 * k + 1 + 1 by omega, List.getElem?_cons_succ, List.getElem?_cons_succ]
theorem pick2 (its : List Value) (i : Int) (h : 0 ≤ i) : slicePick its.toArray (some i) none (some 2) = (evens (its.drop i.toNat)).toArray := by
  unfold slicePick
  have hb : sliceBounds (some i) none (some 2) its.toArray.size = (((min i.toNat its.length : Nat) : Int), (its.length : Int), 2) := by
    unfold sliceBounds
    have h1 : ¬ i < 0 := by omega
    simp [h1]
    omega
  rw [hb]
  show ((sliceRange ((min i.toNat its.length : Nat) : Int) (its.length : Int) 2).filterMap (its.toArray[·]?)).toArray = _
  congr 1
  have hr : sliceRange ((min i.toNat its.length : Nat) : Int) (its.length : Int) 2 = (List.range (((its.drop i.toNat).length + 1) / 2)).map fun k => min i.toNat its.length + 2 * k := by
    unfold sliceRange
    have e2 : ((if (2 : Int) > 0 then (if ((min i.toNat its.length : Nat) : Int) < (its.length : Int) then ((its.length : Int) - ((min i.toNat its.length : Nat) : Int) + 2 - 1) / 2 else 0) else (if ((min i.toNat its.length : Nat) : Int) > (its.length : Int) then (((min i.toNat its.length : Nat) : Int) - (its.length : Int) - 2 - 1) / (-2) else 0)) : Int).toNat = ((its.drop i.toNat).length + 1) / 2 := by
      rw [if_pos (by decide), List.length_drop]
      split <;> omega
    simp only [e2]
    apply List.map_congr_left
    intro k _
    omega
  rw [hr, List.filterMap_map, ← evens_range (its.drop i.toNat)]
  apply fm_congr
  intro k hk
  have hk : k < ((its.drop i.toNat).length + 1) / 2 := by simpa using hk
  rw [List.length_drop] at hk
  show its.toArray[min i.toNat its.length + 2 * k]? = (its.drop i.toNat)[2 * k]?
  rw [List.getElem?_drop, List.getElem?_toArray, Nat.min_eq_left (by omega)]
theorem evens_map {α β : Type} (f : α → β) : ∀ l : List α, evens (l.map f) = (evens l).map f
  | [] => rfl
  | [x] => rfl
  | x :: y :: r => by
    show f x :: evens (r.map f) = f x :: (evens r).map f
    rw [evens_map f r]
theorem evens_sub {α : Type} : ∀ l : List α, (evens l).Sublist l
  | [] => List.Sublist.refl _
  | [x] => List.Sublist.refl _
  | x :: y :: r => by
    show (x :: evens r).Sublist (x :: y :: r)
    exact ((evens_sub r).cons y).cons₂ x
theorem vals_evens : ∀ {xs : List V} {its : List Value}, Vals xs its → Vals (evens xs) (evens its)
  | _, _, .nil => .nil
  | _, _, .cons r .nil => .cons r .nil
  | _, _, .cons r (.cons _ t) => .cons r (vals_evens t)
def tSt2 (K : PySem.W.Frag) (te : TE) (tl : TO) : TE := fun σ H Q => te σ H fun x H1 => tl σ H1 fun l H2 => ∃ a xs i, x = .ref a ∧ l = some i ∧ 0 ≤ i ∧ SqL K H2 a xs ∧ ∀ p, H2 p = none → Q (.ref p) (upd H2 p (.lst (evens (xs.drop i.toNat))))
section
variable {X : Cx}
theorem pe_st2L {e : Expr} {lo : Option Expr} {te : TE} {tl : TO} {k : Nat} {p1 p3 pos : Pos} (he : PE X e te) (hl : PO X lo tl) : PE X (.Subscript e (.Slice lo none (some (.Constant (.int 2) k p1)) p3) pos) (tSt2 X.K te tl) := by
  refine ⟨fun pins s σ H Q I h => ?_⟩
  refine Subscript_ (thn (he.run pins s σ H _ I h) fun v s1 ⟨x, H1, I1, r1, q1⟩ => ?_)
  have hst : PO X (some (.Constant (.int 2) k p1)) (tPart (tC (.int 2))) := po_some pe_int
  refine wpAny_Slice (thn (hl.run pins s1 σ H1 _ I1 q1) fun vl s2 ⟨l, H2, I2, pl, q2⟩ => ?_)
  refine thn (po_none.run pins s2 σ H2 (fun o H3 => o = none ∧ H3 = H2) I2 ⟨rfl, rfl⟩) fun vu s3 ⟨u, H3, I3, pu, eu, e3⟩ => ?_
  subst eu e3
  refine thn (hst.run pins s3 σ H3 (fun o H4 => o = some 2 ∧ H4 = H3) I3 ⟨2, rfl, rfl, rfl⟩) fun vs s4 ⟨o, H4, I4, ps, eo, e4⟩ => ?_
  subst eo e4
  obtain ⟨a, xs, i, ex, el, hi, hx, q⟩ := q2
  subst ex el
  cases r1
  have I5 : Inv X pins σ H4 { s4 with heap := s4.heap.push { cls := .type "slice", data := .fields #[vl, vu, vs] } } := I4.kept (t' := s4.toks) fun b ob q => Heap.get?_push_of_some _ q
  obtain ⟨its, r, ht, hz⟩ := I5.list hx
  have hlen := r.length
  show wpAny (model X.prog X.w) X.A (subscriptTail e (.Slice lo none (some (.Constant (.int 2) k p1)) p3) (.ref a) (.ref s4.heap.objs.size)) (EP X pins σ Q) X.xe { s4 with heap := s4.heap.push { cls := .type "slice", data := .fields #[vl, vu, vs] } }
  refine tail_any (ops := [.ref a, .ref s4.heap.objs.size]) ht.isList.typeIs (PySem.slot_list_getitem.lookup) ?_ (by with_unfolding_all rfl)
  refine wpAny_getItem_list_slice ht.isList (Heap.IsSliceOf.new _ vl vu vs) pl pu ps (by decide) ?_ (by rw [List.size_toArray]; omega)
  rw [pick2 its i hi]
  refine ⟨.ref _, _, I5.laid (t' := s4.toks) (o := .lst (evens (xs.drop i.toNat))) (fun b ob q => Heap.get?_push_of_some _ q) (Nat.le_refl _) ?_, rfl, q _ (I5.hok.fresh (Nat.le_refl _))⟩
  exact ⟨Nat.le_trans (evens_sub _).length_le (by rw [List.length_drop]; omega), _, 0, vals_evens (r.drop i.toNat), Heap.get?_push_size _ rfl⟩
variable {C : CE₀} {b : Tb} {Pg : Prog} {L : Nat} {sc : Scope}
theorem pe_st2 {x lo : CE} {l a : Expr} {k : Nat} {p1 p3 pos : Pos} (g : GoodE X b C.G Pg L C.W sc) (hn : lo.isNil = false) (hx : PE X l (tE C (evE Pg x))) (ha : PE X a (tE C (evE Pg lo))) :
    PE X (.Subscript l (.Slice (some a) none (some (.Constant (.int 2) k p1)) p3) pos) (tE C (evE Pg (.st2 x lo))) := by
  refine PE.weak (pe_st2L hx (po_some ha)) fun σ H Q q => ?_
  obtain ⟨env, τ, E, q⟩ := q
  rw [evE] at q
  refine ⟨env, τ, E, ?_⟩
  cases e1 : evE Pg x env with
  | no => rw [e1] at q; exact q
  | ex c => rw [e1] at q; exact q
  | ok rx =>
    rw [e1, b_ok] at q
    intro H1 t s1 k1 ed1 g1
    obtain ⟨dx, o, u⟩ := rx
    dsimp only at ed1 g1 q
    subst ed1
    refine ⟨env, τ, E.same s1, ?_⟩
    cases e2 : evE Pg lo env with
    | no => rw [e2] at q; exact q
    | ex c => rw [e2] at q; exact fun H' s' => q H' (s1.trans s')
    | ok rl =>
      rw [e2, b_ok] at q
      intro H2 t2 s2 k2 ed2 g2
      obtain ⟨dl, o2, u2⟩ := rl
      dsimp only at ed2 q
      subst ed2
      split at q
      · rename_i xs i e4 e5
        split at q
        · rename_i hi
          have hi := of_decide_eq_true hi
          obtain ⟨tk, ad, ts, rfl, d1, d2, d3, d4⟩ := (k1.same s2).node e4
          subst d2
          have sub : (evens (ts.drop i.toNat)).Sublist ts := (evens_sub _).trans (List.drop_sublist _ _)
          refine ⟨i, int_of k2 e5, ad, _, i, rfl, rfl, hi, by rw [g.K]; exact .inl (d3.list d1), fun pa n => ?_⟩
          have e6 : evens ((T.ds ts).drop i.toNat) = T.ds (evens (ts.drop i.toNat)) := by
            rw [ds_map, ds_map, ← List.map_drop, evens_map]
          rw [e6] at q
          have gr : Tgs env τ H (evens (ts.drop i.toNat)) o u := g1.kids.sub (fps_sub sub) fun p => plains_sub sub p
          have := q.list (s1.trans s2) (oks_iff.mpr fun y hy => oks_iff.mp d4 y (sub.subset hy)) gr n
          rw [← List.map_drop, evens_map]
          exact this
        · exact q.elim
      · exact q.elim
theorem rng_v {G : Gs} (n : Nat) (lo : Int) : (rangeD lo n).map (lv G) = (List.range n).map fun i => V.int (lo + (i : Nat)) := by
  induction n generalizing lo with
  | zero => rfl
  | succ n ih =>
    rw [rangeD, List.map_cons, ih, List.range_succ_eq_map, List.map_cons, List.map_map]
    congr 1
    · show V.int lo = V.int (lo + ((0 : Nat) : Int))
      rw [Int.natCast_zero, Int.add_zero]
    · apply List.map_congr_left
      intro i _
      show V.int (lo + 1 + (i : Nat)) = V.int (lo + ((i + 1 : Nat) : Int))
      congr 1
      omega
theorem rng_flat (n : Nat) (lo : Int) : flatAll (rangeD lo n) = true := by
  induction n generalizing lo with
  | zero => rfl
  | succ n ih =>
    unfold flatAll at ih ⊢
    rw [rangeD, List.all_cons, ih]; rfl
theorem leafs {G : Gs} : ∀ ds : List D, (ds.map T.leaf).map (T.v G) = ds.map (lv G) ∧ T.ds (ds.map T.leaf) = ds ∧ T.fps (ds.map T.leaf) = [] ∧ T.plains (ds.map T.leaf)
  | [] => by simp [T.ds, T.fps, T.plains]
  | d :: ds => by
    obtain ⟨h1, h2, h3, h4⟩ := leafs (G := G) ds
    simp only [List.map_cons, T.ds, T.fps, T.plains, h1, h2, h3]
    simp [T.v, T.d, T.fp, T.plain, h4]
theorem pe_rngL {x : CE} {f f2 : Str} {a : Expr} {p q p2 q2 : Pos} (g : GoodE X b C.G Pg L C.W sc) (h1 : bltB b sc f "list" = true) (h2 : okSt (.Call (.Name f2 p2) [a] [] q2) = true) (h3 : bltB b sc f2 "range" = true) (h4 : okSt a = true) (hx : PE X a (tE C (evE Pg x))) :
    PE X (.Call (.Name f p) [.Call (.Name f2 p2) [a] [] q2] [] q) (tE C (evE Pg (.rngL x))) := by
  obtain ⟨rfl, gl, hm⟩ := bltB_ok g h1
  obtain ⟨rfl, gl2, hm2⟩ := bltB_ok g h3
  refine PE.weak (pe_listRg g.calm gl hm (prg_1 gl2 hm2 hx (okSt_ok h4)) (okSt_ok h2)) fun σ H Q q => ?_
  refine tE.then (g := fun env x => match x.1 with
    | .int n => if decide (n < 16777216) && decide (-16777216 < n) then .ok (.node .lst (rangeD 0 n.toNat), .deep, []) else .no
    | _ => .no) (k := fun v H1 Q => ∃ n, v = .int n ∧ RgOk 0 n ∧ ∀ q, H1 q = none → Q (.ref q) (upd H1 q (.lst (rgV 0 n)))) (q.ev fun env => by rw [evE] <;> rfl) fun env τ H1 t o u E s1 k1 g1 p => ?_
  dsimp only at p
  split at p
  · rename_i n e4
    split at p
    · rename_i hn
      simp only [Bool.and_eq_true, decide_eq_true_eq] at hn
      refine ⟨n, int_of k1 e4, ⟨by omega, by omega, by omega, by omega, by omega⟩, fun pa n0 => ?_⟩
      obtain ⟨l1, l2, l3, l4⟩ := leafs (G := C.G) (rangeD 0 n.toNat)
      have eq : (R.ok (D.node .lst (rangeD 0 n.toNat), Own.deep, []) : Rv) = .ok (newL .lst (T.ds ((rangeD 0 n.toNat).map T.leaf)) .deep []) := by
        rw [l2]
        unfold newL
        rw [rng_flat]; rfl
      rw [eq] at p
      have := p.list (H1 := H1) s1 (ts := (rangeD 0 n.toNat).map T.leaf) (oks_iff.mpr fun y hy => by
        obtain ⟨d, hd, rfl⟩ := List.mem_map.mp hy
        unfold T.ok
        exact List.all_eq_true.mp (rng_flat n.toNat 0) d hd) ⟨fun a ha => by rw [l3] at ha; simp at ha, fun _ => ⟨by rw [l3]; exact List.nodup_nil, l4, by simp⟩⟩ n0
      rw [l1, rng_v] at this
      unfold rgV
      rw [Int.sub_zero]
      exact this
    · exact p.elim
  · exact p.elim
end
end FR

namespace FR
open PySem PySem.Spec L2
/-! ### own classes: made, their fields read, their methods called, asked what they are -/
section
variable {C : CE₀} {X : Cx} {b : Tb} {Pg : Prog} {L : Nat} {sc : Scope}
theorem nx_of {α : Type} {x : R α} : x.nx = .no ∨ ∃ a, x = .ok a ∧ x.nx = .ok a := by
  cases x with
  | no => exact .inl rfl
  | ex c => exact .inl rfl
  | ok a => exact .inr ⟨a, rfl, rfl⟩
theorem pe_new {c : Nat} {es : List CE} {x : Str} {l : List Expr} {p1 pos : Pos} (g : GoodE X b C.G Pg L C.W sc) (hk : b.cn[c]? = some x) (hc : b.ci.contains c = true) (hx : glB sc x = true) (hn : okN x = true) (hl : l.isEmpty = false) (hs : l.all okSt = true) (ha : PA X l (tA C (evEs Pg es))) : PE X (.Call (.Name x p1) l [] pos) (tE C (evE Pg (.new c es))) := by
  have key : ∀ {σ : L2.St} {H : Hp} {Q : VK}, tE C (evE Pg (.new c es)) σ H Q → ∃ env τ, EO C.G C.F C.A₀ env τ σ H ∧ ∃ r, evEs Pg es env = .ok r ∧ ∃ ds, Pg.ini c r.1 = .ok ds ∧ post C.G C.W env τ σ H Q (.ok (.node (.ins c) ds, .deep, [])) := by
    rintro σ H Q ⟨env, τ, E, q⟩
    rw [evE] at q
    refine ⟨env, τ, E, ?_⟩
    rcases nx_of (x := evEs Pg es env) with e | ⟨r, e, e2⟩
    · rw [e] at q; exact q.elim
    · rw [e2, b_ok] at q
      refine ⟨r, e, ?_⟩
      rcases nx_of (x := Pg.ini c r.1) with e3 | ⟨ds, e3, e4⟩
      · rw [e3] at q; exact q.elim
      · rw [e4, b_ok] at q
        exact ⟨ds, e3, q⟩
  cases l with
  | nil => cases hl
  | cons e l =>
    simp only [List.all_cons, Bool.and_eq_true] at hs
    obtain ⟨hm, hno | ⟨f, fd, ps, k, M, hb, F, hkl⟩⟩ := g.st.mkc c x hk hc
    · refine ⟨fun pins s σ H Q I q => ?_⟩
      obtain ⟨_, _, _, r, _, ds, h, _⟩ := key q
      rw [hno] at h; cases h
    · refine PE.weak (pe_make (E := fun _ _ _ => False) M F (g.room.mono hkl) (glB_ok g hx) hm hb .nil (fun pins σ H s e' s' I ⟨_, _, _, _, _, _, _, _, _, _, _, _, z⟩ => z.elim) ha (okN_ok hn).1 (okSt_ok hs.1) (back_no hs.2)) fun σ H Q q => ?_
      obtain ⟨env, τ, E, r, e1, ds, e2, p⟩ := key q
      refine ⟨env, τ, E, ?_⟩
      rw [e1]
      intro H1 ts s kk ed gg y dx ny ndx ne
      rw [List.append_nil]
      have n2 : ∀ a, upd (upd H1 dx (.own y)) y (.ins (C.G.cls c) dx []) a = none → H1 a = none := fun a h => by
        by_cases h1 : a = y
        · subst h1; exact ny
        · rw [upd_ne h1] at h
          by_cases h2 : a = dx
          · subst h2; exact ndx
          · rwa [upd_ne h2] at h
      have s2 : Same H1 (upd (upd H1 dx (.own y)) y (.ins (C.G.cls c) dx [])) := fun a o e => by
        rw [upd_ne (ne_of_none e ny), upd_ne (ne_of_none e ndx)]; exact e
      refine ⟨y, dx, ts, rfl, upd_same, oks_same kk s2, oks_new kk ny, ?_⟩
      rw [ed, e2]
      intro xs H' keep kn ex nd pl fr
      refine ⟨rfl, ?_⟩
      have s3 : Same H1 H' := fun a o e => keep a o (ne_of_none e ny) (s2 a o e)
      have gt : Tg env τ H (.node (.ins c dx) y xs) .deep [] := ⟨fun a ha => by
        simp only [T.fp, List.mem_cons] at ha
        rcases ha with rfl | ha
        · exact .inl (s.free ny)
        · exact .inl (s.free (n2 a (fr a ha))), fun _ => ⟨nd, pl, by simp⟩, fun z => Own.noConfusion z⟩
      exact p H' (.node (.ins c dx) y xs) (s.trans s3) kn (by simp [T.d, TK.dk, ex]) gt
/-- a field of an own instance -/
theorem fldK_at {c f k : Nat} (h : fldK c f = some k) : (fldT c)[k]? = some f ∧ (fldsT c)[k]? = some (fldN f) := by
  unfold fldK at h
  obtain ⟨h1, h2, _⟩ := List.findIdx?_eq_some_iff_getElem.mp h
  have h3 : (fldT c)[k] = f := by simpa using h2
  have h4 : (fldT c)[k]? = some f := by rw [List.getElem?_eq_getElem h1, h3]
  refine ⟨h4, ?_⟩
  unfold fldsT
  rw [List.getElem?_map, h4]; rfl
theorem fldsT_nd (c : Nat) : (fldsT c).Nodup := by
  unfold fldsT fldT
  split <;> decide +kernel
theorem fldsT_sh (c : Nat) : ("shows" : Str) ∉ fldsT c := by
  unfold fldsT fldT
  split <;> decide +kernel
theorem zip_look : ∀ {ns : List Str} {vs : List V} {k : Nat} {n : Str} {v : V}, ns.Nodup → ns[k]? = some n → vs[k]? = some v → (ns.zip vs).lookup n = some v
  | [], _, _, _, _, _, h, _ => by simp at h
  | _ :: _, [], _, _, _, _, _, h => by simp at h
  | m :: ns, w :: vs, 0, n, v, _, h, h2 => by
    simp only [List.getElem?_cons_zero, Option.some.injEq] at h h2
    subst h h2
    rw [List.zip_cons_cons, List.lookup_cons]
    simp
  | m :: ns, w :: vs, k + 1, n, v, nd, h, h2 => by
    simp only [List.getElem?_cons_succ] at h h2
    obtain ⟨n1, n2⟩ := List.nodup_cons.mp nd
    have : (n == m) = false := by
      rw [beq_eq_false_iff_ne]
      intro z
      subst z
      exact n1 (List.mem_of_getElem? h)
    rw [List.zip_cons_cons, List.lookup_cons, this]
    exact zip_look n2 h h2
theorem zip_none {ns : List Str} {vs : List V} {n : Str} (h : n ∉ ns) : (ns.zip vs).lookup n = none := by
  induction ns generalizing vs with
  | nil => rfl
  | cons m ns ih =>
    cases vs with
    | nil => rfl
    | cons v vs =>
      simp only [List.mem_cons, not_or] at h
      rw [List.zip_cons_cons, List.lookup_cons, show (n == m) = false by rw [beq_eq_false_iff_ne]; exact h.1]
      exact ih h.2
theorem pe_attr {x : CE} {f : Nat} {l : Expr} {pos : Pos} (g : GoodE X b C.G Pg L C.W sc) (ha : attB l = true) (hx : PE X l (tE C (evE Pg x))) : PE X (.Attribute l (fldN f) pos) (tE C (evE Pg (.attr x f))) := by
  refine PE.weak (pe_fld hx (attB_ok ha)) fun σ H Q q => ?_
  refine tE.then (k := fun x H1 Q => ∃ a C' dx fs v, x = .ref a ∧ H1 a = some (.ins C' dx fs) ∧ Cls X.K C' ∧ NoAttr X.K C' (fldN f) ∧ fs.lookup (fldN f) = some v ∧ Q v H1) (g := fun env x => match x.1 with
    | .node (.ins c) xs => (R.of ((fldK c f).bind fun k => xs[k]?)).b fun d => .ok (fin d .sh x.2.2)
    | _ => .no) (q.ev fun env => by rw [evE] <;> rfl) fun env τ H1 t o u E s1 k1 g1 p => ?_
  dsimp only at p
  split at p
  · rename_i c ds e1
    obtain ⟨tk, a, ts, rfl, d1, d2, d3, d4⟩ := k1.node e1
    subst d2
    obtain ⟨dx, rfl, o1, o2, o3⟩ := d3.ins d1
    cases ek : fldK c f with
    | none => rw [ek] at p; exact p.elim
    | some k =>
      rw [ek, Option.bind_some, ds_get] at p
      cases et : ts[k]? with
      | none => rw [et] at p; exact p.elim
      | some t =>
        rw [et] at p
        obtain ⟨f1, f2⟩ := fldK_at ek
        have co := g.st.co c (by rw [← g.st.ci]; exact o3)
        refine ⟨a, _, dx, _, t.v C.G, rfl, o1, co.cl, co.na f (List.mem_of_getElem? f1), zip_look (fldsT_nd c) f2 (by rw [List.getElem?_map, et]; rfl), ?_⟩
        have kt := oks_iff.mp d4 t (List.mem_of_getElem? et)
        have gt : Tg env τ H t .sh u := .shared fun b hb => g1.cov b (by simp only [T.fp, List.mem_cons]; exact .inr (mem_fps.mpr ⟨t, List.mem_of_getElem? et, hb⟩))
        obtain ⟨g2, g3⟩ := Tg.fn kt gt
        exact p H1 t s1 kt g3 g2
  · exact p.elim
theorem meth_tree {l : Expr} {es : List Expr} {m : Str} {ap cp : Pos} {env : PySem.Env} (ha : attB l = true) (hl : ap.endLine = cp.line) (hn : es.length < 30) (hs : es.all okSt = true) : eval (.Call (.Attribute l m ap) es [] cp) env = (do
      let ov ← eval l env
      standAt ap.atName
      let (f, first) ← holding [ov] (getMethod ov m (do return (← importBound l env).getD true))
      callWith cp f first (backTo cp (starEach es env)) (backToKw cp (keywordEach [] env))) := by
  refine mcall_of (t := fun ov => do
      let (f, first) ← holding [ov] (getMethod ov m (do return (← importBound l env).getD true))
      callWith cp f first (backTo cp (starEach es env)) (backToKw cp (keywordEach [] env))) (attB_ok ha) fun ov => ?_
  have hf : methodCallForm (es.length + ([] : List Keyword).length) (backTo cp (starEach es env)) (backToKw cp (keywordEach [] env)) = true := by
    unfold methodCallForm
    have h1 := back_no (pos := cp) (env := env) hs
    have h2 : (backTo cp (starEach es env)).all (fun x => !x.1) = true := by
      rw [List.all_eq_true]
      intro x hx
      have := List.any_eq_false.mp h1 x hx
      simpa using this
    have h3 : backToKw cp (keywordEach [] env) = [] := rfl
    rw [h2, h3]
    simp [hn]
  unfold methodCall calleeOf methodCallPos
  rw [hf, hl]
  simp
theorem pe_mth {m : Nat} {x : CE} {es : List CE} {l : Expr} {l' : List Expr} {ap cp : Pos} (g : GoodE X b C.G Pg L C.W sc) (ha : attB l = true) (he : ap.endLine = cp.line) (hn : l'.length < 30) (hl : l'.isEmpty = false) (hs : l'.all okSt = true) (hx : PE X l (tE C (evE Pg x))) (hes : PA X l' (tA C (evEs Pg es))) :
    PE X (.Call (.Attribute l "shows" ap) l' [] cp) (tE C (evE Pg (.meth m x es))) := by
  cases l' with
  | nil => cases hl
  | cons e l' =>
    have ht := meth_tree (l := l) (es := e :: l') (m := "shows") (ap := ap) (cp := cp) (env := X.env) ha he hn hs
    simp only [List.all_cons, Bool.and_eq_true] at hs
    refine ⟨fun pins s σ H Q I ⟨env, τ, E, q⟩ => ?_⟩
    rw [evE] at q
    have q1 : tE C (evE Pg x) σ H fun v H1 => ∃ (c : Nat) (a dx : Addr) (fs : List (Str × V)), v = .ref a ∧ H1 a = some (.ins (C.G.cls c) dx fs) ∧ b.ci.contains c = true ∧ fs.lookup ("shows" : Str) = none ∧ tA C (evEs Pg es) σ H1 fun vs H2 => spOf C.G (Pg.fn (methT c)) (.ref a :: vs) H2 Q (WE C.W σ) := by
      refine ⟨env, τ, E, ?_⟩
      cases e1 : evE Pg x env with
      | no => rw [e1] at q; exact q
      | ex c => rw [e1] at q; exact q
      | ok r =>
        rw [e1, b_ok] at q
        obtain ⟨d, o, u⟩ := r
        intro H1 t s1 k1 ed g1
        dsimp only at ed g1
        subst ed
        dsimp only at q
        split at q
        · rename_i c ds e2
          split at q
          · obtain ⟨tk, a, ts, rfl, d1, d2, d3, d4⟩ := k1.node e2
            obtain ⟨dx, rfl, o1, o2, o3⟩ := d3.ins d1
            refine ⟨c, a, dx, _, rfl, o1, by rw [← g.st.ci]; exact o3, zip_none (fldsT_sh c), env, τ, E.same s1, ?_⟩
            cases e3 : evEs Pg es env with
            | no => rw [e3] at q; exact q
            | ex c => rw [e3] at q; exact fun H' z => q H' (s1.trans z)
            | ok r =>
              rw [e3, b_ok] at q
              intro H2 us s2 k2 ed2 g2
              obtain ⟨ds2, o', u'⟩ := r
              dsimp only at ed2 g2
              subst ed2
              have gg : Tgs env τ H (.node (.ins c dx) a ts :: us) .sh (u ++ u') := by
                have := Tgs.cons E g1 s1 k1 g2
                refine ⟨fun b hb => ?_, fun z => by cases z⟩
                have hc := this.cov b hb
                rwa [show (cmb o u o' u').2 = u ++ u' by unfold cmb; split <;> rfl] at hc
              exact call_post (ts := .node (.ins c dx) a ts :: us) (o := .sh) (u := u ++ u') (s1.trans s2) ⟨k1.same s2, k2⟩ gg q
          · exact q.elim
        · exact q.elim
    refine PySem.W.methodCall_KW (thn (hx.run pins s σ H _ I q1) fun u s1 ⟨v, H1, I1, rv, c, a, dx, fs, ev, ea, hc, l0, q2⟩ => ?_) ht
    subst ev
    obtain rfl : u = Value.ref a := rv
    obtain ⟨f, fd, ps, M, hb, F⟩ := g.st.mt c hc
    refine getmeth_ok I1 ea (g.st.co c hc).cl M l0 ?_
    refine PySem.W.callWith_K (first := [.ref a]) (h₀ := X.base) I.ok.mod.kin M.kp (thn (hes.run cp pins s1 σ H1 _ I1 q2) fun us s2 ⟨vs, H2, I2, r, q3⟩ => ⟨I2.kIn, ?_⟩) (okSt_ok hs.1) (back_no hs.2)
    exact L2.run_fnSD (us := .ref a :: us) (vs := .ref a :: vs) (dvs := []) (ds := []) (E := fun σ => WE C.W σ) F g.room hb .nil (passAt g.tk σ) I2 (.cons rfl r) (by rw [List.append_nil]; exact q3)
/-- isinstance(e, an own class) -/
theorem pe_isc {xe : CE} {c : Nat} {x y : Str} {e : Expr} {p1 p2 pos : Pos} (g : GoodE X b C.G Pg L C.W sc) (hy : bltB b sc x "isinstance" = true) (hk : b.cn[c]? = some y) (hc : b.ki.contains c = true) (hg : glB sc y = true) (hn : okN y = true) (hs : okSt e = true) (hx : PE X e (tE C (evE Pg xe))) :
    PE X (.Call (.Name x p1) [e, .Name y p2] [] pos) (tE C (evE Pg (.isin xe (.cls c)))) := by
  obtain ⟨rfl, h2, h3⟩ := bltB_ok g hy
  obtain ⟨hm, hi, ht⟩ := g.st.isi c y hk hc
  have py : PE X (.Name y p2) (tC (.ref (C.G.cls c))) := pe_glob (glB_ok g hg) hm rfl (okN_ok hn).1
  refine PE.weak (pe_callB call_isi h2 h3 PyProof.Rows.boot_isinstance (pa_cons hx (pa_cons py pa_nil (by rfl)) (okSt_ok hs)) (by decide) (by decide) (okSt_ok hs) (by rfl)) fun σ H Q q => ?_
  refine tE.then (g := fun _ x => (isinD Pg x.1 (.cls c)).b fun r => .ok (.bl r, .deep, [])) (k := fun x H1 Q => rIsi X.K [x, .ref (C.G.cls c)] H1 Q) (q.ev fun env => by rw [evE]) fun env τ H1 t' o u E s k gt p => ?_
  dsimp only at p
  unfold isinD at p
  dsimp only [tyN] at p
  split at p
  · rename_i c' ds e1
    obtain ⟨tk, a, ts, rfl, d1, d2, d3, d4⟩ := k.node e1
    obtain ⟨dx, rfl, o1, o2, o3⟩ := d3.ins d1
    have hc' : b.ci.contains c' = true := by rw [← g.st.ci]; exact o3
    have co := g.st.co c' hc'
    exact ⟨_, _, _, _, _, rfl, .own _, .base (.ins o1 co.cl co.ha co.hn co.ht co.hm), hi c' hc', p.bl s⟩
  · exact p.elim
  · rename_i hni hnf
    obtain ⟨m, hm'⟩ : ∃ m, tyD t'.d = some m := by
      cases q : t'.d with
      | fn k => exact absurd q (hnf k)
      | node dk xs =>
        cases dk with
        | ins c' => exact absurd q (hni c' xs)
        | lst => exact ⟨_, rfl⟩
        | tup => exact ⟨_, rfl⟩
      | _ => exact ⟨_, rfl⟩
    obtain ⟨ty, hmm⟩ := tyD_ok k hm'
    exact ⟨_, _, _, _, _, rfl, .own _, by rw [g.K]; exact ty, ht m hmm, p.bl s⟩
end
end FR

namespace FR
open PySem PySem.Spec L2
section
variable {C : CE₀} {X : Cx} {b : Tb} {Pg : Prog} {L : Nat} {sc : Scope}
theorem blk_good {W : WX} (g : GoodE X b C.G Pg L W sc) (s : Shared) (H : Hp) (scope : Scope) (cl : List (Str × Addr)) (Cc : Addr) (fp : List Addr) : GoodE (X.blk s H scope (PySem.compEnvC scope cl Cc X.env) fp) b C.G Pg L (fun _ _ _ _ => False) (relS scope sc) := by
  refine ⟨g.N, g.nd, g.K, g.calm, ?_, g.room, takes0, g.st⟩
  have := g.scope
  subst this
  rfl
theorem tg_ne {tg : List Nat} {t : Expr} {fn : Str → Bool} (h : tgB b sc fn tg t = true) : ∀ i j, tg = [i, j] → i ≠ j := by
  intro i j e
  subst e
  unfold tgB at h
  split at h
  · rename_i e; cases e
  · rename_i e
    simp only [List.cons.injEq, and_true] at e
    obtain ⟨rfl, rfl⟩ := e
    simp only [Bool.and_eq_true, decide_eq_true_eq] at h
    exact h.2
  · cases h
theorem tg_tuple {tg : List Nat} {t : Expr} {fn : Str → Bool} (h : tgB b sc fn tg t = true) (hn : noTuple tg = false) : ∃ es k pos, t = .Tuple es k pos := by
  unfold tgB at h
  split at h
  · cases hn
  · exact ⟨_, _, _, rfl⟩
  · cases h
theorem PTs.weak {ifs : List Expr} {t t' : TT} (h : PTs X ifs t) (w : ∀ σ H Q, t' σ H Q → t σ H Q) : PTs X ifs t' := ⟨fun pins s σ H Q I q => h.run pins s σ H Q I (w σ H Q q)⟩
theorem own_snd {tg : List Nat} : (ownOf b tg).map (·.2) = tg := by
  unfold ownOf
  rw [List.map_map]
  exact List.map_id tg
/-- what a comprehension of the text comes to, by its parts -/
structure CompOk (C : CE₀) (X : Cx) (b : Tb) (Pg : Prog) (sc : Scope) (ik : IK) (x y c e : CE) (tg : List Nat) (t it : Expr) (ifs : List Expr) (elt : Expr) (scope : Scope) : Prop where
  walk : PI X t it (tI C ik (evE Pg x) (evE Pg y))
  blk : BlkOk X.N X.env.scope scope (ownOf b tg)
  tg : tgB b (relS scope sc) (fun x => scope.names.lookup x == some .cell) tg t = true
  cond : ∀ (s : Shared) (H : Hp) (Cc : Addr) (cl : List (Str × Addr)) (fp : List Addr), PTs (X.blk s H scope (PySem.compEnvC scope cl Cc X.env) fp) ifs (tT C.quiet (evE Pg c))
  elt : ∀ (s : Shared) (H : Hp) (Cc : Addr) (cl : List (Str × Addr)) (fp : List Addr), PE (X.blk s H scope (PySem.compEnvC scope cl Cc X.env) fp) elt (tE C.quiet (evE Pg e))
  notSet : ∀ x, foldedSetIterable it X.env x = pure x
theorem pe_comp {ik : IK} {x y c e : CE} {tg : List Nat} {t it elt : Expr} {ifs : List Expr} {scope : Scope} {pos : Pos} (g : GoodE X b C.G Pg L C.W sc) (h : CompOk C X b Pg sc ik x y c e tg t it ifs elt scope) :
    PE X (.ListComp elt [⟨t, it, ifs, 0⟩] scope pos) (tE C (evE Pg (.lc e tg ik x y c))) := by
  have p := pe_lc (elt := elt) (pos := pos) (g := gT X.K tg) g.calm g.nd h.walk h.blk (fun s H Cc cl fp => pg_of (blk_good g s H scope cl Cc fp) (fun _ z => z) h.tg) h.cond h.elt h.notSet
  refine PE.weak p fun σ H Q q => ?_
  rw [own_snd]
  exact comp_read (X := X) (tg_ne h.tg) (fun _ _ _ z => z) (fun _ _ _ z => z) q
theorem notSet_of {e : Expr} (h : plainSet e = true) {env : PySem.Env} : ∀ x, foldedSetIterable e env x = pure x := by
  intro x
  cases e <;> first | rfl | cases h
theorem rest_of {op : BoolOp} {y : Expr} {r : List Expr} {p : Pos} {f : En → Rv} (h : All3 C X (boolRest op y r p) f) : Rest C X op (y :: r) p f := by
  cases r with
  | nil => exact .one h
  | cons e r => exact .more h
mutual
theorem chkE_ok : ∀ (c : CE) (e : Expr) (sc : Scope) (X : Cx) (C : CE₀), GoodE X b C.G Pg L C.W sc → chkE b sc c e = true → All3 C X e (evE Pg c)
  | .v i, e, sc, X, C, g, h => by
    rw [chkE] at h; split at h <;> try cases h
    rename_i x hx
    obtain ⟨p, rfl⟩ := vName_of hx
    exact .of (pe_slot g h fun env τ σ H Q E q => slot_val E q) (by intro _; rfl) (by simp)
  | .mv i, e, sc, X, C, g, h => by
    rw [chkE] at h; split at h <;> try cases h
    rename_i x hx
    obtain ⟨p, rfl⟩ := vName_of hx
    exact .of (pe_slot g h fun env τ σ H Q E q => slot_mv E q) (by intro _; rfl) (by simp)
  | .k d, e, sc, X, C, g, h => by
    rw [chkE] at h; split at h <;> try cases h
    rename_i x hx
    obtain ⟨j, p, rfl⟩ := vConst_of hx
    exact .of (pe_k h) (by intro _; rfl) (by simp)
  | .gi k i, e, sc, X, C, g, h => by
    rw [chkE] at h; split at h <;> try cases h
    rename_i x hx
    obtain ⟨p, rfl⟩ := vName_of hx
    simp only [Bool.and_eq_true, decide_eq_true_eq] at h
    obtain ⟨t, ht⟩ := g.st.gi k x i h.1.1
    refine .of (PE.weak (pe_glob (v := .int i) (glB_ok g h.1.2) ht ⟨t, rfl⟩ (okN_ok h.2).1) fun σ H Q ⟨env, τ, E, q⟩ => ?_) (by intro _; rfl) (by simp)
    rw [evE] at q
    exact q.int (Same.refl H)
  | .fn k, e, sc, X, C, g, h => by
    rw [chkE] at h; split at h <;> try cases h
    rename_i x hx
    obtain ⟨p, rfl⟩ := vName_of hx
    simp only [Bool.and_eq_true, decide_eq_true_eq] at h
    obtain ⟨fd, ps, hm, _⟩ := g.st.fn k x h.1.1
    refine .of (PE.weak (pe_glob (v := .ref (C.G.fnA k)) (glB_ok g h.1.2) (hm (okN_ok h.2).2.2.2) rfl (okN_ok h.2).1) fun σ H Q ⟨env, τ, E, q⟩ => ?_) (by intro _; rfl) (by simp)
    rw [evE] at q
    exact q.leaf (Same.refl H) rfl
  | .bin op x y, e, sc, X, C, g, h => by
    rw [chkE] at h; split at h <;> try cases h
    rename_i l o r hx
    obtain ⟨p, rfl⟩ := vBin_of hx
    simp only [Bool.and_eq_true] at h
    exact .of (pe_bin h.1.1 (chkE_ok x _ sc X C g h.1.2).1 (chkE_ok y _ sc X C g h.2).1) (by intro _; rfl) (by simp)
  | .neg x, e, sc, X, C, g, h => by
    rw [chkE] at h; split at h <;> try cases h
    rename_i l hx
    obtain ⟨p, rfl⟩ := vUn_of hx
    exact .of (pe_neg (chkE_ok x _ sc X C g h).1) (by intro _; rfl) (by simp)
  | .cmp op x y, e, sc, X, C, g, h => by
    rw [chkE] at h; split at h <;> try cases h
    rename_i l o r hx
    obtain ⟨p, rfl⟩ := vCmp_of hx
    simp only [Bool.and_eq_true, Bool.not_eq_true'] at h
    exact all3_cmp g h.1.1.1 h.1.1.2 (chkE_ok x _ sc X C g h.1.2).1 (chkE_ok y _ sc X C g h.2).1
  | .ch o1 o2 x y z, e, sc, X, C, g, h => by
    rw [chkE] at h; split at h <;> try cases h
    rename_i l o r o' s hx
    obtain ⟨p, rfl⟩ := vCh_of hx
    simp only [Bool.and_eq_true, Bool.not_eq_true'] at h
    exact all3_ch g h.1.1.1.1.1.1 h.1.1.1.1.1.2 h.1.1.1.1.2 h.1.1.1.2 (chkE_ok x _ sc X C g h.1.1.2).1 (chkE_ok y _ sc X C g h.1.2).1 (chkE_ok z _ sc X C g h.2).1
  | .inC neg x k ns, e, sc, X, C, g, h => by
    rw [chkE] at h; split at h <;> try cases h
    rename_i l o r hx
    obtain ⟨p, rfl⟩ := vCmp_of hx
    split at h <;> try cases h
    rename_i y hy
    obtain ⟨p1, rfl⟩ := vName_of hy
    simp only [Bool.and_eq_true, decide_eq_true_eq] at h
    exact all3_inC g h.1.1.1.1 h.1.1.1.2 h.1.1.2 h.1.2 (chkE_ok x _ sc X C g h.2).1
  | .nt x, e, sc, X, C, g, h => by
    rw [chkE] at h; split at h <;> try cases h
    rename_i l hx
    obtain ⟨p, rfl⟩ := vUn_of hx
    exact all3_not (chkE_ok x _ sc X C g h)
  | .an x y, e, sc, X, C, g, h => by
    rw [chkE] at h; split at h <;> try cases h
    rename_i l l' r p hx
    have := vBool_of hx
    subst this
    simp only [Bool.and_eq_true] at h
    exact all3_an (chkE_ok x _ sc X C g h.1) (rest_of (chkE_ok y _ sc X C g h.2))
  | .or x y, e, sc, X, C, g, h => by
    rw [chkE] at h; split at h <;> try cases h
    rename_i l l' r p hx
    have := vBool_of hx
    subst this
    simp only [Bool.and_eq_true] at h
    exact all3_or (chkE_ok x _ sc X C g h.1) (rest_of (chkE_ok y _ sc X C g h.2))
  | .ife c x y, e, sc, X, C, g, h => by
    rw [chkE] at h; split at h <;> try cases h
    rename_i ec ex ey hx
    obtain ⟨p, rfl⟩ := vIf_of hx
    simp only [Bool.and_eq_true] at h
    exact .mk2 (pe_ife (chkE_ok c _ sc X C g h.1.1) (chkE_ok x _ sc X C g h.1.2).1 (chkE_ok y _ sc X C g h.2).1) (pt_ife (chkE_ok c _ sc X C g h.1.1) (chkE_ok x _ sc X C g h.1.2).2.1 (chkE_ok y _ sc X C g h.2).2.1) (by simp)
  | .lst es, e, sc, X, C, g, h => by
    rw [chkE] at h; split at h <;> try cases h
    rename_i l hx
    obtain ⟨p, rfl⟩ := vList_of hx
    simp only [Bool.and_eq_true, decide_eq_true_eq] at h
    exact .of (pe_list h.1 (chkEs_ok es l sc X C g h.2)) (by intro _; rfl) (by simp)
  | .tup es, e, sc, X, C, g, h => by
    rw [chkE] at h; split at h <;> try cases h
    rename_i l hx
    obtain ⟨k, p, rfl⟩ := vTup_of hx
    simp only [Bool.and_eq_true, decide_eq_true_eq] at h
    exact .of (pe_tupl h.1 (chkEs_ok es l sc X C g h.2)) (by intro _; rfl) (by simp)
  | .ix x y, e, sc, X, C, g, h => by
    rw [chkE] at h; split at h <;> try cases h
    rename_i l r hx
    obtain ⟨p, rfl⟩ := vSub_of hx
    simp only [Bool.and_eq_true] at h
    exact .of (pe_idx g h.1.1 (chkE_ok x _ sc X C g h.1.2).1 (chkE_ok y _ sc X C g h.2).1) (by intro _; rfl) (by simp)
  | .sl x lo hi, e, sc, X, C, g, h => by
    rw [chkE] at h; split at h <;> try cases h
    rename_i l a c hx
    obtain ⟨p, q, rfl⟩ := vSl_of hx
    simp only [Bool.and_eq_true] at h
    refine .of (pe_sl g (chkE_ok x _ sc X C g h.1.1).1 ?_ ?_) (by intro _; rfl) (by simp)
    · cases a with
      | none => exact po_nil h.1.2
      | some a =>
        have h2 := h.1.2
        simp only [Bool.and_eq_true, Bool.not_eq_true'] at h2
        exact po_e h2.1 (chkE_ok lo _ sc X C g h2.2).1
    · cases c with
      | none => exact po_nil h.2
      | some a =>
        have h2 := h.2
        simp only [Bool.and_eq_true, Bool.not_eq_true'] at h2
        exact po_e h2.1 (chkE_ok hi _ sc X C g h2.2).1
  | .nil, e, sc, X, C, g, h => by rw [chkE] at h; cases h
  | .rev x, e, sc, X, C, g, h => by
    rw [chkE] at h; split at h <;> try cases h
    rename_i l hx
    obtain ⟨j, p1, p2, p3, p4, rfl⟩ := vRev_of hx
    exact .of (pe_rev g (chkE_ok x _ sc X C g h).1) (by intro _; rfl) (by simp)
  | .st2 x lo, e, sc, X, C, g, h => by
    rw [chkE] at h; split at h <;> try cases h
    rename_i l a hx
    obtain ⟨j, p1, p3, p4, rfl⟩ := vSt2_of hx
    simp only [Bool.and_eq_true, Bool.not_eq_true'] at h
    exact .of (pe_st2 g h.1.1 (chkE_ok x _ sc X C g h.1.2).1 (chkE_ok lo _ sc X C g h.2).1) (by intro _; rfl) (by simp)
  | .call k es, e, sc, X, C, g, h => by
    rw [chkE] at h; split at h <;> try cases h
    rename_i x l hx
    obtain ⟨p, q, rfl⟩ := vCall_of hx
    simp only [Bool.and_eq_true, decide_eq_true_eq, Bool.not_eq_true'] at h
    exact .of (pe_fcall g h.1.1.1.1.1 h.1.1.1.1.2 h.1.1.1.2 h.1.1.2 h.1.2 (chkEs_ok es l sc X C g h.2)) (by intro _; rfl) (by simp)
  | .callv x es, e, sc, X, C, g, h => by
    rw [chkE] at h; split at h <;> try cases h
    rename_i f l hx
    obtain ⟨q, rfl⟩ := vCallE_of hx
    simp only [Bool.and_eq_true, Bool.not_eq_true'] at h
    exact .of (pe_callv g h.1.1.1.1 h.1.1.1.2 h.1.1.2 (chkE_ok x _ sc X C g h.1.2).1 (chkEs_ok es l sc X C g h.2)) (by
      intro _
      have := h.1.1.1.1
      cases f <;> first | rfl | cases this) (by simp)
  | .new c es, e, sc, X, C, g, h => by
    rw [chkE] at h; split at h <;> try cases h
    rename_i x l hx
    obtain ⟨p, q, rfl⟩ := vCall_of hx
    simp only [Bool.and_eq_true, decide_eq_true_eq, Bool.not_eq_true'] at h
    obtain ⟨⟨⟨⟨⟨⟨h1, h2⟩, h3⟩, h4⟩, h5⟩, h6⟩, h7⟩ := h
    exact .of (pe_new g h1 h2 h3 h4 h5 h6 (chkEs_ok es l sc X C g h7)) (by intro _; rfl) (by simp)
  | .attr x f, e, sc, X, C, g, h => by
    rw [chkE] at h; split at h <;> try cases h
    rename_i l a hx
    obtain ⟨p, rfl⟩ := vAttr_of hx
    simp only [Bool.and_eq_true, decide_eq_true_eq] at h
    obtain ⟨⟨rfl, h2⟩, h3⟩ := h
    exact .of (pe_attr g h2 (chkE_ok x _ sc X C g h3).1) (by intro _; rfl) (by simp)
  | .meth m x es, e, sc, X, C, g, h => by
    rw [chkE] at h; split at h <;> try cases h
    rename_i l a ap l' cp hx
    have := vMeth_of hx
    subst this
    simp only [Bool.and_eq_true, decide_eq_true_eq, Bool.not_eq_true'] at h
    obtain ⟨⟨⟨⟨⟨⟨⟨rfl, h2⟩, h7⟩, h8⟩, h3⟩, h4⟩, h5⟩, h6⟩ := h
    exact .of (pe_mth g h2 h7 h8 h3 h4 (chkE_ok x _ sc X C g h5).1 (chkEs_ok es l' sc X C g h6)) (by intro _; rfl) (by simp)
  | .len x, e, sc, X, C, g, h => by
    rw [chkE] at h; split at h <;> try cases h
    rename_i a hx
    obtain ⟨f, p, q, rfl, h1, h2⟩ := vB1_of hx
    exact .of (pe_B1 g (r_len g.K) PySem.boot_len h1 (by decide) (by decide) h2 (chkE_ok x _ sc X C g h).1 fun env => by rw [evE] <;> rfl) (by intro _; rfl) (by simp)
  | .list x, e, sc, X, C, g, h => by
    rw [chkE] at h; split at h <;> try cases h
    rename_i a hx
    obtain ⟨f, p, q, rfl, h1, h2⟩ := vB1_of hx
    exact .of (pe_T1 g (r_list g.K) PyProof.Rows.boot_list h1 (by decide) (by decide) h2 (chkE_ok x _ sc X C g h).1 fun env => by rw [evE] <;> rfl) (by intro _; rfl) (by simp)
  | .sum x, e, sc, X, C, g, h => by
    rw [chkE] at h; split at h <;> try cases h
    rename_i a hx
    obtain ⟨f, p, q, rfl, h1, h2⟩ := vB1_of hx
    exact .of (pe_B1 g (r_sum g.calm g.K) PyProof.Rows.boot_sum h1 (by decide) (by decide) h2 (chkE_ok x _ sc X C g h).1 fun env => by rw [evE] <;> rfl) (by intro _; rfl) (by simp)
  | .all x, e, sc, X, C, g, h => by
    rw [chkE] at h; split at h <;> try cases h
    rename_i a hx
    obtain ⟨f, p, q, rfl, h1, h2⟩ := vB1_of hx
    exact .of (pe_B1 g (r_all g.calm g.K) PyProof.Rows.boot_all h1 (by decide) (by decide) h2 (chkE_ok x _ sc X C g h).1 fun env => by rw [evE] <;> rfl) (by intro _; rfl) (by simp)
  | .any x, e, sc, X, C, g, h => by
    rw [chkE] at h; split at h <;> try cases h
    rename_i a hx
    obtain ⟨f, p, q, rfl, h1, h2⟩ := vB1_of hx
    exact .of (pe_B1 g (r_any g.calm g.K) PyProof.Rows.boot_any h1 (by decide) (by decide) h2 (chkE_ok x _ sc X C g h).1 fun env => by rw [evE] <;> rfl) (by intro _; rfl) (by simp)
  | .srt x, e, sc, X, C, g, h => by
    rw [chkE] at h; split at h <;> try cases h
    rename_i a hx
    obtain ⟨f, p, q, rfl, h1, h2⟩ := vB1_of hx
    exact .of (pe_B1 g (r_srt g.room g.K) PyProof.Rows.boot_sorted h1 (by decide) (by decide) h2 (chkE_ok x _ sc X C g h).1 fun env => by rw [evE] <;> rfl) (by intro _; rfl) (by simp)
  | .srtR x, e, sc, X, C, g, h => by
    rw [chkE] at h; split at h <;> try cases h
    rename_i a hx
    obtain ⟨f, p, j, p1, p2, q, rfl, h1, h2⟩ := vSrtR_of hx
    exact .of (pe_srtR g h1 h2 (chkE_ok x _ sc X C g h).1) (by intro _; rfl) (by simp)
  | .toInt x, e, sc, X, C, g, h => by
    rw [chkE] at h; split at h <;> try cases h
    rename_i a hx
    obtain ⟨f, p, q, rfl, h1, h2⟩ := vB1_of hx
    exact .of (pe_T1 g r_int PyProof.Rows.boot_int h1 (by decide) (by decide) h2 (chkE_ok x _ sc X C g h).1 fun env => by rw [evE] <;> rfl) (by intro _; rfl) (by simp)
  | .rngL x, e, sc, X, C, g, h => by
    rw [chkE] at h; split at h <;> try cases h
    rename_i r hr
    split at h <;> try cases h
    rename_i a ha
    obtain ⟨f, p, q, rfl, h1, h2⟩ := vB1_of hr
    obtain ⟨f2, p2, q2, rfl, h3, h4⟩ := vB1_of ha
    exact .of (pe_rngL g h1 h2 h3 h4 (chkE_ok x _ sc X C g h).1) (by intro _; rfl) (by simp)
  | .isin x t, e, sc, X, C, g, h => by
    rw [chkE] at h; split at h <;> try cases h
    rename_i a c hx
    split at h <;> try cases h
    rename_i y hy
    obtain ⟨f, p, q, rfl, h1, h2, h3⟩ := vB2_of hx
    obtain ⟨p2, rfl⟩ := vName_of hy
    simp only [Bool.and_eq_true] at h
    obtain ⟨h4, h5⟩ := h
    split at h4
    · rename_i k
      simp only [Bool.and_eq_true, decide_eq_true_eq] at h4
      exact .of (pe_isc g h1 h4.1.1.1 h4.1.1.2 h4.1.2 h4.2 h2 (chkE_ok x _ sc X C g h5).1) (by intro _; rfl) (by simp)
    · split at h4 <;> try cases h4
      rename_i n hn
      exact .of (pe_isin g h1 hn h4 h2 (chkE_ok x _ sc X C g h5).1) (by intro _; rfl) (by simp)
  | .index x y, e, sc, X, C, g, h => by
    rw [chkE] at h; split at h <;> try cases h
    rename_i l a ap es cp hx
    split at h <;> try cases h
    rename_i e' he
    have := vMeth_of hx
    subst this
    have := one_of he
    subst this
    simp only [Bool.and_eq_true, decide_eq_true_eq] at h
    obtain ⟨⟨⟨⟨⟨h1, h2⟩, h3⟩, h4⟩, h5⟩, h6⟩ := h
    subst h1
    exact .of (pe_index g h2 h3 h4 (chkE_ok x _ sc X C g h5).1 (chkE_ok y _ sc X C g h6).1) (by intro _; rfl) (by simp)
  | .lc e tg ik x y c, ex, sc, X, C, g, h => by
    rw [chkE] at h; split at h <;> try cases h
    rename_i elt t it ifs scope hx
    obtain ⟨p, rfl⟩ := vComp_of hx
    simp only [Bool.and_eq_true] at h
    obtain ⟨⟨⟨⟨⟨h1, h2⟩, h3⟩, h4⟩, h5⟩, h6⟩ := h
    refine .of (pe_comp g ⟨?_, ?_, h3, fun s H Cc cl fp => ?_, fun s H Cc cl fp => ?_, notSet_of h1⟩) (by intro _; rfl) (by simp)
    · cases ik with
      | lst =>
        simp only [Bool.and_eq_true] at h2
        exact pi_lst g h2.1 (chkE_ok x _ sc X C g h2.2).1
      | rng1 =>
        simp only [Bool.and_eq_true] at h2
        obtain ⟨h2, h7⟩ := h2
        split at h7 <;> try cases h7
        rename_i a ha
        obtain ⟨f, p, q, rfl, h8, h9⟩ := vB1_of ha
        exact pi_rng1 g h8 h2 h9 (chkE_ok x _ sc X C g h7).1
      | rng2 =>
        dsimp only at h2
        split at h2 <;> try cases h2
        rename_i a a' ha
        obtain ⟨f, p, q, rfl, h8, h9, h10⟩ := vB2_of ha
        simp only [Bool.and_eq_true] at h2
        exact pi_rng2 g h8 h9 h10 (chkE_ok x _ sc X C g h2.1).1 (chkE_ok y _ sc X C g h2.2).1
      | enm =>
        simp only [Bool.and_eq_true, Bool.not_eq_true'] at h2
        obtain ⟨⟨h0, h2⟩, h7⟩ := h2
        split at h7 <;> try cases h7
        rename_i a ha
        obtain ⟨f, p, q, rfl, h8, h9⟩ := vB1_of ha
        obtain ⟨es, k, pos, rfl⟩ := tg_tuple h3 h0
        exact pi_enm g h8 h2 h9 (chkE_ok x _ sc X C g h7).1
      | zip =>
        simp only [Bool.and_eq_true, Bool.not_eq_true'] at h2
        obtain ⟨h0, h2⟩ := h2
        split at h2 <;> try cases h2
        rename_i a a' ha
        obtain ⟨f, p, q, rfl, h8, h9, h10⟩ := vB2_of ha
        obtain ⟨es, k, pos, rfl⟩ := tg_tuple h3 h0
        simp only [Bool.and_eq_true] at h2
        exact pi_zp g h8 h9 h10 (chkE_ok x _ sc X C g h2.1).1 (chkE_ok y _ sc X C g h2.2).1
    · rw [g.N, g.scope]; exact blkOk_by h4
    · split at h6
      · have := isTrueK_of h6
        subst this
        refine PTs.weak pts_nil fun σ H' Q ⟨env, τ, E, q⟩ => ?_
        have ek : evE Pg (.k (.bl true)) env = .ok (.bl true, .deep, []) := by rw [evE] <;> rfl
        rw [ek] at q
        exact q H' (Same.refl _)
      · exact pts_one (chkE_ok c _ _ _ C.quiet (blk_good g s H scope cl Cc fp) h6).2.1
      · cases h6
    · exact (chkE_ok e _ _ _ C.quiet (blk_good g s H scope cl Cc fp) h5).1
theorem chkEs_ok : ∀ (cs : List CE) (es : List Expr) (sc : Scope) (X : Cx) (C : CE₀), GoodE X b C.G Pg L C.W sc → chkEs b sc cs es = true → PA X es (tA C (evEs Pg cs))
  | [], es, sc, X, C, g, h => by
    unfold chkEs at h
    have := List.isEmpty_iff.mp h
    subst this
    exact pa_none
  | c :: cs, es, sc, X, C, g, h => by
    unfold chkEs at h
    split at h <;> try cases h
    rename_i e es
    simp only [Bool.and_eq_true] at h
    exact pa_more h.1.1 (chkE_ok c e sc X C g h.1.2).1 (chkEs_ok cs es sc X C g h.2)
end
end
end FR

namespace FR
open PySem PySem.Spec L2
section
variable {G : Gs} {F H H1 : Hp} {A₀ : AP} {env : En} {τ : Nat → T} {σ σ' : L2.St} {t : T} {ts : List T} {o : Own} {u : List Nat}
/-! ### a told thing against the environment behind it -/
theorem after_len {o : Own} {u : List Nat} {env : En} : (after o u env).length = env.length := by
  unfold after; cases o <;> simp [kil_len, dem_len]
theorem EO.after (E : EO G F A₀ env τ σ H) (o : Own) (u : List Nat) : EO G F A₀ (FR.after o u env) τ σ H := by
  unfold FR.after; cases o
  · exact E.dem u
  · exact E.dem u
  · exact E.kil u
  · exact E.dem u
theorem after_isVal {j : Nat} (h : isVal (FR.after o u env) j) : isVal env j := by
  unfold FR.after at h; cases o
  · exact dem_isVal.mp h
  · exact dem_isVal.mp h
  · exact (kil_isVal.mp h).2
  · exact dem_isVal.mp h
theorem after_deepVal {j : Nat} (h : isVal (FR.after .deep u env) j) : j ∉ u := (kil_isVal.mp h).1
theorem after_own {j : Nat} {d : D} {o' : Own} (ho : o' ≠ .sh ∧ o' ≠ .bor) (e : (FR.after o u env)[j]? = some (some (Sl.val d o'))) : j ∉ u ∧ env[j]? = some (some (Sl.val d o')) := by
  unfold FR.after at e; cases o
  · exact dem_own ho e
  · exact dem_own ho e
  · obtain ⟨h, ⟨d', o'', e', q⟩ | ⟨m, p, _, _, q⟩⟩ := kil_get.mp e
    · cases q; exact ⟨h, e'⟩
    · cases q
  · exact dem_own ho e
def Seps (env : En) (τ : Nat → T) (A : List Addr) : Prop := ∀ j, (∀ d, env[j]? = some (some (Sl.val d .top)) → ∀ k a xs, τ j = .node k a xs → a ∉ A) ∧ (isDeep env j → ∀ a ∈ (τ j).fp, a ∉ A)
theorem Tgs.sep (E : EO G F A₀ env τ σ H) (g : Tgs env τ H ts o u) : Seps (FR.after o u env) τ (T.fps ts) := by
  refine fun j => ⟨fun d e k a xs et ha => ?_, fun ⟨d, e⟩ a ha hb => ?_⟩
  · obtain ⟨hj, e⟩ := after_own (by simp) e
    rcases g.cov a ha with q | ⟨i, hi, vi, qi⟩
    · exact (E.ok ⟨d, _, e⟩).new q (by rw [et]; simp [T.fp])
    · obtain ⟨_, _, _, h4⟩ := E.top j d e k a xs et
      exact h4 i (fun z => hj (z ▸ hi)) vi qi
  · obtain ⟨hj, e⟩ := after_own (by simp) e
    rcases g.cov a hb with q | ⟨i, hi, vi, qi⟩
    · exact (E.ok ⟨d, _, e⟩).new q ha
    · obtain ⟨_, _, _, h4⟩ := E.deep j ⟨d, e⟩
      exact h4 i (fun z => hj (z ▸ hi)) vi a ha qi
theorem Tgs.covF (E : EO G F A₀ env τ σ H) (g : Tgs env τ H ts o u) : ∀ a ∈ T.fps ts, F a = none ∨ a ∈ A₀ := fun a ha => by
  rcases g.cov a ha with q | ⟨i, hi, vi, qi⟩
  · exact .inl (E.old.free q)
  · exact E.cov i vi a qi
/-- what deep says of what lies in the environment behind -/
structure Alone (F : Hp) (env : En) (τ : Nat → T) (ts : List T) : Prop where
  nd : (T.fps ts).Nodup
  pl : T.plains ts
  new : ∀ a ∈ T.fps ts, F a = none
  oth : ∀ j, isVal env j → ∀ a ∈ T.fps ts, a ∉ (τ j).fp
theorem Tgs.alone (E : EO G F A₀ env τ σ H) (g : Tgs env τ H ts .deep u) : Alone F (FR.after .deep u env) τ ts := by
  obtain ⟨n, p, d⟩ := g.deep rfl
  refine ⟨n, p, fun a ha => ?_, fun j vj a ha hb => ?_⟩
  · rcases g.cov a ha with q | ⟨i, hi, vi, qi⟩
    · exact E.old.free q
    · exact (E.deep i (d i hi)).2.2.1 a qi
  · have hj := after_deepVal vj
    have vj' := after_isVal vj
    rcases g.cov a ha with q | ⟨i, hi, vi, qi⟩
    · exact (E.ok vj').new q hb
    · exact (E.deep i (d i hi)).2.2.2 j (fun z => hj (z ▸ hi)) vj' a qi hb
/-! ### a store -/
theorem EO.sto (E : EO G F A₀ env τ σ H) (s : Same H H1) (k : t.ok G H1) (g : Tg env τ H t o u) (i : Nat) : EO G F A₀ (stoA i t.d o u env) (FR.put τ i t) (σ.set i (some (t.v G))) H1 := by
  have E1 := (E.after o u).same s
  have sp := g.one.sep E
  have cv := g.one.covF E
  simp only [T.fps, List.append_nil] at sp cv
  refine E1.put (by rw [List.length_set]) (fun hi => by rw [List.getElem?_set_self (by rw [E1.len]; exact hi)]) (fun j s hj _ => by rw [List.getElem?_set_ne (Ne.symm hj)]) k cv ?_ fun j _ => sp j
  cases o with
  | sh => trivial
  | bor => trivial
  | top =>
    intro k' a xs et
    obtain ⟨h1, h2, h3⟩ := g.top rfl k' a xs et
    exact ⟨E.old.free h1, h2, h3, fun j _ vj => (E.ok (after_isVal vj)).new h1⟩
  | deep =>
    have al := g.one.alone E
    obtain ⟨n, p, w, z⟩ := al
    simp only [T.fps, List.append_nil, T.plains, and_true] at n p w z
    exact ⟨n, p, w, fun j _ vj => z j vj⟩
/-! ### several stores -/
def setAll : List Nat → List V → L2.St → L2.St
  | i :: is, v :: vs, σ => setAll is vs (σ.set i (some v))
  | _, _, σ => σ
theorem seq_ok {dp : Bool} : ∀ {is : List Nat} {ts : List T} {env env2 : En} {τ : Nat → T} {σ : L2.St}, seqO dp is (T.ds ts) env = .ok env2 → EO G F A₀ env τ σ H → T.oks G H ts → (∀ a ∈ T.fps ts, F a = none ∨ a ∈ A₀) → Seps env τ (T.fps ts) → (dp = true → Alone F env τ ts) →
    is.length = ts.length ∧ ∃ τ', EO G F A₀ env2 τ' (setAll is (ts.map (T.v G)) σ) H
  | [], [], env, env2, τ, σ, h, E, _, _, _, _ => by
    unfold seqO at h
    simp only [T.ds] at h
    cases h
    exact ⟨rfl, τ, E⟩
  | [], t :: ts, env, env2, τ, σ, h, _, _, _, _, _ => by simp [seqO, T.ds] at h
  | i :: is, [], env, env2, τ, σ, h, _, _, _, _, _ => by simp [seqO, T.ds] at h
  | i :: is, t :: ts, env, env2, τ, σ, h, E, kk, cv, sp, al => by
    simp only [T.ds, seqO] at h
    unfold T.oks at kk
    have own : OwnOk F env τ i t (if t.d.flat || dp then .deep else .sh) := by
      by_cases f : t.d.flat = true
      · rw [f, Bool.true_or, if_pos rfl]
        obtain ⟨f1, f2⟩ := flat_fp kk.1 f
        exact ⟨by rw [f1]; exact List.nodup_nil, by rw [f2]; simp [T.plain], by rw [f1]; simp, by rw [f1]; simp⟩
      · cases dp with
        | false =>
          have : t.d.flat = false := by simpa using f
          rw [this]; trivial
        | true =>
          rw [Bool.or_true, if_pos rfl]
          obtain ⟨n, p, w, z⟩ := al rfl
          simp only [T.fps, T.plains] at n p w z
          exact ⟨(List.nodup_append.mp n).1, p.1, fun a ha => w a (List.mem_append_left _ ha), fun j _ vj a ha => z j vj a (List.mem_append_left _ ha)⟩
    have m1 : ∀ a ∈ t.fp, a ∈ T.fps (t :: ts) := fun a ha => by simp only [T.fps]; exact List.mem_append_left _ ha
    have m2 : ∀ a ∈ T.fps ts, a ∈ T.fps (t :: ts) := fun a ha => by simp only [T.fps]; exact List.mem_append_right _ ha
    have E1 := E.put (σ' := σ.set i (some (t.v G))) (i := i) (t := t) (by rw [List.length_set]) (fun hi => by rw [List.getElem?_set_self (by rw [E.len]; exact hi)]) (fun j s hj _ => by rw [List.getElem?_set_ne (Ne.symm hj)]) kk.1 (fun a ha => cv a (m1 a ha)) own
      fun j _ => ⟨fun d e k a xs et ha => (sp j).1 d e k a xs et (m1 a ha), fun dj a ha hb => (sp j).2 dj a ha (m1 a hb)⟩
    have inb : ∀ {d o}, (setS i (.val t.d (if t.d.flat || dp then .deep else .sh)) env)[i]? = some (some (Sl.val d o)) → i < env.length ∧ d = t.d ∧ o = (if t.d.flat || dp then .deep else .sh) := fun {d o} e => by
      have hi : i < env.length := by
        have := (List.getElem?_eq_some_iff.mp e).1
        rw [setS_len] at this; exact this
      rw [setS_self hi] at e
      simp only [Option.some.injEq, Sl.val.injEq] at e
      exact ⟨hi, e.1.symm, e.2.symm⟩
    have dj : (if t.d.flat || dp then Own.deep else Own.sh) = .deep → ∀ a ∈ t.fp, a ∉ T.fps ts := fun e a ha hb => by
      by_cases f : t.d.flat = true
      · rw [(flat_fp kk.1 f).1] at ha; simp at ha
      · cases dp with
        | false =>
          have : t.d.flat = false := by simpa using f
          rw [this] at e; cases e
        | true =>
          obtain ⟨n, _, _, _⟩ := al rfl
          simp only [T.fps] at n
          exact (List.nodup_append.mp n).2.2 a ha a hb rfl
    have := seq_ok (is := is) (ts := ts) h E1 kk.2 (fun a ha => cv a (m2 a ha)) (fun j => ⟨fun d e k a xs et ha => ?_, fun ⟨d, e⟩ a ha hb => ?_⟩) fun hd => ?_
    · obtain ⟨h1, τ', h2⟩ := this
      exact ⟨by simp [h1], τ', by simpa [setAll] using h2⟩
    · by_cases hj : j = i
      · subst hj
        obtain ⟨_, _, e3⟩ := inb e
        split at e3 <;> cases e3
      · rw [put_ne hj] at et
        exact (sp j).1 d ((setS_val hj).mp e) k a xs et (m2 a ha)
    · by_cases hj : j = i
      · subst hj
        obtain ⟨_, _, e3⟩ := inb e
        rw [put_self] at ha
        exact dj e3.symm a ha hb
      · rw [put_ne hj] at ha
        exact (sp j).2 ⟨d, (setS_val hj).mp e⟩ a ha (m2 a hb)
    · obtain ⟨n, p, w, z⟩ := al hd
      simp only [T.fps, T.plains] at n p
      refine ⟨(List.nodup_append.mp n).2.1, p.2, fun a ha => w a (m2 a ha), fun j vj a ha hb => ?_⟩
      by_cases hj : j = i
      · subst hj
        rw [put_self] at hb
        exact (List.nodup_append.mp n).2.2 a hb a ha rfl
      · rw [put_ne hj] at hb
        exact z j ((setS_isVal hj).mp vj) a (m2 a ha) hb
/-! ### a written list -/
theorem setS_kil {i : Nat} {s : Sl} {env : En} : setS i s (kil [i] env) = setS i s env := by
  refine List.ext_getElem? fun j => ?_
  by_cases hj : j = i
  · subst hj
    by_cases hl : j < env.length
    · rw [setS_self hl, setS_self (by rw [kil_len]; exact hl)]
    · rw [List.getElem?_eq_none (by rw [setS_len, kil_len]; omega), List.getElem?_eq_none (by rw [setS_len]; omega)]
  · rw [setS_ne hj, setS_ne hj]
    rw [List.getElem?_map, List.getElem?_map]
    have hk : (kil [i] env)[j]? = (env.map fun s => match s with
      | some (.al m p) => if m = i then none else some (.al m p)
      | s => s)[j]? := by
      unfold kil
      rw [if_neg (by simp)]
      have : ∀ (env : En) (n j : Nat), n + j ≠ i → (kilF [i] n env)[j]? = (env.map fun s => match s with
        | some (.al m p) => if m = i then none else some (.al m p)
        | s => s)[j]? := by
        intro env
        induction env with
        | nil => intro n j _; simp [kilF]
        | cons s r ih =>
          intro n j hn
          cases j with
          | zero =>
            simp only [kilF, List.getElem?_cons_zero, List.map_cons, Option.some.injEq]
            rw [if_neg (by simp; omega)]
            cases s with
            | none => rfl
            | some s => cases s with
              | val d o => rfl
              | al m p => simp
          | succ j =>
            simp only [kilF, List.getElem?_cons_succ, List.map_cons]
            exact ih (n + 1) j (by omega)
      exact this env 0 j (by omega)
    rw [hk, List.getElem?_map]
    cases env[j]? with
    | none => rfl
    | some s =>
      cases s with
      | none => rfl
      | some s => cases s with
        | val d o => rfl
        | al m p =>
          simp only [Option.map_some, Option.some.injEq]
          by_cases hm : m = i
          · simp [hm, stripF]
          · simp [hm, stripF]
theorem EO.heap {H' : Hp} (E : EO G F A₀ env τ σ H) (h : ∀ j, isVal env j → ∀ a ∈ (τ j).fp, ∀ o, H a = some o → H' a = some o) (f : Same F H') : EO G F A₀ env τ σ H' :=
  ⟨E.len, fun i d o e => let ⟨a, b, c⟩ := E.val i d o e; ⟨a, b.keep (h i ⟨d, o, e⟩), c⟩, E.ali, f, E.cov, E.top, E.deep, E.pin⟩
/-- slot i's own list is rewritten -/
theorem EO.write {i : Nat} {d : D} {o : Own} {a : Addr} {xs ys : List T} {o' : Own} (E : EO G F A₀ env τ σ H) (e : env[i]? = some (some (Sl.val d o))) (ho : o ≠ .sh ∧ o ≠ .bor) (et : τ i = .node (.lst none) a xs) (k : T.oks G H ys) (na : a ∉ T.fps ys)
    (cv : ∀ b ∈ T.fps ys, F b = none ∨ b ∈ A₀) (ho' : o' ≠ .sh ∧ o' ≠ .bor) (al : o' = .deep → o = .deep ∧ (T.fps ys).Nodup ∧ T.plains ys ∧ (∀ b ∈ T.fps ys, F b = none) ∧ ∀ j, j ≠ i → isVal env j → ∀ b ∈ T.fps ys, b ∉ (τ j).fp)
    (sp : ∀ j, j ≠ i → (∀ d, env[j]? = some (some (Sl.val d .top)) → ∀ k a xs, τ j = .node k a xs → a ∉ T.fps ys) ∧ (isDeep env j → ∀ a ∈ (τ j).fp, a ∉ T.fps ys)) :
    EO G F A₀ (setS i (.val (.node .lst (T.ds ys)) o') env) (FR.put τ i (.node (.lst none) a ys)) σ (upd H a (.lst (ys.map (T.v G)))) := by
  have own : F a = none ∧ ∀ j, j ≠ i → isVal env j → a ∉ (τ j).fp := by
    cases o with
    | sh => exact absurd rfl ho.1
    | bor => exact absurd rfl ho.2
    | top => obtain ⟨h1, _, _, h4⟩ := E.top i d e _ _ _ et; exact ⟨h1, h4⟩
    | deep =>
      obtain ⟨_, _, h3, h4⟩ := E.deep i ⟨d, e⟩
      rw [et] at h3 h4
      exact ⟨h3 a (by simp [T.fp]), fun j hj vj => h4 j hj vj a (by simp [T.fp])⟩
  have E0 := E.kil [i]
  have v0 : ∀ j, isVal (FR.kil [i] env) j → j ≠ i ∧ isVal env j := fun j vj => by
    obtain ⟨h1, h2⟩ := kil_isVal.mp vj
    exact ⟨by simpa using h1, h2⟩
  have E1 := E0.heap (H' := upd H a (.lst (ys.map (T.v G)))) (fun j vj b hb x e' => by
    obtain ⟨h1, h2⟩ := v0 j vj
    rw [upd_ne (fun z => by subst z; exact own.2 j h1 h2 hb)]; exact e') (fun b x e' => by
    rw [upd_ne (fun z => by subst z; rw [own.1] at e'; cases e')]; exact E.old b x e')
  have sg : ∀ j d o, (FR.kil [i] env)[j]? = some (some (Sl.val d o)) → j ≠ i ∧ env[j]? = some (some (Sl.val d o)) := fun j d o e' => by
    obtain ⟨h, ⟨d', o'', e'', q⟩ | ⟨m, p, _, _, q⟩⟩ := kil_get.mp e'
    · cases q; exact ⟨by simpa using h, e''⟩
    · cases q
  have hd : (T.node (.lst none) a ys).d = .node .lst (T.ds ys) := by simp [T.d, TK.dk]
  rw [← setS_kil, ← hd]
  have hσ := (E.val i d o e).2.2
  rw [et] at hσ
  have hs : (T.node (.lst none) a xs).v G = (T.node (.lst none) a ys).v G := rfl
  refine E1.put rfl (fun _ => by rw [hσ, hs]) (fun _ _ _ _ => rfl) ?_ (fun b hb => ?_) ?_ fun j hj => ⟨fun d' e' k' a' xs' et' hb => ?_, fun ⟨d', e'⟩ b hb hc => ?_⟩
  · unfold T.ok
    refine ⟨upd_same, T.oks.keep k fun b hb x e' => ?_⟩
    rw [upd_ne (fun z => by subst z; exact na hb)]; exact e'
  · simp only [T.fp, List.mem_cons] at hb
    rcases hb with rfl | hb
    · exact .inl own.1
    · exact cv b hb
  · cases o' with
    | sh => exact absurd rfl ho'.1
    | bor => exact absurd rfl ho'.2
    | top =>
      intro k' a' xs' et'
      cases et'
      exact ⟨own.1, na, by simp, fun j hj vj => own.2 j hj (v0 j vj).2⟩
    | deep =>
      obtain ⟨_, n, p, w, z⟩ := al rfl
      refine ⟨by simp only [T.fp]; exact List.nodup_cons.mpr ⟨na, n⟩, by unfold T.plain; exact ⟨trivial, p⟩, fun b hb => ?_, fun j hj vj b hb => ?_⟩
      · simp only [T.fp, List.mem_cons] at hb
        rcases hb with rfl | hb
        · exact own.1
        · exact w b hb
      · simp only [T.fp, List.mem_cons] at hb
        rcases hb with rfl | hb
        · exact own.2 j hj (v0 j vj).2
        · exact z j hj (v0 j vj).2 b hb
  · obtain ⟨_, e2⟩ := sg j d' _ e'
    simp only [T.fp, List.mem_cons] at hb
    rcases hb with rfl | hb
    · exact (E.top j d' e2 k' a' xs' et').2.2.2 i (Ne.symm hj) ⟨d, o, e⟩ (by rw [et]; simp [T.fp])
    · exact (sp j hj).1 d' e2 k' a' xs' et' hb
  · obtain ⟨_, e2⟩ := sg j d' _ e'
    simp only [T.fp, List.mem_cons] at hc
    rcases hc with rfl | hc
    · exact (E.deep j ⟨d', e2⟩).2.2.2 i (Ne.symm hj) ⟨d, o, e⟩ b hb (by rw [et]; simp [T.fp])
    · exact (sp j hj).2 ⟨d', e2⟩ b hb hc
/-- a slot's own list -/
theorem EO.own {i : Nat} {ds : List D} {o : Own} (E : EO G F A₀ env τ σ H) (e : env[i]? = some (some (Sl.val (.node .lst ds) o))) (ho : o ≠ .sh ∧ o ≠ .bor) : ∃ a xs, τ i = .node (.lst none) a xs ∧ T.ds xs = ds ∧ H a = some (.lst (xs.map (T.v G))) ∧ T.oks G H xs ∧ a ∉ T.fps xs ∧ σ[i]? = some (some (.ref a)) ∧ (∀ b ∈ T.fps xs, F b = none ∨ b ∈ A₀) ∧ F a = none := by
  obtain ⟨e1, e2, e3⟩ := E.val i _ o e
  obtain ⟨tk, a, xs, et, d1, d2, d3, d4⟩ := e2.node e1
  rw [et] at e3
  have cv := E.cov i ⟨_, _, e⟩
  rw [et] at cv
  have fz : (∀ z, tk ≠ .lst (some z)) ∧ a ∉ T.fps xs ∧ F a = none := by
    cases o with
    | sh => exact absurd rfl ho.1
    | bor => exact absurd rfl ho.2
    | top => obtain ⟨h1, h2, h3, _⟩ := E.top i _ e _ _ _ et; exact ⟨h3, h2, h1⟩
    | deep =>
      obtain ⟨n, p, w, _⟩ := E.deep i ⟨_, e⟩
      rw [et] at n p w
      unfold T.plain at p
      simp only [T.fp] at n
      refine ⟨fun z hz => ?_, (List.nodup_cons.mp n).1, w a (by simp [T.fp])⟩
      subst hz
      exact p.1
  cases tk with
  | lst fz' => cases fz' with
    | none => exact ⟨a, xs, et, d2, d3, d4, fz.2.1, e3, fun b hb => cv b (by simp [T.fp, hb]), fz.2.2⟩
    | some z => exact absurd rfl (fz.1 z)
  | tup => cases d1
  | ins c dx => cases d1
end
end FR

namespace FR
open PySem PySem.Spec L2
/-! ### what a statement's reading asks -/
def outO (C : CE₀) (De : Ends) : Out → Prop
  | .nx e => ∀ τ σ H, EO C.G C.F C.A₀ e τ σ H → De.nx σ H
  | .bk e => ∀ τ σ H, EO C.G C.F C.A₀ e τ σ H → De.bk σ H
  | .ct e => ∀ τ σ H, EO C.G C.F C.A₀ e τ σ H → De.ct σ H
  | .rt d fr => ∀ (t : T) H, Same C.F H → t.ok C.G H → t.d = d → (∀ a ∈ t.fp, C.F a = none ∨ a ∈ C.A₀) → (fr = true → t.fp.Nodup ∧ t.plain ∧ ∀ a ∈ t.fp, C.F a = none) → De.rt (t.v C.G) H
def outR (C : CE₀) (De : Ends) : R Out → Prop
  | .no => False
  | .ok o => outO C De o
  | .ex c => ∀ σ H, Same C.F H → C.W (.ref (C.G.cls c)) none σ H
def tS (C : CE₀) (f : En → R Out) : TS := fun De σ H => ∃ env τ, EO C.G C.F C.A₀ env τ σ H ∧ outR C De (f env)
structure GoodS (X : Cx) (b : Tb) (G : Gs) (Pg : Prog) (L : Nat) (W : WX) (sc : Scope) : Prop where
  e : GoodE X b G Pg L W sc
  kind : sc.kind = .function
  pass : PassesOwn (model X.prog X.w) X.A X.env X.xe
  fnv : ∀ x, X.fn x = true
section
variable {C : CE₀} {X : Cx} {b : Tb} {Pg : Prog} {L : Nat} {sc : Scope} {De : Ends} {σ : L2.St} {H : Hp}
/-- an expression first -/
theorem tS.then {f : En → Rv} {g : En → (D × Own × List Nat) → R Out} {k : V → Hp → Prop} (h : tS C (fun env => (f env).b (g env)) De σ H)
    (step : ∀ env τ H1 t o u, EO C.G C.F C.A₀ env τ σ H → Same H H1 → t.ok C.G H1 → Tg env τ H t o u → outR C De (g env (t.d, o, u)) → k (t.v C.G) H1) : tE C f σ H k := by
  obtain ⟨env, τ, E, h⟩ := h
  refine ⟨env, τ, E, ?_⟩
  dsimp only at h
  cases e : f env with
  | no => rw [e] at h; exact h
  | ex c => rw [e] at h; exact fun H' s => h σ H' (E.old.trans s)
  | ok r =>
    rw [e] at h
    intro H1 t s ok ed tg
    obtain ⟨d, o, u⟩ := r
    dsimp only at ed tg
    subst ed
    exact step env τ H1 t o u E s ok tg h
theorem tS.ev {f g : En → R Out} (h : tS C f De σ H) (e : ∀ env, f env = g env) : tS C g De σ H := let ⟨env, τ, E, q⟩ := h; ⟨env, τ, E, by rw [← e]; exact q⟩
/-! ### the base moved on: what is walked stays -/
def reF (F H : Hp) (A : List Addr) : Hp := fun a => if a ∈ A then H a else F a
abbrev CE₀.re (C : CE₀) (H : Hp) (A : List Addr) : CE₀ := ⟨C.G, reF C.F H A, C.A₀.up A, C.W⟩
theorem reF_le {F H : Hp} {A : List Addr} (s : Same F H) : Same F (reF F H A) := fun a o e => by
  unfold reF
  split
  · exact s a o e
  · exact e
theorem reF_ge {F H : Hp} {A : List Addr} (s : Same F H) : Same (reF F H A) H := fun a o e => by
  unfold reF at e
  split at e
  · exact e
  · exact s a o e
theorem reF_none {F H : Hp} {A : List Addr} (s : Same F H) {a : Addr} (e : reF F H A a = none) : F a = none := (reF_le (A := A) s).free e
/-- out of the loop -/
theorem EO.down {A₀ : AP} {A : List Addr} {F H0 H : Hp} {G : Gs} {env : En} {τ : Nat → T} {σ : L2.St} (s0 : Same F H0) (hA : ∀ a ∈ A, F a = none ∨ a ∈ A₀) (E : EO G (reF F H0 A) (A₀.up A) env τ σ H) : EO G F A₀ env τ σ H := by
  refine ⟨E.len, E.val, E.ali, (reF_le s0).trans E.old, fun i v a ha => ?_, fun i d e k a xs et => ?_, fun i v => ?_, E.pin⟩
  · rcases E.cov i v a ha with q | q
    · exact .inl (reF_none s0 q)
    · rcases AP.mem_up.mp q with q | q
      · exact .inr q
      · exact hA a q
  · obtain ⟨h1, h2⟩ := E.top i d e k a xs et
    exact ⟨reF_none s0 h1, h2⟩
  · obtain ⟨h1, h2, h3, h4⟩ := E.deep i v
    exact ⟨h1, h2, fun a ha => reF_none s0 (h3 a ha), h4⟩
/-- into the loop -/
theorem EO.up {A₀ : AP} {A : List Addr} {F H : Hp} {G : Gs} {env : En} {τ : Nat → T} {σ : L2.St} (E : EO G F A₀ env τ σ H) (sp : Seps env τ A) : EO G (reF F H A) (A₀.up A) env τ σ H := by
  refine ⟨E.len, E.val, E.ali, reF_ge E.old, fun i v a ha => ?_, fun i d e k a xs et => ?_, fun i v => ?_, E.pin⟩
  · by_cases hA : a ∈ A
    · exact .inr (AP.mem_up.mpr (.inr hA))
    · rcases E.cov i v a ha with q | q
      · exact .inl (by unfold reF; rw [if_neg hA]; exact q)
      · exact .inr (AP.mem_up.mpr (.inl q))
  · obtain ⟨h1, h2⟩ := E.top i d e k a xs et
    exact ⟨by unfold reF; rw [if_neg ((sp i).1 d e k a xs et)]; exact h1, h2⟩
  · obtain ⟨h1, h2, h3, h4⟩ := E.deep i v
    exact ⟨h1, h2, fun a ha => by unfold reF; rw [if_neg ((sp i).2 v a ha)]; exact h3 a ha, h4⟩
/-- what is asked without is asked within -/
theorem outO.re {De De' : Ends} {H0 : Hp} {A : List Addr} {o : Out} (s0 : Same C.F H0) (hA : ∀ a ∈ A, C.F a = none ∨ a ∈ C.A₀) (h : outO C De o) (hn : De'.nx = De.nx) (hb : De'.bk = De.bk) (hc : De'.ct = De.ct) (hr : De'.rt = De.rt) : outO (C.re H0 A) De' o := by
  cases o with
  | nx e => intro τ σ H E; rw [hn]; exact h τ σ H (E.down s0 hA)
  | bk e => intro τ σ H E; rw [hb]; exact h τ σ H (E.down s0 hA)
  | ct e => intro τ σ H E; rw [hc]; exact h τ σ H (E.down s0 hA)
  | rt d fr =>
    intro t H s k e cv al
    rw [hr]
    refine h t H ((reF_le s0).trans s) k e (fun a ha => ?_) fun hf => ?_
    · rcases cv a ha with q | q
      · exact .inl (reF_none s0 q)
      · exact (AP.mem_up.mp q).elim .inr (hA a)
    · obtain ⟨h1, h2, h3⟩ := al hf
      exact ⟨h1, h2, fun a ha => reF_none s0 (h3 a ha)⟩
/-! ### targets, several -/
def gs : List Nat → TGs
  | [] => gNil
  | i :: is => gCons (gName i) (gs is)
theorem gs_ok : ∀ {is : List Nat} {vs : List V} {σ : L2.St} {H : Hp} {Q : L2.St → Hp → Prop}, is.length = vs.length → Q (setAll is vs σ) H → gs is vs σ H Q
  | [], [], _, _, _, _, q => ⟨rfl, q⟩
  | i :: is, v :: vs, σ, H, Q, h, q => ⟨v, vs, rfl, gs_ok (is := is) (by simpa using h) q⟩
  | [], _ :: _, _, _, _, h, _ => by simp at h
  | _ :: _, [], _, _, _, h, _ => by simp at h
def namesB (b : Tb) (sc : Scope) : List Nat → List Expr → Bool
  | [], ts => ts.isEmpty
  | i :: is, ts => match ts with
    | .Name x _ :: ts => nameL b sc (fun _ => true) i x && namesB b sc is ts
    | _ => false
theorem names_ok {W : WX} {G : Gs} (g : GoodE X b G Pg L W sc) (fv : ∀ x, X.fn x = true) : ∀ {is : List Nat} {ts : List Expr}, namesB b sc is ts = true → PGs X ts (gs is) ∧ (assignEach ts X.env).length = is.length ∧ (assignEach ts X.env).findIdx? (·.1) = none
  | [], ts, h => by
    unfold namesB at h
    have := List.isEmpty_iff.mp h
    subst this
    exact ⟨pgs_nil, rfl, rfl⟩
  | i :: is, ts, h => by
    unfold namesB at h
    split at h
    · rename_i x p ts
      simp only [Bool.and_eq_true] at h
      obtain ⟨h1, h2, h3⟩ := names_ok g fv h.2
      have hn := h.1
      unfold nameL at hn
      simp only [Bool.and_eq_true, Bool.or_eq_true, decide_eq_true_eq] at hn
      have hl : Loc X.env.scope x := by
        rw [g.scope]
        exact hn.2.imp id fun z => z.1
      refine ⟨pgs_cons (pg_name g.nd (by rw [g.N]; exact hn.1) hl (.inl (fv x))) h1 rfl, ?_, ?_⟩
      · show (assignEach ts X.env).length + 1 = is.length + 1
        rw [h2]
      · show ((false, assign (.Name x p) X.env) :: assignEach ts X.env).findIdx? (·.1) = none
        rw [List.findIdx?_cons]
        simp [h3]
    · cases h
end
end FR

namespace FR
open PySem PySem.Spec L2
section
variable {b : Tb} {Pg : Prog} {L : Nat}
theorem comp_of {e x y c : CE} {ik : IK} {tg : List Nat} {ex : Expr} {sc : Scope} {X : Cx} {C : CE₀} (g : GoodE X b C.G Pg L C.W sc) (h : chkE b sc (.lc e tg ik x y c) ex = true) :
    ∃ elt t it ifs scope p, ex = .ListComp elt [⟨t, it, ifs, 0⟩] scope p ∧ CompOk C X b Pg sc ik x y c e tg t it ifs elt scope := by
    rw [chkE] at h; split at h <;> try cases h
    rename_i elt t it ifs scope hx
    obtain ⟨p, rfl⟩ := vComp_of hx
    simp only [Bool.and_eq_true] at h
    obtain ⟨⟨⟨⟨⟨h1, h2⟩, h3⟩, h4⟩, h5⟩, h6⟩ := h
    refine ⟨elt, t, it, ifs, scope, p, rfl, ⟨?_, ?_, h3, fun s H Cc cl fp => ?_, fun s H Cc cl fp => ?_, notSet_of h1⟩⟩
    · cases ik with
      | lst =>
        simp only [Bool.and_eq_true] at h2
        exact pi_lst g h2.1 (chkE_ok x _ sc X C g h2.2).1
      | rng1 =>
        simp only [Bool.and_eq_true] at h2
        obtain ⟨h2, h7⟩ := h2
        split at h7 <;> try cases h7
        rename_i a ha
        obtain ⟨f, p, q, rfl, h8, h9⟩ := vB1_of ha
        exact pi_rng1 g h8 h2 h9 (chkE_ok x _ sc X C g h7).1
      | rng2 =>
        dsimp only at h2
        split at h2 <;> try cases h2
        rename_i a a' ha
        obtain ⟨f, p, q, rfl, h8, h9, h10⟩ := vB2_of ha
        simp only [Bool.and_eq_true] at h2
        exact pi_rng2 g h8 h9 h10 (chkE_ok x _ sc X C g h2.1).1 (chkE_ok y _ sc X C g h2.2).1
      | enm =>
        simp only [Bool.and_eq_true, Bool.not_eq_true'] at h2
        obtain ⟨⟨h0, h2⟩, h7⟩ := h2
        split at h7 <;> try cases h7
        rename_i a ha
        obtain ⟨f, p, q, rfl, h8, h9⟩ := vB1_of ha
        obtain ⟨es, k, pos, rfl⟩ := tg_tuple h3 h0
        exact pi_enm g h8 h2 h9 (chkE_ok x _ sc X C g h7).1
      | zip =>
        simp only [Bool.and_eq_true, Bool.not_eq_true'] at h2
        obtain ⟨h0, h2⟩ := h2
        split at h2 <;> try cases h2
        rename_i a a' ha
        obtain ⟨f, p, q, rfl, h8, h9, h10⟩ := vB2_of ha
        obtain ⟨es, k, pos, rfl⟩ := tg_tuple h3 h0
        simp only [Bool.and_eq_true] at h2
        exact pi_zp g h8 h9 h10 (chkE_ok x _ sc X C g h2.1).1 (chkE_ok y _ sc X C g h2.2).1
    · rw [g.N, g.scope]; exact blkOk_by h4
    · split at h6
      · have := isTrueK_of h6
        subst this
        refine PTs.weak pts_nil fun σ H' Q ⟨env, τ, E, q⟩ => ?_
        have ek : evE Pg (.k (.bl true)) env = .ok (.bl true, .deep, []) := by rw [evE] <;> rfl
        rw [ek] at q
        exact q H' (Same.refl _)
      · exact pts_one (chkE_ok c _ _ _ C.quiet (blk_good g s H scope cl Cc fp) h6).2.1
      · cases h6
    · exact (chkE_ok e _ _ _ C.quiet (blk_good g s H scope cl Cc fp) h5).1
end
/-! ### does a store swap with a comprehension's end -/
def swB (sc : Scope) (v : Expr) (y : Str) (py : Pos) : Bool := match v with
  | .ListComp _ _ s p => (sc.names.lookup y == some .local) && (py.line == p.line) && !(s.names.any fun (n, k) => n == y && (k == .local || k == .cell))
  | .SetComp _ _ s p => (sc.names.lookup y == some .local) && (py.line == p.line) && !(s.names.any fun (n, k) => n == y && (k == .local || k == .cell))
  | .DictComp _ _ _ s p => (sc.names.lookup y == some .local) && (py.line == p.line) && !(s.names.any fun (n, k) => n == y && (k == .local || k == .cell))
  | _ => false
theorem sw_of {v : Expr} {y : Str} {py : Pos} {l : Nat} {env : PySem.Env} (hk : env.scope.kind = .function) : swapsWith v (some (.Name y py)) l env = pure (swB env.scope v y py) := by
  have hb : env.blockKind = .function := by unfold PySem.Env.blockKind; rw [hk]; rfl
  unfold swapsWith swB
  cases v <;> first | rfl | (simp only [hb]; rfl)
theorem sw_tup {v : Expr} {es : List Expr} {k l : Nat} {p : Pos} {env : PySem.Env} : swapsWith v (some (.Tuple es k p)) l env = pure false := by
  unfold swapsWith
  cases v <;> rfl
def plainC : Expr → Bool
  | .ListComp .. => false
  | .SetComp .. => false
  | .DictComp .. => false
  | _ => true
theorem sw_plain {v : Expr} {t : Option Expr} {l : Nat} {env : PySem.Env} (h : plainC v = true) : swapsWith v t l env = pure false := by
  cases v <;> first | rfl | cases h
def isTupE : Expr → Bool
  | .Tuple .. => true
  | _ => false
def isLcC : CE → Bool
  | .lc .. => true
  | _ => false
theorem sto_none {ts : List Expr} {k : Nat} {p : Pos} {v : Expr} {env : PySem.Env} (h : isTupE v = false) : swappedStores [.Tuple ts k p] v env = pure none := by
  unfold swappedStores
  cases v <;> first | rfl | cases h
theorem sto_name {x : Str} {p : Pos} {v : Expr} {env : PySem.Env} : swappedStores [.Name x p] v env = pure none := by
  unfold swappedStores
  cases v <;> rfl
theorem sto_sub {l r : Expr} {p : Pos} {v : Expr} {env : PySem.Env} : swappedStores [.Subscript l r p] v env = pure none := by
  unfold swappedStores
  cases v <;> rfl
theorem sto_long {ts vs : List Expr} {k k2 : Nat} {p p2 : Pos} {env : PySem.Env} (h : (!(ts.length == 2 || ts.length == 3) || vs.all (foldedForSure 8)) = true) : swappedStores [.Tuple ts k p] (.Tuple vs k2 p2) env = pure none := by
  unfold swappedStores
  dsimp only
  rcases Bool.or_eq_true_iff.mp h with h | h
  · rw [if_pos (by rw [h]; rfl)]
  · split
    · rfl
    · split
      · rfl
      · split
        · rfl
        · first
            | rfl
            | exact if_pos h
/-- two names against two values, not constants -/
def parB2 (sc : Scope) (x y : Str) (px py : Pos) (a b : Expr) : Bool := okSt a && okSt b && decide (sc.names.lookup x = some .local) && decide (sc.names.lookup y = some .local) && (px.line == py.line) && !(x == y) && !([a, b].all (foldedForSure 8)) && !([a, b].all (constantsAlone 8))
def isStar : Expr → Bool
  | .Starred .. => true
  | _ => false
theorem star_no {a : Expr} (h : okSt a = true) : isStar a = false := by cases a <;> first | rfl | cases h
theorem sto_two {x y : Str} {px py : Pos} {a b : Expr} {k k2 : Nat} {p p2 : Pos} {env : PySem.Env} (hk : env.scope.kind = .function) (h : parB2 env.scope x y px py a b = true) : swappedStores [.Tuple [.Name x px, .Name y py] k p] (.Tuple [a, b] k2 p2) env = pure (some [x, y]) := by
  have hb : env.blockKind = .function := by unfold PySem.Env.blockKind; rw [hk]; rfl
  unfold parB2 at h
  simp only [Bool.and_eq_true, decide_eq_true_eq, Bool.not_eq_true'] at h
  obtain ⟨⟨⟨⟨⟨⟨⟨h1, h2⟩, h3⟩, h4⟩, h5⟩, h6⟩, h7⟩, h8⟩ := h
  have kx : env.kindOf x = some .local := h3
  have ky : env.kindOf y = some .local := h4
  have st : ¬ ([a, b].any isStar) = true := by
    simp only [List.any_cons, List.any_nil, star_no h1, star_no h2]
    simp
  unfold swappedStores
  dsimp only
  refine Eq.trans (if_neg (by rw [hb]; simp)) ?_
  refine Eq.trans (if_neg st) ?_
  have e1 : (py.line == px.line) = true := by rw [beq_iff_eq] at h5 ⊢; exact h5.symm
  have hne : (y == x) = false := by
    rw [beq_eq_false_iff_ne] at h6 ⊢
    exact Ne.symm h6
  simp only [List.filterMap_cons, List.filterMap_nil, kx, ky, List.head?_cons, Option.map_some, Option.getD_some, Expr.pos, e1, beq_self_eq_true, Bool.and_self, if_true]
  refine Eq.trans (if_neg ?_) ?_
  · simp only [List.eraseDups_cons, List.filter_cons, List.filter_nil, hne, List.length_cons, List.length_nil]
    simp [List.eraseDups_cons]
  refine Eq.trans (if_neg (by rw [h7]; decide)) ?_
  exact if_neg (by rw [h8]; decide)
/-- one of the two names is no plain local -/
def parB3 (sc : Scope) (x y : Str) : Bool := decide (sc.names.lookup x ≠ some .local) || decide (sc.names.lookup y ≠ some .local)
theorem sto_cell {x y : Str} {px py : Pos} {v : Expr} {k : Nat} {p : Pos} {env : PySem.Env} (h : parB3 env.scope x y = true) : swappedStores [.Tuple [.Name x px, .Name y py] k p] v env = pure none := by
  have kk : (env.kindOf x == some .local) = false ∨ (env.kindOf y == some .local) = false := by
    unfold parB3 at h
    simp only [Bool.or_eq_true, decide_eq_true_eq] at h
    rcases h with h | h
    · left; rw [beq_eq_false_iff_ne]; exact h
    · right; rw [beq_eq_false_iff_ne]; exact h
  by_cases ht : isTupE v = true
  · cases v <;> try cases ht
    unfold swappedStores
    dsimp only
    split
    · rfl
    · split
      · rfl
      · refine if_pos ?_
        rcases kk with kk | kk
        · simp only [List.filterMap_cons, List.filterMap_nil, kk, Bool.false_and, Bool.false_eq_true, if_false]
          split
          · simp
          · simp
        · simp only [List.filterMap_cons, List.filterMap_nil, kk, Bool.false_and, Bool.false_eq_true, if_false]
          split
          · simp
          · simp
  · exact sto_none (by simpa using ht)
end FR

namespace FR
open PySem PySem.Spec L2
/-! ### the checker for statements -/
def excB (b : Tb) (sc : Scope) (c : Nat) : Expr → Bool
  | .Call (.Name x _) [.Constant (.str _) _ _] [] _ => decide (b.cn[c]? = some x) && b.exs.contains x && glB sc x && okN x
  | _ => false
def augOk : BO → Bool
  | .mod => false
  | .pow => false
  | _ => true
def mcB (b : Tb) (sc : Scope) (i : Nat) (m : Str) (x : Str) (a : Str) (ap cp : Pos) : Bool := slotB b sc i x && decide (a = m) && decide (ap.endLine = cp.line)
def parM (sc : Scope) (ts vs : List Expr) : Bool := match ts, vs with
  | [.Name x px, .Name y py], [a, c] => parB2 sc x y px py a c
  | _, _ => false
def parN (sc : Scope) (ts : List Expr) : Bool := match ts with
  | [.Name x _, .Name y _] => parB3 sc x y
  | _ => false
theorem parN_of {sc : Scope} {ts : List Expr} (h : parN sc ts = true) : ∃ x px y py, ts = [.Name x px, .Name y py] ∧ parB3 sc x y = true := by
  unfold parN at h
  split at h
  · exact ⟨_, _, _, _, rfl, h⟩
  · cases h
theorem parM_of {sc : Scope} {ts vs : List Expr} (h : parM sc ts vs = true) : ∃ x px y py a c, ts = [.Name x px, .Name y py] ∧ vs = [a, c] ∧ parB2 sc x y px py a c = true := by
  unfold parM at h
  split at h
  · exact ⟨_, _, _, _, _, _, rfl, rfl, h⟩
  · cases h
mutual
def chkS (b : Tb) (sc : Scope) : CS → Stmt → Bool
  | .set i e, s => match s with
    | .Assign [.Name x px] v _ => nameL b sc (fun _ => true) i x && chkE b sc e v && (if swB sc v x px then isLcC e else true)
    | _ => false
  | .setT i e, s => match s with
    | .Assign [.Name x px] v _ => nameL b sc (fun _ => true) i x && chkE b sc e v && !(swB sc v x px)
    | _ => false
  | .unp is e, s => match s with
    | .Assign [.Tuple ts _ _] v _ => namesB b sc is ts && !isTupE v && chkE b sc e v
    | _ => false
  | .par is es, s => match s with
    | .Assign [.Tuple ts _ _] (.Tuple vs _ _) _ => namesB b sc is ts && decide (es.length ≤ 1000) && chkEs b sc es vs &&
      ((!(ts.length == 2 || ts.length == 3) || vs.all (foldedForSure 8)) || parN sc ts || parM sc ts vs)
    | _ => false
  | .app i e, s => match s with
    | .Expr (.Call (.Attribute (.Name x _) a ap) [v] [] cp) _ => mcB b sc i "append" x a ap cp && okSt v && chkE b sc e v
    | _ => false
  | .appAt i a e, s => match s with
    | .Expr (.Call (.Attribute (.Subscript (.Name x _) r _) m ap) [v] [] cp) _ => mcB b sc i "append" x m ap cp && plainIx r && okSt v && chkE b sc a r && chkE b sc e v
    | _ => false
  | .ext i e, s => match s with
    | .Expr (.Call (.Attribute (.Name x _) a ap) [v] [] cp) _ => mcB b sc i "extend" x a ap cp && okSt v && chkE b sc e v
    | _ => false
  | .popT dst i e, s => match s with
    | .Assign [.Name y _] (.Call (.Attribute (.Name x _) a ap) [v] [] cp) _ => nameL b sc (fun _ => true) dst y && mcB b sc i "pop" x a ap cp && okSt v && chkE b sc e v
    | _ => false
  | .popL dst i, s => match s with
    | .Assign [.Name y _] (.Call (.Attribute (.Name x _) a ap) [] [] cp) _ => nameL b sc (fun _ => true) dst y && mcB b sc i "pop" x a ap cp
    | _ => false
  | .seti i a e, s => match s with
    | .Assign [.Subscript (.Name x _) r _] v _ => slotB b sc i x && plainIx r && plainC v && chkE b sc a r && chkE b sc e v
    | _ => false
  | .aug i op e, s => match s with
    | .AugAssign (.Name x _) o v _ => nameL b sc (fun _ => true) i x && opB op o && augOk op && chkE b sc e v
    | _ => false
  | .setf i f e, s => match s with
    | .Assign [.Attribute (.Name x _) a _] v _ => slotB b sc i x && decide (a = fldN f) && chkE b sc e v
    | _ => false
  | .if_ c x y, s => match s with
    | .If t xs ys _ => chkE b sc c t && chkSs b sc x xs && chkSs b sc y ys
    | _ => false
  | .for_ tg ik x y body _, s => match s with
    | .For t it xs [] _ => plainSet it &&
      (match ik with
        | .lst => y.isNil && chkE b sc x it
        | .rng1 => y.isNil && (match vB1 b sc "range" it with | some a => chkE b sc x a | none => false)
        | .rng2 => (match vB2 b sc "range" it with | some (a, a') => chkE b sc x a && chkE b sc y a' | none => false)
        | .enm => !noTuple tg && y.isNil && (match vB1 b sc "enumerate" it with | some a => chkE b sc x a | none => false)
        | .zip => !noTuple tg && (match vB2 b sc "zip" it with | some (a, a') => chkE b sc x a && chkE b sc y a' | none => false)) &&
      tgB b sc (fun _ => true) tg t && chkSs b sc body xs
    | _ => false
  | .forB tg ik x y body _, s => match s with
    | .For t it xs [] _ => plainSet it &&
      (match ik with
        | .lst => y.isNil && chkE b sc x it
        | .rng1 => y.isNil && (match vB1 b sc "range" it with | some a => chkE b sc x a | none => false)
        | .rng2 => (match vB2 b sc "range" it with | some (a, a') => chkE b sc x a && chkE b sc y a' | none => false)
        | .enm => !noTuple tg && y.isNil && (match vB1 b sc "enumerate" it with | some a => chkE b sc x a | none => false)
        | .zip => !noTuple tg && (match vB2 b sc "zip" it with | some (a, a') => chkE b sc x a && chkE b sc y a' | none => false)) &&
      tgB b sc (fun _ => true) tg t && chkSs b sc body xs
    | _ => false
  | .whl c body _, s => match s with
    | .While t xs [] _ => chkE b sc c t && chkSs b sc body xs
    | _ => false
  | .appAll js tg e, s => match s with
    | .For (.Name x _) it [.Expr (.Call (.Attribute (.Name y _) a ap) [v] [] cp) _] [] _ => nameL b sc (fun _ => true) tg x && mcB b sc tg "append" y a ap cp && okSt v && chkE b sc e v && (match js, it with
      | [j], .Name z _ => slotB b sc j z
      | [j, k], .BinOp (.Name z _) .Add (.Name z' _) _ => slotB b sc j z && slotB b sc k z'
      | _, _ => false)
    | _ => false
  | .ret e, s => match s with
    | .Return (some v) _ => chkE b sc e v
    | _ => false
  | .retS e, s => match s with
    | .Return (some v) _ => chkE b sc e v
    | _ => false
  | .retN, s => match s with
    | .Return none _ => true
    | _ => false
  | .brk, s => match s with
    | .Break _ => true
    | _ => false
  | .cnt, s => match s with
    | .Continue _ => true
    | _ => false
  | .ex e, s => match s with
    | .Expr v _ => plainC v && chkE b sc e v
    | _ => false
  | .pass, s => match s with
    | .Pass _ => true
    | .Expr (.Constant (.str _) _ _) _ => true
    | _ => false
  | .rse c, s => match s with
    | .Raise (some e) none _ => excB b sc c e
    | _ => false
def chkSs (b : Tb) (sc : Scope) : List CS → List Stmt → Bool
  | [], l => l.isEmpty
  | x :: xs, l => match l with
    | [] => false
    | s :: ss => chkS b sc x s && chkSs b sc xs ss
end
section
variable {C : CE₀} {X : Cx} {b : Tb} {Pg : Prog} {L n : Nat} {sc : Scope}
/-! ### stores -/
theorem pe_slot0 {W : WX} {G : Gs} {i : Nat} {x : Str} {pos : Pos} (g : GoodE X b G Pg L W sc) (h : slotB b sc i x = true) : PE X (.Name x pos) (tVar i) := by
  unfold slotB at h
  simp only [Bool.and_eq_true, decide_eq_true_eq] at h
  obtain ⟨h1, h2, _⟩ := okN_ok h.2
  exact pe_var (i := i) (by rw [g.N]; exact h.1.1) (visB_ok g h.1.2) h1 h2
theorem nameL_ok {W : WX} {G : Gs} {i : Nat} {x : Str} (g : GoodE X b G Pg L W sc) (h : nameL b sc (fun _ => true) i x = true) : X.N[i]? = some x ∧ Loc X.env.scope x := by
  unfold nameL at h
  simp only [Bool.and_eq_true, Bool.or_eq_true, decide_eq_true_eq] at h
  exact ⟨by rw [g.N]; exact h.1, by rw [g.scope]; exact h.2.imp id fun z => z.1⟩
theorem set_read {i : Nat} {e : CE} {De : Ends} {σ : L2.St} {H : Hp} (h : tS C (evS Pg n (.set i e)) De σ H) : tAsg (tE C (evE Pg e)) (gName i) De σ H := by
  refine tS.then (g := fun env x => .ok (.nx (stoA i x.1 x.2.1 x.2.2 env))) (h.ev fun env => by rw [evS]) fun env τ H1 t o u E s k g q => ?_
  exact q _ _ _ (E.sto s k g i)
theorem ps_setE {i : Nat} {e : CE} {v : Expr} {x : Str} {px pos : Pos} (g : GoodS X b C.G Pg L C.W sc) (h : nameL b sc (fun _ => true) i x = true) (hc : chkE b sc e v = true) (hs : (if swB sc v x px then isLcC e else true) = true) : PS X (.Assign [.Name x px] v pos) (tS C (evS Pg n (.set i e))) := by
  obtain ⟨h1, h2⟩ := nameL_ok g.e h
  have hk : X.env.scope.kind = .function := by rw [g.e.scope]; exact g.kind
  by_cases sw : swB sc v x px = true
  · rw [if_pos sw] at hs
    cases e <;> simp [isLcC] at hs
    rename_i ee tg ik a bb c
    obtain ⟨elt, t, it, ifs, scope, p, rfl, ok⟩ := comp_of g.e hc
    have h2' : X.env.scope.names.lookup x = some .local := by
      have sw' := sw
      unfold swB at sw'
      simp only [Bool.and_eq_true, beq_iff_eq] at sw'
      rw [g.e.scope]; exact sw'.1.1
    refine PS.weak (ps_setLc (i := i) (elt := elt) (pos := p) (g := gT X.K tg) g.e.calm g.e.nd h1 h2' (by rw [sw_of hk, g.e.scope, sw]) ok.walk ok.blk (fun s H Cc cl fp => pg_of (blk_good g.e s H scope cl Cc fp) (fun _ z => z) ok.tg) ok.cond ok.elt ok.notSet) fun De σ H q => ?_
    rw [own_snd]
    have q := set_read q
    exact comp_read (X := X) (tg_ne ok.tg) (fun _ _ _ z => z) (fun _ _ _ z => z) q
  · have sw : swB sc v x px = false := by simpa using sw
    refine PS.weak (ps_set g.e.nd h1 h2 (chkE_ok e v sc X C g.e hc).1 (by rw [sw_of hk, g.e.scope, sw]) (.inl (g.fnv _))) fun De σ H q => set_read q
theorem ps_setTE {i : Nat} {e : CE} {v : Expr} {x : Str} {px pos : Pos} (g : GoodS X b C.G Pg L C.W sc) (h : nameL b sc (fun _ => true) i x = true) (hc : chkE b sc e v = true) (sw : swB sc v x px = false) : PS X (.Assign [.Name x px] v pos) (tS C (evS Pg n (.setT i e))) := by
  obtain ⟨h1, h2⟩ := nameL_ok g.e h
  have hk : X.env.scope.kind = .function := by rw [g.e.scope]; exact g.kind
  refine PS.weak (ps_set g.e.nd h1 h2 (chkE_ok e v sc X C g.e hc).1 (by rw [sw_of hk, g.e.scope, sw]) (.inl (g.fnv _))) fun De σ H q => ?_
  refine tS.then (g := fun env x => if decide (x.2.1 = .deep) && x.2.2.isEmpty then .ok (.nx (setS i (.val x.1 .top) env)) else .no) (q.ev fun env => by rw [evS]) fun env τ H1 t o u E s k g q => ?_
  dsimp only at q
  split at q
  · rename_i hc
    simp only [Bool.and_eq_true, decide_eq_true_eq, List.isEmpty_iff] at hc
    obtain ⟨rfl, rfl⟩ := hc
    have g' : Tg env τ H t .top [] := by
      obtain ⟨n1, n2, n3⟩ := g.deep rfl
      refine ⟨g.cov, (fun z => by cases z), fun _ k a xs et => ?_⟩
      subst et
      simp only [T.fp, List.nodup_cons] at n1
      refine ⟨?_, n1.1, fun o hk => ?_⟩
      · rcases g.cov a (by simp [T.fp]) with q | ⟨j, hj, _⟩
        · exact q
        · simp at hj
      · subst hk
        unfold T.plain at n2
        exact n2.1
    have := E.sto s k g' i
    rw [show stoA i t.d .top [] env = setS i (.val t.d .top) env from rfl] at this
    exact q _ _ _ this
  · exact q.elim
theorem seqO_nex : ∀ {is : List Nat} {dp : Bool} {ds : List D} {env : En} {c : Nat}, seqO dp is ds env ≠ .ex c
  | [], dp, [], env, c => by simp [seqO]
  | [], dp, d :: ds, env, c => by simp [seqO]
  | i :: is, dp, [], env, c => by simp [seqO]
  | i :: is, dp, d :: ds, env, c => by unfold seqO; exact seqO_nex
theorem sw_sole {v : Expr} {es : List Expr} {k l : Nat} {p : Pos} {env : PySem.Env} : swapsWithSole [.Tuple es k p] v l env = pure false := by
  show swapsWith v (some (.Tuple es k p)) l env = pure false
  exact sw_tup
theorem ps_unp {is : List Nat} {e : CE} {v : Expr} {ts : List Expr} {kt : Nat} {pt pos : Pos} (g : GoodS X b C.G Pg L C.W sc) (h : namesB b sc is ts = true) (ht : isTupE v = false) (hc : chkE b sc e v = true) : PS X (.Assign [.Tuple ts kt pt] v pos) (tS C (evS Pg n (.unp is e))) := by
  obtain ⟨h1, h2, h3⟩ := names_ok g.e g.fnv h
  refine PS.weak (ps_asg (chkE_ok e v sc X C g.e hc).1 (pg_tup (n := is.length) g.e.calm h1 h2 h3) sw_sole (sto_none ht)) fun De σ H q => ?_
  refine tS.then (g := fun env x => match x.1 with
    | .node .tup ds => (seqO (decide (x.2.1 = .deep)) is ds (after x.2.1 x.2.2 env)).b fun env => .ok (.nx env)
    | _ => .no) (q.ev fun env => by rw [evS] <;> rfl) fun env τ H1 t o u E s k gg q => ?_
  dsimp only at q
  split at q
  · rename_i ds e1
    obtain ⟨tk, a, xs, rfl, d1, d2, d3, d4⟩ := k.node e1
    subst d2
    cases e2 : seqO (decide (o = .deep)) is (T.ds xs) (after o u env) with
    | no => rw [e2] at q; exact q.elim
    | ex c =>
      exact absurd e2 seqO_nex
    | ok env2 =>
      rw [e2, b_ok] at q
      have gk := gg.kids
      have E1 := (E.after o u).same s
      obtain ⟨hl, τ', E2⟩ := seq_ok e2 E1 d4 (gk.covF E) (gk.sep E) (fun hd => by
        have := of_decide_eq_true hd
        subst this
        exact gk.alone E)
      refine ⟨a, xs.map (T.v C.G), rfl, .inl (.inl (d3.tup d1)), by rw [List.length_map]; exact hl.symm, gs_ok (by rw [List.length_map]; exact hl) (q _ _ _ E2)⟩
  · exact q.elim
theorem par_read {is : List Nat} {es : List CE} {De : Ends} {σ : L2.St} {H : Hp} (h : tS C (evS Pg n (.par is es)) De σ H) {k : List V → Hp → Prop}
    (step : ∀ (ts : List T) H1 env2 τ', ts.length = es.length → T.oks C.G H1 ts → is.length = ts.length → EO C.G C.F C.A₀ env2 τ' (setAll is (ts.map (T.v C.G)) σ) H1 → (∀ τ σ H, EO C.G C.F C.A₀ env2 τ σ H → De.nx σ H) → k (ts.map (T.v C.G)) H1) : tA C (evEs Pg es) σ H k := by
  obtain ⟨env, τ, E, q⟩ := h
  refine ⟨env, τ, E, ?_⟩
  rw [evS] at q
  cases e : evEs Pg es env with
  | no => rw [e] at q; exact q
  | ex c => rw [e] at q; exact fun H' s => q σ H' (E.old.trans s)
  | ok r =>
    rw [e, b_ok] at q
    intro H1 ts s kk ed gk
    obtain ⟨ds, o, u⟩ := r
    dsimp only at ed gk q
    subst ed
    cases e2 : seqO (decide (o = .deep)) is (T.ds ts) (after o u env) with
    | no => rw [e2] at q; exact q.elim
    | ex c =>
      exact absurd e2 seqO_nex
    | ok env2 =>
      rw [e2, b_ok] at q
      have E1 := (E.after o u).same s
      obtain ⟨hl, τ', E2⟩ := seq_ok e2 E1 kk (gk.covF E) (gk.sep E) (fun hd => by
        have := of_decide_eq_true hd
        subst this
        exact gk.alone E)
      exact step ts H1 env2 τ' (by rw [← evEs_len e, ds_length]) kk hl E2 q
theorem ps_parE {is : List Nat} {es : List CE} {ts vs : List Expr} {kt k2 : Nat} {pt p2 pos : Pos} (g : GoodS X b C.G Pg L C.W sc) (h : namesB b sc is ts = true) (hl : es.length ≤ 1000) (hc : chkEs b sc es vs = true)
    (hw : ((!(ts.length == 2 || ts.length == 3) || vs.all (foldedForSure 8)) || parN sc ts || parM sc ts vs) = true) : PS X (.Assign [.Tuple ts kt pt] (.Tuple vs k2 p2) pos) (tS C (evS Pg n (.par is es))) := by
  have hk : X.env.scope.kind = .function := by rw [g.e.scope]; exact g.kind
  obtain ⟨h1, h2, h3⟩ := names_ok g.e g.fnv h
  have pa := chkEs_ok es vs sc X C g.e hc
  have none : (((!(ts.length == 2 || ts.length == 3) || vs.all (foldedForSure 8)) || parN sc ts) = true) → PS X (.Assign [.Tuple ts kt pt] (.Tuple vs k2 p2) pos) (tS C (evS Pg n (.par is es))) := fun hw => by
    have hst : swappedStores [.Tuple ts kt pt] (.Tuple vs k2 p2) X.env = pure none := by
      rcases Bool.or_eq_true_iff.mp hw with hw | hw
      · exact sto_long hw
      · obtain ⟨x, px, y, py, rfl, hq⟩ := parN_of hw
        exact sto_cell (by rw [g.e.scope]; exact hq)
    refine PS.weak (ps_asg (pe_tup pa) (pg_tup (n := is.length) g.e.calm h1 h2 h3) sw_sole hst) fun De σ H q => ?_
    refine par_read q fun ts H1 env2 τ' hlen kk hl' E2 q => ?_
    have hlen : (ts.map (T.v C.G)).length ≤ sizeLine := by rw [List.length_map, hlen]; exact Nat.le_of_lt (small1000 hl)
    refine ⟨hlen, fun p np => ?_⟩
    have sp : Same H1 (upd H1 p (.tup (ts.map (T.v C.G)))) := same_upd np
    exact ⟨p, ts.map (T.v C.G), rfl, .inl (.inl upd_same), by rw [List.length_map]; exact hl'.symm, gs_ok (by rw [List.length_map]; exact hl') (q _ _ _ (E2.same sp))⟩
  rcases Bool.or_eq_true_iff.mp hw with hw | hw
  · exact none hw
  · obtain ⟨x, px, y, py, a, c, rfl, rfl, hw2⟩ := parM_of hw
    · cases is with
      | nil => simp [namesB] at h
      | cons i is => cases is with
        | nil => simp [namesB] at h
        | cons j is => cases is with
          | cons k r => simp [namesB] at h
          | nil =>
            have h' : nameL b sc (fun _ => true) i x = true ∧ nameL b sc (fun _ => true) j y = true := by
              simpa [namesB] using h
            obtain ⟨hi, hi2⟩ := nameL_ok g.e h'.1
            obtain ⟨hj, hj2⟩ := nameL_ok g.e h'.2
            have hxy : x ≠ y := by
              unfold parB2 at hw2
              simp only [Bool.and_eq_true, decide_eq_true_eq, Bool.not_eq_true', beq_eq_false_iff_ne] at hw2
              exact hw2.1.1.2
            have hij : i ≠ j := fun z => hxy (by subst z; rw [hi] at hj; exact Option.some.inj hj)
            have l2 : X.env.scope.names.lookup x = some .local ∧ X.env.scope.names.lookup y = some .local := by
              unfold parB2 at hw2
              simp only [Bool.and_eq_true, decide_eq_true_eq] at hw2
              rw [g.e.scope]
              exact ⟨hw2.1.1.1.1.1.2, hw2.1.1.1.1.2⟩
            refine PS.weak (ps_par g.e.calm g.e.nd hi hj hij l2.1 l2.2 pa (sto_two hk (by rw [g.e.scope]; exact hw2)) sw_sole) fun De σ H q => ?_
            refine par_read q fun ts H1 env2 τ' _ kk hl' E2 q => ?_
            match ts, hl', E2 with
            | [t1, t2], hl', E2 => exact ⟨t1.v C.G, t2.v C.G, rfl, q _ _ _ E2⟩
end
end FR

namespace FR
open PySem PySem.Spec L2
section
variable {G : Gs} {F H H1 : Hp} {A₀ : AP} {env : En} {τ : Nat → T} {σ σ' : L2.St} {t : T} {ts : List T} {o o' : Own} {u : List Nat}
theorem after_get {i : Nat} {d : D} (h : i ∉ u) (e : env[i]? = some (some (Sl.val d o))) : (FR.after o' u env)[i]? = some (some (Sl.val d o)) := by
  unfold FR.after
  cases o'
  · exact dem_get.mpr (.inl ⟨d, o, e, by rw [if_neg h]⟩)
  · exact dem_get.mpr (.inl ⟨d, o, e, by rw [if_neg h]⟩)
  · exact kil_get.mpr ⟨h, .inl ⟨d, o, e, rfl⟩⟩
  · exact dem_get.mpr (.inl ⟨d, o, e, by rw [if_neg h]⟩)
/-- what lies in an own list lies nowhere else -/
theorem EO.kidsep {i : Nat} {ds : List D} {a : Addr} {xs : List T} {k : TK} (E : EO G F A₀ env τ σ H) (e : env[i]? = some (some (Sl.val (.node .lst ds) o))) (et : τ i = .node k a xs) :
    ∀ j, j ≠ i → (∀ d, env[j]? = some (some (Sl.val d .top)) → ∀ k a xs', τ j = .node k a xs' → a ∉ T.fps xs) ∧ (isDeep env j → ∀ a ∈ (τ j).fp, a ∉ T.fps xs) := fun j hj =>
  ⟨fun d e' k' a' xs' et' hb => (E.top j d e' k' a' xs' et').2.2.2 i (Ne.symm hj) ⟨_, _, e⟩ (by rw [et]; simp [T.fp, hb]),
    fun dj b hb hc => (E.deep j dj).2.2.2 i (Ne.symm hj) ⟨_, _, e⟩ b hb (by rw [et]; simp [T.fp, hc])⟩
/-- the own list i with others behind it (or among its own) -/
theorem EO.grow {i : Nat} {ds : List D} {a : Addr} {xs ys zs : List T} (E : EO G F A₀ env τ σ H) (e : env[i]? = some (some (Sl.val (.node .lst ds) o))) (ho : o ≠ .sh ∧ o ≠ .bor) (et : τ i = .node (.lst none) a xs) (hx : T.oks G H xs) (hax : a ∉ T.fps xs)
    (s : Same H H1) (kz : T.oks G H1 zs) (g : Tgs env τ H zs o' u) (hi : i ∉ u) (sub : ∀ y ∈ ys, y ∈ xs ∨ y ∈ zs) (nd : (T.fps xs).Nodup → (T.fps zs).Nodup → (∀ b ∈ T.fps xs, b ∉ T.fps zs) → (T.fps ys).Nodup) :
    EO G F A₀ (setS i (.val (.node .lst (T.ds ys)) (if decide (o = .deep) && decide (o' = .deep) then .deep else .top)) (FR.after o' u env)) (FR.put τ i (.node (.lst none) a ys)) σ (upd H1 a (.lst (ys.map (T.v G)))) := by
  have E1 := (E.after o' u).same s
  have e1 := after_get (o' := o') hi e
  have iv : isVal env i := ⟨_, _, e⟩
  have oi : H a ≠ none ∧ ∀ j, j ≠ i → isVal env j → a ∉ (τ j).fp := by
    obtain ⟨w, hw⟩ := (E.ok iv).trk (b := a) (by rw [et]; simp [T.fp])
    refine ⟨by rw [hw]; simp, ?_⟩
    cases o with
    | sh => exact absurd rfl ho.1
    | bor => exact absurd rfl ho.2
    | top => exact (E.top i _ e _ _ _ et).2.2.2
    | deep => exact fun j hj vj => (E.deep i ⟨_, e⟩).2.2.2 j hj vj a (by rw [et]; simp [T.fp])
  have az : a ∉ T.fps zs := fun hz => by
    rcases g.cov a hz with q | ⟨m, hm, vm, qm⟩
    · exact oi.1 q
    · exact oi.2 m (fun z => hi (z ▸ hm)) vm qm
  have mem : ∀ b ∈ T.fps ys, b ∈ T.fps xs ∨ b ∈ T.fps zs := fun b hb => by
    obtain ⟨y, hy, hb⟩ := mem_fps.mp hb
    rcases sub y hy with h | h
    · exact .inl (mem_fps.mpr ⟨y, h, hb⟩)
    · exact .inr (mem_fps.mpr ⟨y, h, hb⟩)
  have cx := E.cov i iv
  rw [et] at cx
  refine E1.write (o := o) e1 ho et (oks_iff.mpr fun y hy => (sub y hy).elim (fun h => (oks_iff.mp hx y h).same s) (oks_iff.mp kz y)) (fun hb => (mem a hb).elim hax az) (fun b hb => (mem b hb).elim (fun h => cx b (by simp [T.fp, h])) (g.covF E b)) (by split <;> simp) (fun hd => ?_) fun j hj => ?_
  · split at hd
    · rename_i hc
      simp only [Bool.and_eq_true, decide_eq_true_eq] at hc
      obtain ⟨rfl, rfl⟩ := hc
      obtain ⟨n, p, w, z⟩ := E.deep i ⟨_, e⟩
      rw [et] at n p w z
      simp only [T.fp, List.nodup_cons] at n
      unfold T.plain at p
      obtain ⟨n2, p2, w2, z2⟩ := g.alone E
      refine ⟨rfl, nd n.2 n2 fun b hb hc => ?_, plains_iff.mpr fun y hy => (sub y hy).elim (plains_iff.mp p.2 y) (plains_iff.mp p2 y), fun b hb => (mem b hb).elim (fun h => w b (by simp [T.fp, h])) (w2 b), fun j hj vj b hb => (mem b hb).elim (fun h => z j hj (after_isVal vj) b (by simp [T.fp, h])) (z2 j vj b)⟩
      rcases g.cov b hc with q | ⟨m, hm, vm, qm⟩
      · exact (E.ok iv).new q (by rw [et]; simp [T.fp, hb])
      · exact z m (fun z => hi (z ▸ hm)) vm b (by simp [T.fp, hb]) qm
    · cases hd
  · have k1 := E.kidsep e et j hj
    have k2 := g.sep E j
    refine ⟨fun d e' k a xs' et' hb => ?_, fun ⟨d, e'⟩ b hb hc => ?_⟩
    · rcases mem a hb with h | h
      · exact k1.1 d (after_own (by simp) e').2 k a xs' et' h
      · exact k2.1 d e' k a xs' et' h
    · rcases mem b hc with h | h
      · exact k1.2 ⟨d, (after_own (by simp) e').2⟩ b hb h
      · exact k2.2 ⟨d, e'⟩ b hb h
end
section
variable {C : CE₀} {X : Cx} {b : Tb} {Pg : Prog} {L n : Nat} {sc : Scope}
theorem mcB_ok {i : Nat} {m x a : Str} {ap cp : Pos} (h : mcB b sc i m x a ap cp = true) : slotB b sc i x = true ∧ a = m ∧ ap.endLine = cp.line := by
  unfold mcB at h
  simp only [Bool.and_eq_true, decide_eq_true_eq] at h
  exact ⟨h.1.1, h.1.2, h.2⟩
theorem tyL {K : PySem.W.Frag} {a : Addr} {H : Hp} {vs : List V} (h : H a = some (.lst vs)) : tyV K "list" (.ref a) H := .inl ⟨rfl, _, .inl (.inl h)⟩
theorem tyR (g : GoodE X b C.G Pg L C.W sc) {tk : TK} {a : Addr} {vs : List V} {H : Hp} (h : objOk C.G H tk a vs) (e : tk.dk = .lst) : tyV X.K "list" (.ref a) H := .inl ⟨rfl, _, by rw [g.K]; exact .inl (h.list e)⟩
/-- behind env[i], a part -/
theorem tS.own {i : Nat} {f : En → Rv} {g : En → List D → Own → (D × Own × List Nat) → R Out} {De : Ends} {σ : L2.St} {H : Hp} {k : V → V → Hp → Prop} (gg : GoodE X b C.G Pg L C.W sc)
    (h : tS C (fun env => match env[i]? with
      | some (some (.val (.node .lst xs) o)) => (f env).b (g env xs o)
      | _ => .no) De σ H)
    (step : ∀ env τ a xs o tk H1 t o' u, EO C.G C.F C.A₀ env τ σ H → env[i]? = some (some (.val (.node .lst (T.ds xs)) o)) → τ i = .node tk a xs → Same H H1 → t.ok C.G H1 → Tg env τ H t o' u → outR C De (g env (T.ds xs) o (t.d, o', u)) → k (.ref a) (t.v C.G) H1) :
    ∃ v, σ[i]? = some (some v) ∧ tyV X.K "list" v H ∧ tE C f σ H fun y H2 => k v y H2 := by
  obtain ⟨env, τ, E, q⟩ := h
  dsimp only at q
  split at q
  · rename_i ds o e
    obtain ⟨e1, e2, e3⟩ := E.val i _ o e
    obtain ⟨tk, a, xs, et, d1, d2, d3, d4⟩ := e2.node e1
    subst d2
    rw [et] at e3
    refine ⟨_, e3, tyR gg d3 d1, ?_⟩
    refine ⟨env, τ, E, ?_⟩
    cases e4 : f env with
    | no => rw [e4] at q; exact q
    | ex c => rw [e4] at q; exact fun H' s => q σ H' (E.old.trans s)
    | ok r =>
      rw [e4, b_ok] at q
      intro H1 t s ok ed tg
      obtain ⟨d, o', u⟩ := r
      dsimp only at ed tg
      subst ed
      exact step env τ a xs o tk H1 t o' u E e et s ok tg q
  · exact q.elim
theorem nodup_app {xs zs : List T} (h1 : (T.fps xs).Nodup) (h2 : (T.fps zs).Nodup) (h : ∀ b ∈ T.fps xs, b ∉ T.fps zs) : (T.fps (xs ++ zs)).Nodup := by
  rw [fps_append]
  exact List.nodup_append.mpr ⟨h1, h2, fun a ha b hb e => h a ha (e ▸ hb)⟩
theorem ps_app {i : Nat} {e : CE} {v : Expr} {x a : Str} {px ap cp pos : Pos} (g : GoodS X b C.G Pg L C.W sc) (h : mcB b sc i "append" x a ap cp = true) (hs : okSt v = true) (hc : chkE b sc e v = true) :
    PS X (.Expr (.Call (.Attribute (.Name x px) a ap) [v] [] cp) pos) (tS C (evS Pg n (.app i e))) := by
  obtain ⟨h1, rfl, hl⟩ := mcB_ok h
  refine PS.weak (ps_expr (pe_bm PySem.F.plainAttrs_list PySem.F.slot_list_append PySem.F.type_list_append mt_append (pe_slot0 g.e h1) (pa_cons (chkE_ok e v sc X C g.e hc).1 pa_nil (okSt_ok hs)) (by rfl) (by rw [okSt_ok hs]; rfl) (by rw [hl]; simp) (okSt_ok hs) (by rfl)) (by rfl)) fun De σ H q => ?_
  refine tS.own g.e (f := evE Pg e) (g := fun env xs o x => if decide (o ≠ .sh ∧ o ≠ .bor) && decide (xs.length < LIM) && !x.2.2.contains i then
        .ok (.nx (setS i (.val (.node .lst (xs ++ [x.1])) (if decide (o = .deep) && decide (x.2.1 = .deep) then .deep else .top)) (after x.2.1 x.2.2 env))) else .no) (q.ev fun env => by rw [evS] <;> rfl) fun env τ a xs o tk H1 t o' u E e1 et s k gg q => ?_
  dsimp only at q
  split at q
  · rename_i hc
    simp only [Bool.and_eq_true, decide_eq_true_eq, Bool.not_eq_true', List.contains_eq_mem, decide_eq_false_iff_not] at hc
    obtain ⟨⟨ho, hlen⟩, hu⟩ := hc
    obtain ⟨a', xs', et', d2, d3, d4, d5, _⟩ := E.own e1 ho
    rw [et] at et'
    cases et'
    have E2 := E.grow (ys := xs ++ [t]) e1 ho et d4 d5 s (zs := [t]) (by unfold T.oks T.oks; exact ⟨k, trivial⟩) gg.one hu (fun y hy => List.mem_append.mp hy) nodup_app
    rw [show T.ds (xs ++ [t]) = T.ds xs ++ [t.d] by simp [ds_map]] at E2
    refine ⟨a, _, _, rfl, rfl, s _ _ d3, ?_, ?_⟩
    · rw [ds_length] at hlen
      rw [List.length_map]; exact hlen
    · have := q _ _ _ E2
      rw [List.map_append] at this
      exact this
  · exact q.elim
theorem ps_ext {i : Nat} {e : CE} {v : Expr} {x a : Str} {px ap cp pos : Pos} (g : GoodS X b C.G Pg L C.W sc) (h : mcB b sc i "extend" x a ap cp = true) (hs : okSt v = true) (hc : chkE b sc e v = true) :
    PS X (.Expr (.Call (.Attribute (.Name x px) a ap) [v] [] cp) pos) (tS C (evS Pg n (.ext i e))) := by
  obtain ⟨h1, rfl, hl⟩ := mcB_ok h
  refine PS.weak (ps_expr (pe_bm PySem.F.plainAttrs_list PySem.F.slot_list_extend PySem.F.type_list_extend mt_extend (pe_slot0 g.e h1) (pa_cons (chkE_ok e v sc X C g.e hc).1 pa_nil (okSt_ok hs)) (by rfl) (by rw [okSt_ok hs]; rfl) (by rw [hl]; simp) (okSt_ok hs) (by rfl)) (by rfl)) fun De σ H q => ?_
  refine tS.own g.e (f := evE Pg e) (g := fun env xs o x => match x.1 with
      | .node .lst ys => if decide (o ≠ .sh ∧ o ≠ .bor) && decide (x.2.1 ≠ .sh ∧ x.2.1 ≠ .bor) && decide (xs.length + ys.length ≤ LIM) && !x.2.2.contains i then
        .ok (.nx (setS i (.val (.node .lst (xs ++ ys)) (if decide (o = .deep) && decide (x.2.1 = .deep) then .deep else .top)) (after x.2.1 x.2.2 env))) else .no
      | _ => .no) (q.ev fun env => by rw [evS] <;> rfl) fun env τ a xs o tk H1 t o' u E e1 et s k gg q => ?_
  dsimp only at q
  split at q
  · rename_i ys et2
    split at q
    · rename_i hc
      simp only [Bool.and_eq_true, decide_eq_true_eq, Bool.not_eq_true', List.contains_eq_mem, decide_eq_false_iff_not] at hc
      obtain ⟨⟨⟨ho, ho'⟩, hlen⟩, hu⟩ := hc
      obtain ⟨a', xs', et', d2, d3, d4, d5, _⟩ := E.own e1 ho
      rw [et] at et'
      cases et'
      obtain ⟨tk, p, zs, rfl, f1, rfl, f3, f4⟩ := k.node et2
      have fz : tk = .lst none := by
        cases tk with
        | lst fz => cases fz with
          | none => rfl
          | some z =>
            cases o' with
            | sh => exact absurd rfl ho'.1
            | bor => exact absurd rfl ho'.2
            | top => exact absurd rfl ((gg.top rfl _ _ _ rfl).2.2 z)
            | deep =>
              have := (gg.deep rfl).2.1
              unfold T.plain at this
              exact this.1.elim
        | tup => cases f1
        | ins c dx => cases f1
      subst fz
      have E2 := E.grow (ys := xs ++ zs) e1 ho et d4 d5 s (zs := zs) f4 gg.kids hu (fun y hy => List.mem_append.mp hy) nodup_app
      rw [show T.ds (xs ++ zs) = T.ds xs ++ T.ds zs by simp [ds_map]] at E2
      refine ⟨a, p, _, _, rfl, rfl, s _ _ d3, f3, ?_, ?_⟩
      · rw [ds_length, ds_length] at hlen
        rw [List.length_map, List.length_map]; exact hlen
      · have := q _ _ _ E2
        rw [List.map_append] at this
        exact this
    · exact q.elim
  · exact q.elim
theorem map_erase {α β : Type} {f : α → β} : ∀ {xs : List α} {k : Nat}, (xs.eraseIdx k).map f = (xs.map f).eraseIdx k
  | [], k => by simp
  | x :: xs, 0 => by simp
  | x :: xs, k + 1 => by simp [map_erase (xs := xs)]
theorem ds_erase {xs : List T} {k : Nat} : T.ds (xs.eraseIdx k) = (T.ds xs).eraseIdx k := by
  rw [ds_map, ds_map]
  induction xs generalizing k with
  | nil => simp
  | cons x xs ih => cases k <;> simp [ih]
theorem erase_apart {xs : List T} {k : Nat} {y : T} (h : xs[k]? = some y) (n : (T.fps xs).Nodup) : y.fp.Nodup ∧ ∀ a ∈ y.fp, a ∉ T.fps (xs.eraseIdx k) := by
  induction xs generalizing k with
  | nil => simp at h
  | cons x xs ih =>
    simp only [T.fps] at n
    obtain ⟨n1, n2, n3⟩ := List.nodup_append.mp n
    cases k with
    | zero =>
      simp only [List.getElem?_cons_zero, Option.some.injEq] at h
      subst h
      exact ⟨n1, fun a ha hb => n3 a ha a (by simpa using hb) rfl⟩
    | succ k =>
      simp only [List.getElem?_cons_succ] at h
      obtain ⟨i1, i2⟩ := ih h n2
      refine ⟨i1, fun a ha hb => ?_⟩
      simp only [List.eraseIdx_cons_succ, T.fps, List.mem_append] at hb
      rcases hb with hb | hb
      · exact n3 a hb a (mem_fps.mpr ⟨y, List.mem_of_getElem? h, ha⟩) rfl
      · exact i2 a ha hb
/-- one is taken out -/
theorem EO.popped {F : Hp} {A₀ : AP} {env : En} {τ : Nat → T} {σ : L2.St} {H : Hp} {G : Gs} {i dst k : Nat} {a : Addr} {xs : List T} {o : Own} {y : T} (E : EO G F A₀ env τ σ H) (e : env[i]? = some (some (Sl.val (.node .lst (T.ds xs)) o))) (ho : o ≠ .sh ∧ o ≠ .bor) (et : τ i = .node (.lst none) a xs) (hx : T.oks G H xs) (hax : a ∉ T.fps xs)
    (hk : xs[k]? = some y) (hid : i ≠ dst) : ∃ τ', EO G F A₀ (setS dst (.val y.d (if y.d.flat then .deep else if o = .deep then .deep else .sh)) (setS i (.val (.node .lst ((T.ds xs).eraseIdx k)) o) env)) τ' (σ.set dst (some (y.v G))) (upd H a (.lst ((xs.eraseIdx k).map (T.v G)))) := by
  have iv : isVal env i := ⟨_, _, e⟩
  have cx := E.cov i iv
  rw [et] at cx
  have sub : (xs.eraseIdx k).Sublist xs := List.eraseIdx_sublist ..
  have mem : ∀ b ∈ T.fps (xs.eraseIdx k), b ∈ T.fps xs := fun b hb => (fps_sub sub).subset hb
  have ym : ∀ b ∈ y.fp, b ∈ T.fps xs := fun b hb => mem_fps.mpr ⟨y, List.mem_of_getElem? hk, hb⟩
  have E1 := E.write (o' := o) (ys := xs.eraseIdx k) e ho et (oks_iff.mpr fun z hz => oks_iff.mp hx z (sub.subset hz)) (fun hb => hax (mem a hb)) (fun b hb => cx b (by simp [T.fp, mem b hb])) ho (fun hd => by
    subst hd
    obtain ⟨n, p, w, z⟩ := E.deep i ⟨_, e⟩
    rw [et] at n p w z
    simp only [T.fp, List.nodup_cons] at n
    unfold T.plain at p
    exact ⟨rfl, n.2.sublist (fps_sub sub), plains_iff.mpr fun y hy => plains_iff.mp p.2 y (sub.subset hy), fun b hb => w b (by simp [T.fp, mem b hb]), fun j hj vj b hb => z j hj vj b (by simp [T.fp, mem b hb])⟩)
    fun j hj => ⟨fun d e' k a' xs' et' hb => (E.kidsep e et j hj).1 d e' k a' xs' et' (mem _ hb), fun dj b hb hc => (E.kidsep e et j hj).2 dj b hb (mem _ hc)⟩
  rw [ds_erase] at E1
  have ky := oks_iff.mp hx y (List.mem_of_getElem? hk)
  have ky' : y.ok G (upd H a (.lst ((xs.eraseIdx k).map (T.v G)))) := ky.keep fun b hb w hw => by
    rw [upd_ne (fun z => hax (by rw [← z]; exact ym b hb))]; exact hw
  have hi : i < env.length := (List.getElem?_eq_some_iff.mp e).1
  refine ⟨_, E1.put (σ' := σ.set dst (some (y.v G))) (i := dst) (t := y) (by rw [List.length_set]) (fun h => by rw [List.getElem?_set_self (by rw [E1.len]; exact h)]) (fun j s hj _ => by rw [List.getElem?_set_ne (Ne.symm hj)]) ky' (fun b hb => cx b (by simp [T.fp, ym b hb])) ?_ fun j hj => ?_⟩
  · by_cases f : y.d.flat = true
    · rw [if_pos f]
      obtain ⟨f1, f2⟩ := flat_fp ky f
      exact ⟨by rw [f1]; exact List.nodup_nil, by rw [f2]; simp [T.plain], by rw [f1]; simp, by rw [f1]; simp⟩
    · rw [if_neg f]
      by_cases hd : o = .deep
      · rw [if_pos hd]
        subst hd
        obtain ⟨n, p, w, z⟩ := E.deep i ⟨_, e⟩
        rw [et] at n p w z
        simp only [T.fp, List.nodup_cons] at n
        unfold T.plain at p
        obtain ⟨y1, y2⟩ := erase_apart hk n.2
        refine ⟨y1, plains_iff.mp p.2 y (List.mem_of_getElem? hk), fun b hb => w b (by simp [T.fp, ym b hb]), fun j hj vj b hb hc => ?_⟩
        by_cases hji : j = i
        · subst hji
          rw [put_self] at hc
          simp only [T.fp, List.mem_cons] at hc
          rcases hc with rfl | hc
          · exact n.1 (ym _ hb)
          · exact y2 b hb hc
        · rw [put_ne hji] at hc
          exact z j hji ((setS_isVal hji).mp vj) b (by simp [T.fp, ym b hb]) hc
      · rw [if_neg hd]; trivial
  · by_cases hji : j = i
    · subst hji
      refine ⟨fun d e' k' a' xs' et' hb => ?_, fun ⟨d, e'⟩ b hb hc => ?_⟩
      · rw [put_self] at et'
        cases et'
        exact hax (ym _ hb)
      · rw [setS_self hi] at e'
        simp only [Option.some.injEq, Sl.val.injEq] at e'
        obtain ⟨n, p, w, z⟩ := E.deep j ⟨_, by rw [e'.2] at e; exact e⟩
        rw [et] at n
        simp only [T.fp, List.nodup_cons] at n
        rw [put_self] at hb
        simp only [T.fp, List.mem_cons] at hb
        rcases hb with rfl | hb
        · exact n.1 (ym _ hc)
        · exact (erase_apart hk n.2).2 b hc hb
    · rw [put_ne hji]
      refine ⟨fun d e' k' a' xs' et' hb => (E.kidsep e et j hji).1 d ((setS_val hji).mp e') k' a' xs' et' (ym _ hb), fun ⟨d, e'⟩ b hb hc => (E.kidsep e et j hji).2 ⟨d, (setS_val hji).mp e'⟩ b hb (ym _ hc)⟩
theorem ps_popT {dst i : Nat} {e : CE} {v : Expr} {x y a : Str} {px py ap cp pos : Pos} (g : GoodS X b C.G Pg L C.W sc) (hy : nameL b sc (fun _ => true) dst y = true) (h : mcB b sc i "pop" x a ap cp = true) (hs : okSt v = true) (hc : chkE b sc e v = true) :
    PS X (.Assign [.Name y py] (.Call (.Attribute (.Name x px) a ap) [v] [] cp) pos) (tS C (evS Pg n (.popT dst i e))) := by
  obtain ⟨h1, rfl, hl⟩ := mcB_ok h
  obtain ⟨y1, y2⟩ := nameL_ok g.e hy
  refine PS.weak (ps_set (i := dst) g.e.nd y1 y2 (pe_bm PySem.F.plainAttrs_list PySem.F.slot_list_pop PySem.F.type_list_pop mt_popAt (pe_slot0 g.e h1) (pa_cons (chkE_ok e v sc X C g.e hc).1 pa_nil (okSt_ok hs)) (by rfl) (by rw [okSt_ok hs]; rfl) (by rw [hl]; simp) (okSt_ok hs) (by rfl)) (sw_plain rfl) (.inl (g.fnv _))) fun De σ H q => ?_
  refine tS.own g.e (f := evE Pg e) (g := fun env xs o x => match x.1 with
      | .int j => if decide (o ≠ .sh ∧ o ≠ .bor) && decide (0 ≤ j) && decide (j < 16777216) && decide (i ≠ dst) then match xs[j.toNat]? with
        | some d => .ok (.nx (setS dst (.val d (if d.flat then .deep else if o = .deep then .deep else .sh)) (setS i (.val (.node .lst (xs.eraseIdx j.toNat)) o) env)))
        | none => .no else .no
      | _ => .no) (q.ev fun env => by rw [evS] <;> rfl) fun env τ a xs o tk H1 t o' u E e1 et s k gg q => ?_
  dsimp only at q
  split at q
  · rename_i j ej
    split at q
    · rename_i hc
      simp only [Bool.and_eq_true, decide_eq_true_eq] at hc
      obtain ⟨⟨⟨ho, hj0⟩, hj1⟩, hid⟩ := hc
      obtain ⟨a', xs', et', d2, d3, d4, d5, _⟩ := E.own e1 ho
      rw [et] at et'
      cases et'
      rw [ds_get] at q
      cases hk : xs[j.toNat]? with
      | none => rw [hk] at q; exact q.elim
      | some yy =>
        rw [hk] at q
        obtain ⟨τ', E2⟩ := (E.same s).popped e1 ho et (oks_same d4 s) d5 hk hid
        have hlt : j.toNat < xs.length := (List.getElem?_eq_some_iff.mp hk).1
        refine ⟨a, _, j, j.toNat, yy.v C.G, rfl, by rw [int_of k ej], s _ _ d3, by omega, by omega, ?_, by rw [List.getElem?_map, hk]; rfl, ?_⟩
        · unfold seqIndex?
          rw [List.length_map, if_neg (show ¬ j < 0 by omega), if_pos (by simp; omega)]
        · have := q _ _ _ E2
          rw [map_erase] at this
          exact this
    · exact q.elim
  · exact q.elim
theorem drop_erase {α : Type} : ∀ {xs : List α}, xs ≠ [] → xs.dropLast = xs.eraseIdx (xs.length - 1)
  | [], h => absurd rfl h
  | [x], _ => rfl
  | x :: y :: xs, _ => by
    simp only [List.dropLast_cons_cons, List.length_cons, Nat.add_sub_cancel]
    rw [drop_erase (xs := y :: xs) (by simp)]
    simp
theorem ps_popL {dst i : Nat} {x y a : Str} {px py ap cp pos : Pos} (g : GoodS X b C.G Pg L C.W sc) (hy : nameL b sc (fun _ => true) dst y = true) (h : mcB b sc i "pop" x a ap cp = true) :
    PS X (.Assign [.Name y py] (.Call (.Attribute (.Name x px) a ap) [] [] cp) pos) (tS C (evS Pg n (.popL dst i))) := by
  obtain ⟨h1, rfl, hl⟩ := mcB_ok h
  obtain ⟨y1, y2⟩ := nameL_ok g.e hy
  refine PS.weak (ps_set (i := dst) g.e.nd y1 y2 (pe_bm0 PySem.F.plainAttrs_list PySem.F.slot_list_pop PySem.F.type_list_pop mt_pop (pe_slot0 g.e h1) (by rfl) (by rw [hl]; simp)) (sw_plain rfl) (.inl (g.fnv _))) fun De σ H ⟨env, τ, E, q⟩ => ?_
  rw [evS] at q
  split at q
  · rename_i ds o e1
    split at q
    · rename_i hc
      simp only [Bool.and_eq_true, decide_eq_true_eq] at hc
      obtain ⟨ho, hid⟩ := hc
      obtain ⟨a, xs, et, d2, d3, d4, d5, d6, _⟩ := E.own e1 ho
      subst d2
      rw [ds_get] at q
      rw [ds_length] at q
      cases hk : xs[xs.length - 1]? with
      | none => rw [hk] at q; exact q.elim
      | some yy =>
        rw [hk] at q
        obtain ⟨τ', E2⟩ := E.popped e1 ho et d4 d5 hk hid
        have hne : xs ≠ [] := fun z => by rw [z] at hk; simp at hk
        have hne2 : T.ds xs ≠ [] := fun z => hne (List.length_eq_zero_iff.mp (by rw [← ds_length, z]; rfl))
        have hne3 : xs.map (T.v C.G) ≠ [] := fun z => hne (List.map_eq_nil_iff.mp z)
        refine ⟨_, d6, tyL d3, a, _, yy.v C.G, rfl, rfl, d3, by rw [List.length_map, List.getElem?_map, hk]; rfl, ?_⟩
        rw [drop_erase hne3, List.length_map, ← map_erase]
        rw [drop_erase hne2, ds_length] at q
        exact q _ _ _ E2
    · exact q.elim
  · exact q.elim
theorem ds_set {xs : List T} {j : Nat} {t : T} : T.ds (xs.set j t) = (T.ds xs).set j t.d := by
  rw [ds_map, ds_map, List.map_set]
theorem nodup_set {xs : List T} {t : T} : ∀ {j : Nat}, (T.fps xs).Nodup → t.fp.Nodup → (∀ b ∈ T.fps xs, b ∉ t.fp) → (T.fps (xs.set j t)).Nodup := by
  induction xs with
  | nil => intro j h _ _; simp [T.fps]
  | cons x xs ih =>
    intro j h1 h2 h3
    simp only [T.fps] at h1 h3
    obtain ⟨n1, n2, n3⟩ := List.nodup_append.mp h1
    cases j with
    | zero =>
      simp only [List.set_cons_zero, T.fps]
      exact List.nodup_append.mpr ⟨h2, n2, fun a ha b hb e => h3 b (List.mem_append_right _ hb) (e ▸ ha)⟩
    | succ j =>
      simp only [List.set_cons_succ, T.fps]
      refine List.nodup_append.mpr ⟨n1, ih n2 h2 fun b hb => h3 b (List.mem_append_right _ hb), fun a ha b hb e => ?_⟩
      subst e
      obtain ⟨z, hz, hb'⟩ := mem_fps.mp hb
      rcases List.mem_or_eq_of_mem_set hz with hz | rfl
      · exact n3 a ha a (mem_fps.mpr ⟨z, hz, hb'⟩) rfl
      · exact h3 a (List.mem_append_left _ ha) hb'
theorem ps_seti {i : Nat} {a e : CE} {v r : Expr} {x : Str} {px sp pos : Pos} (g : GoodS X b C.G Pg L C.W sc) (h : slotB b sc i x = true) (hr : plainIx r = true) (hp : plainC v = true) (ha : chkE b sc a r = true) (hc : chkE b sc e v = true) :
    PS X (.Assign [.Subscript (.Name x px) r sp] v pos) (tS C (evS Pg n (.seti i a e))) := by
  have hset : ∀ u, assign (.Subscript (.Name x px) r sp) X.env u = (do
      let ov ← holding [u] (eval (.Name x px) X.env)
      let iv ← holding [u, ov] (eval r X.env)
      standAt sp
      holding [u, ov, iv] (setItem ov iv u)
      release [u, ov, iv] []) := fun u => by cases r <;> first | rfl | cases hr
  refine PS.weak (ps_asg (chkE_ok e v sc X C g.e hc).1 (pg_sub (pe_slot0 g.e h) (chkE_ok a r sc X C g.e ha).1 set_list hset) (show swapsWith v (some (.Subscript (.Name x px) r sp)) pos.line X.env = pure false from sw_plain hp) sto_sub (by cases r <;> first | rfl | cases hr)) fun De σ H q => ?_
  refine tS.then (g := fun env x => match env[i]? with
    | some (some (.val (.node .lst xs) o)) => (evE Pg a env).b fun y => match y.1 with
      | .int j => if decide (o ≠ .sh ∧ o ≠ .bor) && !x.2.2.contains i then match L2.ixN xs.length j with
        | some j => .ok (.nx (setS i (.val (.node .lst (xs.set j x.1)) (if decide (o = .deep) && decide (x.2.1 = .deep) then .deep else .top)) (after x.2.1 x.2.2 env)))
        | none => .no else .no
      | _ => .no
    | _ => .no) (q.ev fun env => by rw [evS] <;> rfl) fun env τ H1 t o' u E s k gg q => ?_
  dsimp only at q
  split at q
  · rename_i ds o e1
    obtain ⟨f1, f2, f3⟩ := E.val i _ o e1
    refine ⟨_, f3, env, τ, E.same s, ?_⟩
    cases e2 : evE Pg a env with
    | no => rw [e2] at q; exact q
    | ex c => rw [e2] at q; exact fun H' s' => q σ H' (E.old.trans (s.trans s'))
    | ok ry =>
      rw [e2, b_ok] at q
      intro H2 t' s2 k2 ed _
      obtain ⟨dy, o2, u2⟩ := ry
      dsimp only at ed q
      subst ed
      split at q
      · rename_i j ej
        split at q
        · rename_i hc
          simp only [Bool.and_eq_true, decide_eq_true_eq, Bool.not_eq_true', List.contains_eq_mem, decide_eq_false_iff_not] at hc
          obtain ⟨ho, hu⟩ := hc
          obtain ⟨p, xs, et, d2, d3, d4, d5, d6, _⟩ := E.own e1 ho
          subst d2
          rw [ds_length] at q
          cases hj : L2.ixN xs.length j with
          | none => rw [hj] at q; exact q.elim
          | some jj =>
            rw [hj] at q
            have E2 := E.grow (ys := xs.set jj t) e1 ho et d4 d5 (s.trans s2) (zs := [t]) (by unfold T.oks T.oks; exact ⟨k.same s2, trivial⟩) gg.one hu (fun y hy => by
              rcases List.mem_or_eq_of_mem_set hy with hy | rfl
              · exact .inl hy
              · exact .inr (by simp)) fun n1 n2 n3 => by
                simp only [T.fps, List.append_nil] at n2 n3
                exact nodup_set n1 n2 n3
            rw [ds_set] at E2
            refine ⟨p, _, j, jj, by rw [et]; rfl, int_of k2 ej, s2 _ _ (s _ _ d3), by rw [List.length_map]; exact hj, ?_⟩
            have := q _ _ _ E2
            rw [List.map_set] at this
            exact this
        · exact q.elim
      · exact q.elim
  · exact q.elim
theorem int_v {H : Hp} {t : T} {i : Int} (k : t.ok C.G H) (e : t.d = .int i) : t.v C.G = .int i := int_of k e
theorem ps_augE {i : Nat} {op : BO} {o : Operator} {e : CE} {v : Expr} {x : Str} {px pos : Pos} (g : GoodS X b C.G Pg L C.W sc) (h : nameL b sc (fun _ => true) i x = true) (ho : opB op o = true) (ha : augOk op = true) (hc : chkE b sc e v = true) :
    PS X (.AugAssign (.Name x px) o v pos) (tS C (evS Pg n (.aug i op e))) := by
  obtain ⟨h1, h2⟩ := nameL_ok g.e h
  have eo : opO op = o := of_decide_eq_true ho
  subst eo
  have hop : op = .add ∨ op = .sub ∨ op = .mul ∨ op = .fdiv := by cases op <;> simp [augOk] at ha ⊢
  refine PS.weak (ps_aug g.e.nd h1 h2 (chkE_ok e v sc X C g.e hc).1 (ti := rInt op) (fun pins s σ H x y v u Q I rx ry q => iop_int op hop pins s σ H x y v u Q I rx ry q) (.inl (g.fnv _))) fun De σ H ⟨env, τ, E, q⟩ => ?_
  rw [evS] at q
  split at q
  · rename_i a o e1
    obtain ⟨f1, f2, f3⟩ := E.val i _ o e1
    refine ⟨_, f3, env, τ, E, ?_⟩
    cases e2 : evE Pg e env with
    | no => rw [e2] at q; exact q
    | ex c => rw [e2] at q; exact fun H' s' => q σ H' (E.old.trans s')
    | ok ry =>
      rw [e2, b_ok] at q
      intro H1 t s k ed gg
      obtain ⟨dy, o2, u2⟩ := ry
      dsimp only at ed q
      subst ed
      split at q
      · rename_i j ej
        cases ez : binI op a j with
        | none => rw [ez] at q; exact q.elim
        | some z =>
          rw [ez] at q
          refine ⟨a, j, z, int_of f2 f1, int_of k ej, ez, ?_⟩
          have E2 := E.sto (t := .leaf (.int z)) (o := .deep) (u := []) s (by unfold T.ok; rfl) .leaf i
          rw [show stoA i (T.leaf (.int z)).d .deep [] env = setS i (.val (.int z) .deep) env from rfl] at E2
          exact q _ _ _ E2
      · exact q.elim
  · exact q.elim
/-- an own list is rewritten within -/
theorem EO.redo {F : Hp} {A₀ : AP} {env : En} {τ : Nat → T} {σ : L2.St} {H H' : Hp} {G : Gs} {i : Nat} {d : D} {t : T} (E : EO G F A₀ env τ σ H) (e : env[i]? = some (some (Sl.val d .deep))) (hH : ∀ c o, H c = some o → c ∉ (τ i).fp → H' c = some o) (k : t.ok G H') (hv : t.v G = (τ i).v G)
    (n : t.fp.Nodup) (p : t.plain) (w : ∀ c ∈ t.fp, F c = none) (z : ∀ j, j ≠ i → isVal env j → ∀ c ∈ t.fp, c ∉ (τ j).fp) : EO G F A₀ (setS i (.val t.d .deep) env) (FR.put τ i t) σ H' := by
  obtain ⟨n0, p0, w0, z0⟩ := E.deep i ⟨d, e⟩
  have E0 := E.kil [i]
  have v0 : ∀ j, isVal (FR.kil [i] env) j → j ≠ i ∧ isVal env j := fun j vj => by
    obtain ⟨h1, h2⟩ := kil_isVal.mp vj
    exact ⟨by simpa using h1, h2⟩
  have E1 := E0.heap (H' := H') (fun j vj c hc o e' => by
    obtain ⟨h1, h2⟩ := v0 j vj
    exact hH c o e' fun hi => z0 j h1 h2 c hi hc) (fun c o e' => hH c o (E.old c o e') fun hi => by rw [w0 c hi] at e'; cases e')
  have sg : ∀ j d o, (FR.kil [i] env)[j]? = some (some (Sl.val d o)) → j ≠ i ∧ env[j]? = some (some (Sl.val d o)) := fun j d o e' => by
    obtain ⟨h, ⟨d', o'', e'', q⟩ | ⟨m, p, _, _, q⟩⟩ := kil_get.mp e'
    · cases q; exact ⟨by simpa using h, e''⟩
    · cases q
  have hσ := (E.val i d _ e).2.2
  rw [← setS_kil]
  refine E1.put rfl (fun _ => by rw [hσ, hv]) (fun _ _ _ _ => rfl) k (fun c hc => .inl (w c hc)) ⟨n, p, w, fun j hj vj => z j hj (v0 j vj).2⟩ fun j hj => ⟨fun d' e' k' a' xs' et' hb => ?_, fun ⟨d', e'⟩ c hc hb => ?_⟩
  · obtain ⟨_, e2⟩ := sg j d' _ e'
    exact z j hj ⟨_, _, e2⟩ a' hb (by rw [et']; simp [T.fp])
  · obtain ⟨_, e2⟩ := sg j d' _ e'
    exact z j hj ⟨_, _, e2⟩ c hb hc
theorem fps_set {xs : List T} {j : Nat} {t : T} {a : Addr} (h : a ∈ T.fps (xs.set j t)) : a ∈ T.fps xs ∨ a ∈ t.fp := by
  obtain ⟨z, hz, hb⟩ := mem_fps.mp h
  rcases List.mem_or_eq_of_mem_set hz with hz | rfl
  · exact .inl (mem_fps.mpr ⟨z, hz, hb⟩)
  · exact .inr hb
/-- one item changed to one of its own addresses and of new ones -/
theorem nodup_swap {xs : List T} {y t : T} : ∀ {j : Nat}, xs[j]? = some y → (T.fps xs).Nodup → t.fp.Nodup → (∀ c ∈ t.fp, c ∈ y.fp ∨ c ∉ T.fps xs) → (T.fps (xs.set j t)).Nodup := by
  induction xs with
  | nil => intro j h; simp at h
  | cons x xs ih =>
    intro j h n1 n2 hs
    simp only [T.fps] at n1
    obtain ⟨m1, m2, m3⟩ := List.nodup_append.mp n1
    cases j with
    | zero =>
      simp only [List.getElem?_cons_zero, Option.some.injEq] at h
      subst h
      simp only [List.set_cons_zero, T.fps]
      refine List.nodup_append.mpr ⟨n2, m2, fun a ha c hc e => ?_⟩
      subst e
      rcases hs a ha with h | h
      · exact m3 a h a hc rfl
      · exact h (by simp only [T.fps]; exact List.mem_append_right _ hc)
    | succ j =>
      simp only [List.getElem?_cons_succ] at h
      simp only [List.set_cons_succ, T.fps]
      have hy : ∀ c ∈ y.fp, c ∈ T.fps xs := fun c hc => mem_fps.mpr ⟨y, List.mem_of_getElem? h, hc⟩
      refine List.nodup_append.mpr ⟨m1, ih h m2 n2 fun c hc => (hs c hc).imp id fun q hq => q (by simp only [T.fps]; exact List.mem_append_right _ hq), fun a ha c hc e => ?_⟩
      subst e
      rcases fps_set hc with hc | hc
      · exact m3 a ha a hc rfl
      · rcases hs a hc with h2 | h2
        · exact m3 a ha a (hy a h2) rfl
        · exact h2 (by simp only [T.fps]; exact List.mem_append_left _ ha)
theorem ps_appAt {i : Nat} {a e : CE} {v r : Expr} {x m : Str} {px sp ap cp pos : Pos} (g : GoodS X b C.G Pg L C.W sc) (h : mcB b sc i "append" x m ap cp = true) (hr : plainIx r = true) (hs : okSt v = true) (ha : chkE b sc a r = true) (hc : chkE b sc e v = true) :
    PS X (.Expr (.Call (.Attribute (.Subscript (.Name x px) r sp) m ap) [v] [] cp) pos) (tS C (evS Pg n (.appAt i a e))) := by
  obtain ⟨h1, rfl, hl⟩ := mcB_ok h
  refine PS.weak (ps_expr (pe_bm PySem.F.plainAttrs_list PySem.F.slot_list_append PySem.F.type_list_append mt_append (pe_ix ix_list (pe_slot0 g.e h1) (chkE_ok a r sc X C g.e ha).1 (plainIx_ok hr)) (pa_cons (chkE_ok e v sc X C g.e hc).1 pa_nil (okSt_ok hs)) (by rfl) (by rw [okSt_ok hs]; rfl) (by rw [hl]; simp) (okSt_ok hs) (by rfl)) (by rfl)) fun De σ H ⟨env, τ, E, q⟩ => ?_
  rw [evS] at q
  split at q
  · rename_i ds e1
    obtain ⟨p, xs, et, d2, d3, d4, d5, d6, _⟩ := E.own e1 (by simp)
    subst d2
    refine ⟨_, d6, env, τ, E, ?_⟩
    cases e2 : evE Pg a env with
    | no => rw [e2] at q; exact q
    | ex c => rw [e2] at q; exact fun H' s' => q σ H' (E.old.trans s')
    | ok ry =>
      rw [e2, b_ok] at q
      intro H1 t1 s1 k1 ed1 _
      obtain ⟨dy, o1, u1⟩ := ry
      dsimp only at ed1 q
      subst ed1
      split at q
      · rename_i j ej
        rw [ds_length] at q
        split at q
        · rename_i kk hk
          split at q
          · rename_i ys hy
            rw [ds_get] at hy
            cases hx : xs[kk]? with
            | none => rw [hx] at hy; cases hy
            | some y =>
              rw [hx] at hy
              simp only [Option.map_some, Option.some.injEq] at hy
              have yk := oks_iff.mp d4 y (List.mem_of_getElem? hx)
              obtain ⟨n0, p0, w0, z0⟩ := E.deep i ⟨_, e1⟩
              rw [et] at n0 p0 w0 z0
              simp only [T.fp, List.nodup_cons] at n0
              unfold T.plain at p0
              obtain ⟨tk, c, zs, rfl, f1, rfl, f3, f4⟩ := yk.node hy
              have yp := plains_iff.mp p0.2 _ (List.mem_of_getElem? hx)
              have fz : tk = .lst none := by
                cases tk with
                | lst fz => cases fz with
                  | none => rfl
                  | some z => unfold T.plain at yp; exact yp.1.elim
                | tup => cases f1
                | ins c dx => cases f1
              subst fz
              have ym : ∀ b ∈ (T.node (.lst none) c zs).fp, b ∈ T.fps xs := fun b hb => mem_fps.mpr ⟨_, List.mem_of_getElem? hx, hb⟩
              have f3' : H c = some (.lst (zs.map (T.v C.G))) := f3
              refine ⟨p, _, j, .ref c, rfl, int_of k1 ej, by rw [g.e.K]; exact .inl (.inl (s1 _ _ d3)), ?_, tyL (s1 _ _ f3'), env, τ, E.same s1, ?_⟩
              · unfold L2.atI
                rw [List.length_map, hk]
                show (xs.map (T.v C.G))[kk]? = _
                rw [List.getElem?_map, hx]; rfl
              · cases e3 : evE Pg e env with
                | no => rw [e3] at q; exact q
                | ex c => rw [e3] at q; exact fun H' s' => q σ H' (E.old.trans (s1.trans s'))
                | ok rx =>
                  rw [e3, b_ok] at q
                  intro H2 t s2 k2 ed gg
                  obtain ⟨dx, o', u⟩ := rx
                  dsimp only at ed gg q
                  subst ed
                  split at q
                  · rename_i hcond
                    simp only [Bool.and_eq_true, decide_eq_true_eq, Bool.not_eq_true', List.contains_eq_mem, decide_eq_false_iff_not] at hcond
                    obtain ⟨⟨rfl, hlen⟩, hu⟩ := hcond
                    have E' := (E.same s1)
                    have gg : Tg env τ H1 t .deep u := gg
                    obtain ⟨tn, tp, tw, tz⟩ := gg.one.alone E'
                    simp only [T.fps, List.append_nil, T.plains, and_true] at tn tp tw tz
                    have e1' := after_get (o' := .deep) hu e1
                    have E2 := (E'.after .deep u).same s2
                    have cn : ∀ b ∈ t.fp, b ∉ (τ i).fp := fun b hb => tz i ⟨_, _, e1'⟩ b hb
                    rw [et] at cn
                    have zsn : (c :: T.fps zs).Nodup := by
                      have := (erase_apart hx n0.2).1
                      simpa [T.fp] using this
                    let t2 : T := .node (.lst none) c (zs ++ [t])
                    let t3 : T := .node (.lst none) p (xs.set kk t2)
                    have t2fp : ∀ b ∈ t2.fp, b ∈ (T.node (.lst none) c zs).fp ∨ b ∈ t.fp := fun b hb => by
                      simp only [t2, T.fp, fps_append, T.fps, List.append_nil, List.mem_cons, List.mem_append] at hb ⊢
                      rcases hb with hb | hb | hb
                      · exact .inl (.inl hb)
                      · exact .inl (.inr hb)
                      · exact .inr hb
                    have t3fp : ∀ b ∈ t3.fp, b ∈ (τ i).fp ∨ b ∈ t.fp := fun b hb => by
                      rw [et]
                      simp only [t3, T.fp, List.mem_cons] at hb ⊢
                      rcases hb with rfl | hb
                      · exact .inl (.inl rfl)
                      · rcases fps_set hb with hb | hb
                        · exact .inl (.inr hb)
                        · rcases t2fp b hb with hb | hb
                          · exact .inl (.inr (ym b hb))
                          · exact .inr hb
                    have pc : p ≠ c := fun z => n0.1 (ym p (by rw [z]; simp [T.fp]))
                    have hup : ∀ b, b ≠ c → (upd H2 c (.lst ((zs ++ [t]).map (T.v C.G)))) b = H2 b := fun b hb => upd_ne hb
                    have H'keep : ∀ {z : T}, z.ok C.G H2 → c ∉ z.fp → z.ok C.G (upd H2 c (.lst ((zs ++ [t]).map (T.v C.G)))) := fun {z} kz hz => kz.keep fun b hb w hw => by
                      rw [hup b (fun e => hz (e ▸ hb))]; exact hw
                    have t2ok : t2.ok C.G (upd H2 c (.lst ((zs ++ [t]).map (T.v C.G)))) := by
                      unfold t2 T.ok
                      refine ⟨upd_same, oks_iff.mpr fun z hz => ?_⟩
                      rcases List.mem_append.mp hz with hz | hz
                      · exact H'keep ((oks_iff.mp f4 z hz).same (s1.trans s2)) fun hb => (List.nodup_cons.mp zsn).1 (mem_fps.mpr ⟨z, hz, hb⟩)
                      · have : z = t := by simpa using hz
                        subst this
                        exact H'keep k2 fun hb => cn c hb (by simp [T.fp, ym c (by simp [T.fp])])
                    have t3ok : t3.ok C.G (upd H2 c (.lst ((zs ++ [t]).map (T.v C.G)))) := by
                      unfold t3 T.ok
                      refine ⟨?_, oks_iff.mpr fun z hz => ?_⟩
                      · show upd H2 c _ p = _
                        rw [hup p pc, s2 _ _ (s1 _ _ d3), List.map_set]
                        congr 2
                        refine List.ext_getElem? fun m => ?_
                        rw [List.getElem?_set]
                        split
                        · rename_i hm
                          subst hm
                          rw [List.getElem?_map, hx]
                          have hlt := (List.getElem?_eq_some_iff.mp hx).1
                          rw [if_pos (by rw [List.length_map]; exact hlt)]
                          rfl
                        · rfl
                      · obtain ⟨m, hm⟩ := List.mem_iff_getElem?.mp hz
                        rw [List.getElem?_set] at hm
                        split at hm
                        · split at hm
                          · cases hm; exact t2ok
                          · cases hm
                        · rename_i hne
                          refine H'keep ((oks_iff.mp d4 z (List.mem_of_getElem? hm)).same (s1.trans s2)) fun hb => ?_
                          have hz' : z ∈ xs.eraseIdx kk := List.mem_eraseIdx_iff_getElem?.mpr ⟨m, Ne.symm hne, hm⟩
                          exact (erase_apart hx n0.2).2 c (by simp [T.fp]) (mem_fps.mpr ⟨z, hz', hb⟩)
                    have n2 : t2.fp.Nodup := by
                      simp only [t2, T.fp, fps_append, T.fps, List.append_nil]
                      obtain ⟨z1, z2⟩ := List.nodup_cons.mp zsn
                      refine List.nodup_cons.mpr ⟨fun hb => ?_, List.nodup_append.mpr ⟨z2, tn, fun b hb b' hb' e => ?_⟩⟩
                      · rcases List.mem_append.mp hb with hb | hb
                        · exact z1 hb
                        · exact cn c hb (by simp [T.fp, ym c (by simp [T.fp])])
                      · subst e
                        exact cn b hb' (by simp [T.fp, ym b (by simp [T.fp, hb])])
                    have n3 : t3.fp.Nodup := by
                      simp only [t3, T.fp]
                      refine List.nodup_cons.mpr ⟨fun hb => ?_, nodup_swap hx n0.2 n2 fun b hb => ?_⟩
                      · rcases fps_set hb with hb | hb
                        · exact n0.1 hb
                        · rcases t2fp p hb with hb | hb
                          · exact n0.1 (ym p hb)
                          · exact cn p hb (by simp [T.fp])
                      · rcases t2fp b hb with hb | hb
                        · exact .inl hb
                        · exact .inr fun hc => cn b hb (by simp [T.fp, hc])
                    have E3 := EO.redo (H' := upd H2 c (.lst ((zs ++ [t]).map (T.v C.G)))) (t := t3) E2 e1' (fun b o hb hn => by rw [hup b (fun z => hn (by rw [et, z]; simp [T.fp, ym c (by simp [T.fp])]))]; exact hb) t3ok (by rw [et]; rfl) n3
                      (by
                        unfold t3 T.plain
                        refine ⟨trivial, plains_iff.mpr fun z hz => ?_⟩
                        rcases List.mem_or_eq_of_mem_set hz with hz | rfl
                        · exact plains_iff.mp p0.2 z hz
                        · unfold t2 T.plain
                          unfold T.plain at yp
                          refine ⟨trivial, plains_iff.mpr fun z hz => ?_⟩
                          rcases List.mem_append.mp hz with hz | hz
                          · exact plains_iff.mp yp.2 z hz
                          · have : z = t := by simpa using hz
                            subst this
                            exact tp) (fun b hb => ?_) fun j hj vj b hb hc => ?_
                    · have ed : t3.d = .node .lst ((T.ds xs).set kk (.node .lst (T.ds zs ++ [t.d]))) := by
                        simp only [t3, t2, T.d, TK.dk]
                        rw [ds_set]
                        simp [T.d, TK.dk, ds_map]
                      rw [ed] at E3
                      refine ⟨c, zs.map (T.v C.G), t.v C.G, rfl, rfl, s2 _ _ (s1 _ _ f3'), ?_, ?_⟩
                      · rw [List.length_map]
                        rw [ds_length] at hlen
                        exact hlen
                      · have := q _ _ _ E3
                        rw [List.map_append] at this
                        exact this
                    · rcases t3fp b hb with hb | hb
                      · rw [et] at hb; exact w0 b hb
                      · exact tw b hb
                    · rcases t3fp b hb with hb | hb
                      · rw [et] at hb
                        exact z0 j hj (after_isVal vj) b hb hc
                      · exact tz j vj b hb hc
                  · exact q.elim
          · exact q.elim
        · exact q.elim
      · exact q.elim
  · exact q.elim
end
end FR

namespace FR
open PySem PySem.Spec L2
section
variable {C : CE₀} {X : Cx} {b : Tb} {Pg : Prog} {L n : Nat} {sc : Scope}
/-! ### o.f = e of an instance that is ours -/
theorem putF_new {f : Str} {v : V} : ∀ {fs : List (Str × V)}, (∀ q ∈ fs, q.1 ≠ f) → putF f v fs = fs ++ [(f, v)]
  | [], _ => rfl
  | (g, x) :: r, h => by
    unfold putF
    rw [if_neg (h (g, x) (by simp)), putF_new fun q hq => h q (by simp [hq])]; rfl
theorem zip_put {f : Str} {v : V} : ∀ {ns : List Str} {vs : List V}, ns.Nodup → ns[vs.length]? = some f → putF f v (ns.zip vs) = ns.zip (vs ++ [v])
  | [], vs, _, h => by simp at h
  | m :: ns, [], nd, h => by
    simp only [List.length_nil, List.getElem?_cons_zero, Option.some.injEq] at h
    subst h
    simp [putF]
  | m :: ns, w :: vs, nd, h => by
    simp only [List.length_cons, List.getElem?_cons_succ] at h
    obtain ⟨n1, n2⟩ := List.nodup_cons.mp nd
    have ne : m ≠ f := fun z => n1 (z ▸ List.mem_of_getElem? h)
    rw [List.zip_cons_cons, List.cons_append, List.zip_cons_cons]
    unfold putF
    rw [if_neg ne, zip_put n2 h]
theorem fldsT_len (c : Nat) : (fldsT c).length ≤ 2 := by
  unfold fldsT fldT
  split <;> decide
theorem sw_att {v e : Expr} {f : Str} {p : Pos} {l : Nat} {env : PySem.Env} : swapsWith v (some (.Attribute e f p)) l env = pure false := by
  unfold swapsWith
  cases v <;> rfl
theorem ps_setfE {i f : Nat} {e : CE} {s : Stmt} : PS X s (tS C (evS Pg n (.setf i f e))) := ⟨fun pins s σ H D I ⟨env, τ, E, q⟩ => by
  rw [evS] at q
  exact q.elim⟩
/-- an __init__'s body under way: the fields set so far -/
structure IniS (C : CE₀) (c : Nat) (x dx : Addr) (env : En) (τ : Nat → T) (ts : List T) (σ : L2.St) (H : Hp) : Prop where
  eo : EO C.G C.F C.A₀ env τ σ H
  sl : σ[0]? = some (some (.ref x))
  ob : H x = some (.ins (C.G.cls c) dx ((fldsT c).zip (ts.map (T.v C.G))))
  le : ts.length ≤ (fldsT c).length
  ok : T.oks C.G H ts
  nd : (T.fps ts).Nodup
  pl : T.plains ts
  fr : ∀ a ∈ T.fps ts, C.F a = none
  nx : x ∉ T.fps ts
  fx : C.F x = none
  sep : ∀ i, isVal env i → x ∉ (τ i).fp
def tIni (C : CE₀) (Pg : Prog) (c : Nat) (x dx : Addr) (env : En) (l : List (Nat × CE)) : TS := fun De σ H => ∃ τ ts, IniS C c x dx env τ ts σ H ∧ (match iniL Pg c env l (T.ds ts) with
  | .ok ds => ∀ ts' H', IniS C c x dx env τ ts' σ H' → T.ds ts' = ds → De.nx σ H'
  | _ => False)
theorem iniL_cons (P : Prog) (c : Nat) (env : En) (q : Nat × CE) (r : List (Nat × CE)) (acc : List D) : iniL P c env (q :: r) acc = if decide ((fldT c)[acc.length]? = some q.1) then (evE P q.2 env).nx.b fun x => if decide (x.2.1 = .deep) && x.2.2.isEmpty then iniL P c env r (acc ++ [x.1]) else .no else .no := rfl
theorem ps_ini1 {c : Nat} {x dx : Addr} {env : En} {f : Nat} {e : CE} {l : List (Nat × CE)} {v : Expr} {y : Str} {px pa pos : Pos} (g : GoodS X b C.G Pg L C.W sc) (hci : b.ci.contains c = true) (h : slotB b sc 0 y = true) (hc : chkE b sc e v = true) :
    PS X (.Assign [.Attribute (.Name y px) (fldN f) pa] v pos) (fun De σ H => ∃ τ ts, IniS C c x dx env τ ts σ H ∧ (match iniL Pg c env ((f, e) :: l) (T.ds ts) with
      | .ok ds => ∀ ts' H', IniS C c x dx env τ ts' σ H' → iniL Pg c env l (T.ds ts') = .ok ds → De.nx σ H'
      | _ => False)) := by
  refine PS.weak (ps_fld (pe_slot0 g.e h) (chkE_ok e v sc X C g.e hc).1 sw_att) fun De σ H ⟨τ, ts, S, q⟩ => ?_
  refine ⟨env, τ, S.eo, ?_⟩
  rw [iniL_cons] at q
  by_cases hf : (fldT c)[(T.ds ts).length]? = some f
  · dsimp only at q
    rw [if_pos (by simpa using hf)] at q
    rcases nx_of (x := evE Pg e env) with e1 | ⟨r, e1, e2⟩
    · rw [e1] at q; exact q.elim
    · rw [e2, b_ok] at q
      rw [e1]
      intro H1 t s k1 ed g1
      obtain ⟨d, o, u⟩ := r
      dsimp only at ed g1 q
      subst ed
      by_cases ho : o = .deep ∧ u = []
      · obtain ⟨rfl, rfl⟩ := ho
        rw [if_pos (by simp)] at q
        rw [ds_length] at hf
        have hn : (fldsT c)[(ts.map (T.v C.G)).length]? = some (fldN f) := by
          unfold fldsT
          rw [List.length_map, List.getElem?_map, hf]; rfl
        have hlt : ts.length < (fldsT c).length := by
          have := (List.getElem?_eq_some_iff.mp hn).1
          rwa [List.length_map] at this
        obtain ⟨nt, pt, _⟩ := g1.deep rfl
        have new : ∀ a ∈ t.fp, H a = none := fun a ha => by
          rcases g1.cov a ha with q | ⟨j, hj, _⟩
          · exact q
          · simp at hj
        have co := g.e.st.co c hci
        have o1' := s _ _ S.ob
        have hKX : X.K = C.G.K := g.e.K
        refine ⟨.ref x, S.sl, x, _, dx, _, rfl, o1', co.cl, co.na f (List.mem_of_getElem? hf), ?_, ?_⟩
        · rw [List.length_zip, List.length_map]
          have := fldsT_len c
          omega
        · rw [zip_put (fldsT_nd c) hn]
          have na : x ∉ t.fp := fun hb => by
            have := new x hb
            rw [S.ob] at this; cases this
          have nts : ∀ b ∈ t.fp, b ∉ T.fps ts := fun b hb hc => by
            obtain ⟨o, e⟩ := T.oks.trk S.ok hc
            rw [new b hb] at e; cases e
          have keep : ∀ {z : T}, z.ok C.G H1 → x ∉ z.fp → z.ok C.G (upd H1 x (.ins (C.G.cls c) dx ((fldsT c).zip (ts.map (T.v C.G) ++ [t.v C.G])))) := fun {z} kz hz => kz.keep fun b hb w hw => by
            rw [upd_ne (fun e => hz (by rw [← e]; exact hb))]; exact hw
          have S' : IniS C c x dx env τ (ts ++ [t]) σ (upd H1 x (.ins (C.G.cls c) dx ((fldsT c).zip (ts.map (T.v C.G) ++ [t.v C.G])))) := by
            refine ⟨(S.eo.same s).heap (fun j vj b hb o hw => ?_) fun a o hw => ?_, S.sl, by rw [List.map_append]; exact upd_same, by rw [List.length_append]; exact hlt, oks_iff.mpr fun z hz => ?_, ?_, plains_iff.mpr fun z hz => ?_, fun a ha => ?_, fun ha => ?_, S.fx, S.sep⟩
            · rw [upd_ne (fun e => S.sep j vj (by rw [← e]; exact hb))]; exact hw
            · rw [upd_ne (fun e => by rw [e, S.fx] at hw; cases hw)]; exact (S.eo.same s).old a o hw
            · rcases List.mem_append.mp hz with hz | hz
              · exact keep ((oks_iff.mp S.ok z hz).same s) fun hb => S.nx (mem_fps.mpr ⟨z, hz, hb⟩)
              · have : z = t := by simpa using hz
                subst this
                exact keep k1 na
            · rw [fps_append]
              simp only [T.fps, List.append_nil]
              refine List.nodup_append.mpr ⟨S.nd, nt, fun b hb b' hb' e => ?_⟩
              subst e
              exact nts b hb' hb
            · rcases List.mem_append.mp hz with hz | hz
              · exact plains_iff.mp S.pl z hz
              · have : z = t := by simpa using hz
                subst this; exact pt
            · rw [fps_append] at ha
              simp only [T.fps, List.append_nil, List.mem_append] at ha
              rcases ha with ha | ha
              · exact S.fr a ha
              · exact S.eo.old.free (new a ha)
            · rw [fps_append] at ha
              simp only [T.fps, List.append_nil, List.mem_append] at ha
              exact ha.elim S.nx na
          rw [show T.ds ts ++ [t.d] = T.ds (ts ++ [t]) by simp [ds_map]] at q
          cases e3 : iniL Pg c env l (T.ds (ts ++ [t])) with
          | no => rw [e3] at q; exact q.elim
          | ex c => rw [e3] at q; exact q.elim
          | ok ds =>
            rw [e3] at q
            exact q _ _ S' e3
      · exfalso
        rw [if_neg (by
          simp only [Bool.and_eq_true, decide_eq_true_eq, List.isEmpty_iff]
          exact ho)] at q
        exact q
  · dsimp only at q
    rw [if_neg (by simpa using hf)] at q
    exact q.elim
theorem pss_ini {c : Nat} {x dx : Addr} {env : En} (g : GoodS X b C.G Pg L C.W sc) (hci : b.ci.contains c = true) : ∀ {body : List CS} {ss : List Stmt} {l : List (Nat × CE)}, iniB body = some l → chkSs b sc body ss = true → PSs X ss (tIni C Pg c x dx env l)
  | [], ss, l, h, hc => by
    unfold chkSs at hc
    have := List.isEmpty_iff.mp hc
    subst this
    cases h
    refine PSs.weak pss_nil fun De σ H ⟨τ, ts, S, q⟩ => ?_
    exact q ts H S rfl
  | s :: body, ss, l, h, hc => by
    cases s with
    | setf i f e =>
      cases i with
      | succ i => cases h
      | zero =>
        unfold iniB at h
        obtain ⟨r, hr, rfl⟩ := Option.map_eq_some_iff.mp h
        unfold chkSs at hc
        split at hc <;> try cases hc
        rename_i st ss
        simp only [Bool.and_eq_true] at hc
        obtain ⟨h1, h2⟩ := hc
        unfold chkS at h1; split at h1 <;> try cases h1
        simp only [Bool.and_eq_true, decide_eq_true_eq] at h1
        obtain ⟨⟨h3, rfl⟩, h4⟩ := h1
        refine PSs.weak (pss_cons (ps_ini1 (C := C) (c := c) (x := x) (dx := dx) (env := env) (l := r) g hci h3 h4) (pss_ini (x := x) (dx := dx) (env := env) g hci hr h2)) fun De σ H ⟨τ, ts, S, q⟩ => ?_
        refine ⟨τ, ts, S, ?_⟩
        cases e1 : iniL Pg c env ((f, e) :: r) (T.ds ts) with
        | no => rw [e1] at q; exact q.elim
        | ex c => rw [e1] at q; exact q.elim
        | ok ds =>
          rw [e1] at q
          intro ts' H' S' e2
          refine ⟨τ, ts', S', ?_⟩
          rw [e2]
          exact fun ts2 H2 S2 e => q ts2 H2 S2 e
    | _ => cases h
end
end FR

namespace FR
open PySem PySem.Spec L2
section
variable {C : CE₀} {X : Cx} {b : Tb} {Pg : Prog} {L n : Nat} {sc : Scope}
theorem ps_ifE {c : CE} {xs ys : List CS} {t : Expr} {l r : List Stmt} {pos : Pos} (ht : PT X t (tT C (evE Pg c))) (hl : PSs X l (tS C (evSs Pg n xs))) (hr : PSs X r (tS C (evSs Pg n ys))) : PS X (.If t l r pos) (tS C (evS Pg n (.if_ c xs ys))) := by
  refine PS.weak (ps_if ht hl hr) fun De σ H ⟨env, τ, E, q⟩ => ⟨env, τ, E, ?_⟩
  rw [evS] at q
  cases e : evE Pg c env with
  | no => rw [e] at q; exact q
  | ex k => rw [e] at q; exact fun H' s => q σ H' (E.old.trans s)
  | ok ry =>
    rw [e, b_ok] at q
    obtain ⟨d, o, u⟩ := ry
    cases d with
    | bl x =>
      cases x with
      | true =>
        intro H' s
        show (if true = true then _ else _)
        rw [if_pos rfl]
        exact ⟨env, τ, E.same s, q⟩
      | false =>
        intro H' s
        show (if false = true then _ else _)
        rw [if_neg (by simp)]
        exact ⟨env, τ, E.same s, q⟩
    | _ => exact q
theorem ps_retE {e : CE} {v : Expr} {pos : Pos} (h : PE X v (tE C (evE Pg e))) : PS X (.Return (some v) pos) (tS C (evS Pg n (.ret e))) := by
  refine PS.weak (ps_ret h) fun De σ H q => ?_
  refine tS.then (g := fun env x => .ok (.rt x.1 (decide (x.2.1 = .deep)))) (q.ev fun env => by rw [evS]) fun env τ H1 t o u E s k gg q => ?_
  refine q t H1 (E.old.trans s) k rfl (fun a ha => gg.one.covF E a (by simpa [T.fps] using ha)) fun hd => ?_
  have := of_decide_eq_true hd
  subst this
  obtain ⟨n, p, w, _⟩ := gg.one.alone E
  simp only [T.fps, List.append_nil, T.plains, and_true] at n p w
  exact ⟨n, p, w⟩
theorem ps_retSE {e : CE} {v : Expr} {pos : Pos} (h : PE X v (tE C (evE Pg e))) : PS X (.Return (some v) pos) (tS C (evS Pg n (.retS e))) := by
  refine PS.weak (ps_ret h) fun De σ H q => ?_
  refine tS.then (g := fun env x => .ok (.rt x.1 false)) (q.ev fun env => by rw [evS]) fun env τ H1 t o u E s k gg q => ?_
  exact q t H1 (E.old.trans s) k rfl (fun a ha => gg.one.covF E a (by simpa [T.fps] using ha)) fun hd => by cases hd
theorem ps_retNE {pos : Pos} : PS X (.Return none pos) (tS C (evS Pg n .retN)) := by
  refine PS.weak ps_retN fun De σ H ⟨env, τ, E, q⟩ => ?_
  rw [evS] at q
  exact q (.leaf .non) H E.old (by unfold T.ok; rfl) (by simp [T.d]) (by simp [T.fp]) (fun _ => by simp [T.fp, T.plain])
theorem ps_exE {e : CE} {v : Expr} {pos : Pos} (hp : plainC v = true) (h : PE X v (tE C (evE Pg e))) : PS X (.Expr v pos) (tS C (evS Pg n (.ex e))) := by
  refine PS.weak (ps_expr h (sw_plain hp)) fun De σ H q => ?_
  refine tS.then (g := fun env x => .ok (.nx env)) (q.ev fun env => by rw [evS]) fun env τ H1 t o u E s k gg q => ?_
  exact q _ _ _ (E.same s)
theorem passN {st : Stmt} (h : PS X st tNext) : PS X st (tS C (evS Pg n .pass)) := PS.weak h fun De σ H ⟨env, τ, E, q⟩ => by
  rw [evS] at q
  exact q _ _ _ E
theorem pss_nilE : PSs X [] (tS C (evSs Pg n [])) := PSs.weak pss_nil fun De σ H ⟨env, τ, E, q⟩ => by
  rw [evSs] at q
  exact q _ _ _ E
theorem pss_consE {s : CS} {ss : List CS} {st : Stmt} {sts : List Stmt} (h : PS X st (tS C (evS Pg n s))) (h2 : PSs X sts (tS C (evSs Pg n ss))) : PSs X (st :: sts) (tS C (evSs Pg n (s :: ss))) := by
  refine PSs.weak (pss_cons h h2) fun De σ H ⟨env, τ, E, q⟩ => ⟨env, τ, E, ?_⟩
  rw [evSs] at q
  cases e : evS Pg n s env with
  | no => rw [e] at q; exact q
  | ex k => rw [e] at q; exact q
  | ok o =>
    rw [e, b_ok] at q
    cases o with
    | nx e' => exact fun τ σ H E => ⟨e', τ, E, q⟩
    | bk e' => exact q
    | ct e' => exact q
    | rt d fr => exact q
/-- the walk's own addresses -/
theorem re_ok {F H H' : Hp} {A : List Addr} {t : T} {G : Gs} (k : t.ok G H) (sub : ∀ a ∈ t.fp, a ∈ A) (s : Same (reF F H A) H') : t.ok G H' := k.keep fun a ha o e => s a o (by unfold reF; rw [if_pos (sub a ha)]; exact e)
theorem tgD {tg : List Nat} {t : Expr} (h : tgB b sc (fun _ => true) tg t = true) : ∀ i j, tg = [i, j] → i ≠ j := tg_ne h
theorem ps_forE {tg : List Nat} {ik : IK} {x y : CE} {body : List CS} {kl : List Nat} {t it : Expr} {xs : List Stmt} {pos : Pos} (g : GoodS X b C.G Pg L C.W sc) (hi : PI X t it (tI C ik (evE Pg x) (evE Pg y))) (ht : tgB b sc (fun _ => true) tg t = true)
    (hb : ∀ C' : CE₀, C'.G = C.G → C'.W = C.W → PSs X xs (tS C' (evSs Pg n body))) (hs : plainSet it = true) : PS X (.For t it xs [] pos) (tS C (evS Pg n (.for_ tg ik x y body kl))) := by
  have body' : PSs X xs (fun De σ H => ∃ H0 A, tS (C.re H0 A) (evSs Pg n body) De σ H) := by
    refine ⟨fun pins s σ H D I ⟨H0, A, q⟩ => (hb (C.re H0 A) rfl rfl).run pins s σ H D I q⟩
  refine PS.weak (ps_for g.pass g.e.calm hi (pg_of g.e (fun x _ => g.fnv x) ht) body' (notSet_of hs)) fun De σ H ⟨env, τ, E, q⟩ => ?_
  have ev : evS Pg n (.for_ tg ik x y body kl) env = (itR ik (evE Pg x) (evE Pg y) env).b fun r =>
      forL (fun d env => (bindTg tg d env).b fun env => (evSs Pg n body env).b fun o => .ok (o.kil kl)) r.2.2 (dem r.2.1.2.2 (dem r.1.2.2 env)) := by
    rw [evS]
    unfold itR
    cases evE Pg x env with
    | no => rfl
    | ex c => rfl
    | ok rx =>
      rw [b_ok, b_ok]
      cases evE Pg y env with
      | no => rfl
      | ex c => rfl
      | ok ry =>
        rw [b_ok, b_ok]
        cases itD ik rx.1 ry.1 with
        | no => rfl
        | ex c => rfl
        | ok items => rfl
  rw [ev] at q
  refine ⟨env, τ, E, ?_⟩
  cases er : itR ik (evE Pg x) (evE Pg y) env with
  | no => rw [er] at q; exact q
  | ex c => rw [er] at q; exact fun H' s => q σ H' (E.old.trans s)
  | ok r =>
    rw [er, b_ok] at q
    obtain ⟨⟨dx, ox, ux⟩, ⟨dy, oy, uy⟩, items⟩ := r
    dsimp only at q ⊢
    intro H1 t1 t2 J s k1 k2 e1 e2 g1 g2 w
    let A := t1.fp ++ t2.fp
    have hA : ∀ a ∈ A, C.F a = none ∨ a ∈ C.A₀ := fun a ha => (List.mem_append.mp ha).elim (fun h => g1.one.covF E a (by simpa [T.fps] using h)) (fun h => g2.one.covF E a (by simpa [T.fps] using h))
    have s1 : Same C.F H1 := E.old.trans s
    -- the environment at the loop's head
    have E0 : EO C.G C.F C.A₀ (dem uy (dem ux env)) τ σ H1 := ((E.dem ux).dem uy).same s
    have sp : Seps (dem uy (dem ux env)) τ A := fun j => by
      have b1 : ∀ {d o}, o ≠ .sh ∧ o ≠ .bor → (dem uy (dem ux env))[j]? = some (some (Sl.val d o)) → j ∉ uy ∧ j ∉ ux ∧ env[j]? = some (some (Sl.val d o)) := fun ho e => by
        obtain ⟨h1, h2⟩ := dem_own ho e
        obtain ⟨h3, h4⟩ := dem_own ho h2
        exact ⟨h1, h3, h4⟩
      refine ⟨fun d e k a xs' et ha => ?_, fun ⟨d, e⟩ a ha hb => ?_⟩
      · obtain ⟨n1, n2, e⟩ := b1 (by simp) e
        obtain ⟨_, _, _, h4⟩ := E.top j d e k a xs' et
        have hn : H a ≠ none := fun z => (E.ok ⟨_, _, e⟩).new z (by rw [et]; simp [T.fp])
        rcases List.mem_append.mp ha with h | h
        · rcases g1.cov a h with q' | ⟨i, hi, vi, qi⟩
          · exact hn q'
          · exact h4 i (fun z => n2 (z ▸ hi)) vi qi
        · rcases g2.cov a h with q' | ⟨i, hi, vi, qi⟩
          · exact hn q'
          · exact h4 i (fun z => n1 (z ▸ hi)) vi qi
      · obtain ⟨n1, n2, e⟩ := b1 (by simp) e
        obtain ⟨_, _, _, h4⟩ := E.deep j ⟨d, e⟩
        have hn : H a ≠ none := fun z => (E.ok ⟨_, _, e⟩).new z ha
        rcases List.mem_append.mp hb with h | h
        · rcases g1.cov a h with q' | ⟨i, hi, vi, qi⟩
          · exact hn q'
          · exact h4 i (fun z => n2 (z ▸ hi)) vi a ha qi
        · rcases g2.cov a h with q' | ⟨i, hi, vi, qi⟩
          · exact hn q'
          · exact h4 i (fun z => n1 (z ▸ hi)) vi a ha qi
    have E1 := E0.up sp
    let f : D → En → R Out := fun d env => (bindTg tg d env).b fun env => (evSs Pg n body env).b fun o => .ok (o.kil kl)
    have q0 : outR (C.re H1 A) De (forL f items (dem uy (dem ux env))) := by
      revert q
      show outR C De (forL f items (dem uy (dem ux env))) → _
      cases forL f items (dem uy (dem ux env)) with
      | no => exact id
      | ex c => exact fun q σ H s => q σ H ((reF_le s1).trans s)
      | ok o => exact fun q => outO.re s1 hA q rfl rfl rfl rfl
    refine ⟨fun i m σ H => m = items.length - i ∧ i ≤ items.length ∧ ∃ env τ, EO C.G (reF C.F H1 A) (C.A₀.up A) env τ σ H ∧ outR (C.re H1 A) De (forL f (items.drop i) env), ⟨items.length, by simp, Nat.zero_le _, _, _, E1, by rw [List.drop_zero]; exact q0⟩, ?_⟩
    rintro i m σ H' ⟨rfl, hi, env, τ, E, q⟩
    have k1' : t1.ok C.G H' := re_ok k1 (fun a ha => List.mem_append_left _ ha) E.old
    have k2' : t2.ok C.G H' := re_ok k2 (fun a ha => List.mem_append_right _ ha) E.old
    by_cases hlt : i < items.length
    · refine .inr ⟨w.go i H' k1' k2' hlt, fun σ2 H2 => ∃ env τ, EO C.G (reF C.F H1 A) (C.A₀.up A) env τ σ2 H2 ∧ outR (C.re H1 A) De (forL f (items.drop (i + 1)) env), fun σ2 H2 h => ⟨items.length - (i + 1), by omega, rfl, hlt, h⟩, fun xv H2 hy => ?_⟩
      obtain ⟨s2, ti, rfl, ki, hdi, ci⟩ := w.yld i H' xv H2 k1' k2' hlt hy
      have hdrop : items.drop i = ti.d :: items.drop (i + 1) := by
        rw [List.drop_eq_getElem_cons hlt]
        congr 1
        rw [List.getElem?_eq_getElem hlt] at hdi
        exact Option.some.inj hdi
      rw [hdrop] at q
      unfold forL at q
      have E2 := E.same s2
      have keyA : ∀ a ∈ A, reF C.F H1 A a ≠ none := fun a ha z => by
        unfold reF at z
        rw [if_pos ha] at z
        rcases List.mem_append.mp ha with h | h
        · exact k1.new z h
        · exact k2.new z h
      have ciA : ∀ a ∈ ti.fp, H' a = none ∨ a ∈ A := fun a ha => (ci a ha).imp id fun h => h.elim (List.mem_append_left _) (List.mem_append_right _)
      have sepi : Sep env τ ti := fun j => by
        refine ⟨fun d e k a xs' et ha => ?_, fun dj a ha hb => ?_⟩
        · have := E.top j d e k a xs' et
          rcases ciA a ha with h | h
          · exact (E.ok ⟨_, _, e⟩).new h (by rw [et]; simp [T.fp])
          · exact keyA a h this.1
        · rcases ciA a hb with h | h
          · exact (E.ok dj.val).new h ha
          · exact keyA a h ((E.deep j dj).2.2.1 a ha)
      cases eb : bindTg tg ti.d env with
      | no =>
        exfalso
        have : f ti.d env = .no := by show (bindTg tg ti.d env).b _ = _; rw [eb]; rfl
        rw [this] at q; exact q
      | ex c =>
        exfalso
        revert eb
        unfold bindTg
        split
        · intro z; cases z
        · split <;> intro z <;> cases z
        · intro z; cases z
      | ok env2 =>
        have ef : f ti.d env = (evSs Pg n body env2).b fun o => .ok (o.kil kl) := by show (bindTg tg ti.d env).b _ = _; rw [eb]; rfl
        rw [ef] at q
        refine bind_ok (K := X.K) E2 ki (fun a ha => ?_) sepi eb rfl (fun _ _ _ _ => rfl) (tgD ht) fun τ' σ2 E3 _ _ _ _ => ⟨H1, A, env2, τ', E3, ?_⟩
        · rcases ciA a ha with h | h
          · exact .inl (E.old.free h)
          · exact .inr (AP.mem_up.mpr (.inr h))
        · revert q
          cases evSs Pg n body env2 with
          | no => exact id
          | ex c => exact id
          | ok o =>
            intro q
            cases o with
            | nx e => exact fun τ σ H E => ⟨_, τ, E.kil kl, q⟩
            | ct e => exact fun τ σ H E => ⟨_, τ, E.kil kl, q⟩
            | bk e => exact fun τ σ H E => q τ σ H (E.kil kl)
            | rt d fr => exact q
    · have : i = items.length := by omega
      subst this
      rw [List.drop_length] at q
      unfold forL at q
      exact .inl ⟨w.stop _ H' k1' k2' (Nat.le_refl _), q _ _ _ E⟩
theorem bor_get {env : En} {i : Nat} {s : Sl} (h : (env.map borF)[i]? = some (some s)) : ∃ d o, env[i]? = some (some (Sl.val d o)) ∧ s = .val d .bor := by
  rw [List.getElem?_map] at h
  cases e : env[i]? with
  | none => rw [e] at h; cases h
  | some z =>
    rw [e] at h
    cases z with
    | none => cases h
    | some z =>
      cases z with
      | val d o => cases h; exact ⟨d, o, rfl, rfl⟩
      | al j p => cases h
theorem no_get {env : En} {i : Nat} {s : Sl} (h : (env.map noF)[i]? = some (some s)) : ∃ d o, env[i]? = some (some (Sl.val d o)) ∧ s = .val d o := by
  rw [List.getElem?_map] at h
  cases e : env[i]? with
  | none => rw [e] at h; cases h
  | some z =>
    rw [e] at h
    cases z with
    | none => cases h
    | some z =>
      cases z with
      | val d o => cases h; exact ⟨d, o, rfl, rfl⟩
      | al j p => cases h
theorem okB_ok : ∀ {env e : En}, okB (env.map borF) e = true → e.length = env.length ∧ ∀ (i : Nat) (d : D) (o : Own), env[i]? = some (some (Sl.val d o)) → ∃ d' : D, e[i]? = some (some (Sl.val d' .bor))
  | [], [], _ => ⟨rfl, by simp⟩
  | [], _ :: _, h => by simp [okB] at h
  | z :: env, [], h => by
    cases z with
    | none => simp [okB, borF] at h
    | some z => cases z <;> simp [okB, borF] at h
  | z :: env, y :: e, h => by
    have key : okB (env.map borF) e = true ∧ ∀ d o, z = some (Sl.val d o) → ∃ d', y = some (Sl.val d' .bor) := by
      cases z with
      | none => exact ⟨by simpa [okB, borF] using h, by simp⟩
      | some z =>
        cases z with
        | al j p => exact ⟨by simpa [okB, borF] using h, by simp⟩
        | val d o =>
          cases y with
          | none => simp [okB, borF] at h
          | some y =>
            cases y with
            | al j p => simp [okB, borF] at h
            | val d' o' =>
              cases o' with
              | bor => exact ⟨by simpa [okB, borF] using h, fun _ _ _ => ⟨d', rfl⟩⟩
              | sh => simp [okB, borF] at h
              | top => simp [okB, borF] at h
              | deep => simp [okB, borF] at h
    obtain ⟨h1, h2⟩ := okB_ok key.1
    refine ⟨by simp [h1], fun i d o q => ?_⟩
    cases i with
    | zero =>
      obtain ⟨d', e'⟩ := key.2 d o (by simpa using q)
      exact ⟨d', by simp [e']⟩
    | succ i => simpa using h2 i d o (by simpa using q)
def slA (env : En) (τ : Nat → T) : List Addr := (List.range env.length).flatMap fun i => match env[i]? with
  | some (some (Sl.val _ _)) => (τ i).fp
  | _ => []
theorem slA_mem {env : En} {τ : Nat → T} {a : Addr} : a ∈ slA env τ ↔ ∃ i, isVal env i ∧ a ∈ (τ i).fp := by
  unfold slA
  rw [List.mem_flatMap]
  constructor
  · rintro ⟨i, _, h⟩
    split at h
    · exact ⟨i, ⟨_, _, by assumption⟩, h⟩
    · simp at h
  · rintro ⟨i, ⟨d, o, e⟩, h⟩
    exact ⟨i, List.mem_range.mpr (List.getElem?_eq_some_iff.mp e).1, by rw [e]; exact h⟩
/-- what is asked of a walk that leaves the slots alone -/
def outB (C : CE₀) (De : Ends) (I : L2.St → Hp → Prop) : R (Option (D × Bool)) → Prop
  | .no => False
  | .ok none => ∀ σ H, I σ H → De.nx σ H
  | .ok (some z) => outO C De (.rt z.1 z.2)
  | .ex c => ∀ σ H, Same C.F H → C.W (.ref (C.G.cls c)) none σ H
theorem ps_forB {tg : List Nat} {ik : IK} {x y : CE} {body : List CS} {kl : List Nat} {t it : Expr} {xs : List Stmt} {pos : Pos} (g : GoodS X b C.G Pg L C.W sc) (hi : PI X t it (tI C ik (evE Pg x) (evE Pg y))) (ht : tgB b sc (fun _ => true) tg t = true)
    (hb : ∀ C' : CE₀, C'.G = C.G → C'.W = C.W → PSs X xs (tS C' (evSs Pg n body))) (hs : plainSet it = true) : PS X (.For t it xs [] pos) (tS C (evS Pg n (.forB tg ik x y body kl))) := by
  have body' : PSs X xs (fun De σ H => ∃ C' : CE₀, C'.G = C.G ∧ C'.W = C.W ∧ tS C' (evSs Pg n body) De σ H) := by
    refine ⟨fun pins s σ H D I ⟨C', z1, z2, q⟩ => (hb C' z1 z2).run pins s σ H D I q⟩
  refine PS.weak (ps_for g.pass g.e.calm hi (pg_of g.e (fun x _ => g.fnv x) ht) body' (notSet_of hs)) fun De σ H ⟨env, τ, E, q⟩ => ?_
  have ev : evS Pg n (.forB tg ik x y body kl) env = (itR ik (evE Pg x) (evE Pg y) env).b fun r =>
      (forB (fun d => (bindTg tg d ((kil kl env).map borF)).b fun env => evSs Pg n body env) ((kil kl env).map borF) r.2.2).b fun r => match r with
        | none => .ok (.nx ((kil kl env).map noF))
        | some z => .ok (.rt z.1 z.2) := by
    rw [evS]
    unfold itR
    cases evE Pg x env with
    | no => rfl
    | ex c => rfl
    | ok rx =>
      rw [b_ok, b_ok]
      cases evE Pg y env with
      | no => rfl
      | ex c => rfl
      | ok ry =>
        rw [b_ok, b_ok]
        cases itD ik rx.1 ry.1 with
        | no => rfl
        | ex c => rfl
        | ok items => rfl
  rw [ev] at q
  refine ⟨env, τ, E, ?_⟩
  cases er : itR ik (evE Pg x) (evE Pg y) env with
  | no => rw [er] at q; exact q
  | ex c => rw [er] at q; exact fun H' s => q σ H' (E.old.trans s)
  | ok r =>
    rw [er, b_ok] at q
    obtain ⟨⟨dx, ox, ux⟩, ⟨dy, oy, uy⟩, items⟩ := r
    dsimp only at q ⊢
    intro H1 t1 t2 J s k1 k2 e1 e2 g1 g2 w
    have E0 : EO C.G C.F C.A₀ (kil kl env) τ σ H1 := (E.kil kl).same s
    have hA0 : ∀ a ∈ t1.fp ++ t2.fp, C.F a = none ∨ a ∈ C.A₀ := fun a ha => (List.mem_append.mp ha).elim (fun h => g1.one.covF E a (by simpa [T.fps] using h)) (fun h => g2.one.covF E a (by simpa [T.fps] using h))
    generalize kil kl env = env0 at E0 q
    let A := (t1.fp ++ t2.fp) ++ slA env0 τ
    have hA : ∀ a ∈ A, C.F a = none ∨ a ∈ C.A₀ := fun a ha => (List.mem_append.mp ha).elim (hA0 a) fun h => by
      obtain ⟨i, vi, hi⟩ := slA_mem.mp h
      exact E0.cov i vi a hi
    have s1 : Same C.F H1 := E.old.trans s
    let C' : CE₀ := ⟨C.G, reF C.F H1 A, ⟨C.A₀.as ++ A, fun i => σ[i]?⟩, C.W⟩
    let I : L2.St → Hp → Prop := fun σ' H' => Same (reF C.F H1 A) H' ∧ σ'.length = σ.length ∧ ∀ i, isVal env0 i → σ'[i]? = σ[i]?
    have okI : ∀ {σ' H'}, I σ' H' → ∀ i, isVal env0 i → (τ i).ok C.G H' := fun {σ' H'} h i vi => re_ok (E0.ok vi) (fun a ha => List.mem_append_right _ (slA_mem.mpr ⟨i, vi, ha⟩)) h.1
    have EB : ∀ {σ' H'}, I σ' H' → EO C.G (reF C.F H1 A) ⟨C.A₀.as ++ A, fun i => σ[i]?⟩ (env0.map borF) τ σ' H' := fun {σ' H'} h => by
      refine ⟨by rw [h.2.1, List.length_map, E0.len], fun i d o e => ?_, fun i j p e => ?_, h.1, fun i ⟨d, o, e⟩ a ha => ?_, fun i d e => ?_, fun i ⟨d, e⟩ => ?_, fun i d e => ?_⟩
      · obtain ⟨d', o', e', q'⟩ := bor_get e
        cases q'
        obtain ⟨v1, _, v3⟩ := E0.val i d o' e'
        exact ⟨v1, okI h i ⟨_, _, e'⟩, by rw [h.2.2 i ⟨_, _, e'⟩]; exact v3⟩
      · obtain ⟨_, _, _, q'⟩ := bor_get e
        cases q'
      · obtain ⟨d', o', e', q'⟩ := bor_get e
        exact .inr (List.mem_append_right _ (List.mem_append_right _ (slA_mem.mpr ⟨i, ⟨_, _, e'⟩, ha⟩)))
      · obtain ⟨_, _, _, q'⟩ := bor_get e
        cases q'
      · obtain ⟨_, _, _, q'⟩ := bor_get e
        cases q'
      · obtain ⟨d', o', e', q'⟩ := bor_get e
        exact h.2.2 i ⟨_, _, e'⟩
    have EN : ∀ {σ' H'}, I σ' H' → EO C.G C.F C.A₀ (env0.map noF) τ σ' H' := fun {σ' H'} h => by
      have vv : ∀ {j}, isVal (env0.map noF) j → isVal env0 j := fun ⟨d, o, e⟩ => by
        obtain ⟨d', o', e', q'⟩ := no_get e
        exact ⟨_, _, e'⟩
      refine ⟨by rw [h.2.1, List.length_map, E0.len], fun i d o e => ?_, fun i j p e => ?_, (reF_le s1).trans h.1, fun i v a ha => E0.cov i (vv v) a ha, fun i d e k a xs' et => ?_, fun i ⟨d, e⟩ => ?_, fun i d e => ?_⟩
      · obtain ⟨d', o', e', q'⟩ := no_get e
        cases q'
        obtain ⟨v1, _, v3⟩ := E0.val i d o e'
        exact ⟨v1, okI h i ⟨_, _, e'⟩, by rw [h.2.2 i ⟨_, _, e'⟩]; exact v3⟩
      · obtain ⟨_, _, _, q'⟩ := no_get e
        cases q'
      · obtain ⟨d', o', e', q'⟩ := no_get e
        cases q'
        obtain ⟨h1, h2, h3, h4⟩ := E0.top i d e' k a xs' et
        exact ⟨h1, h2, h3, fun j hj vj => h4 j hj (vv vj)⟩
      · obtain ⟨d', o', e', q'⟩ := no_get e
        cases q'
        obtain ⟨h1, h2, h3, h4⟩ := E0.deep i ⟨d, e'⟩
        exact ⟨h1, h2, h3, fun j hj vj => h4 j hj (vv vj)⟩
      · obtain ⟨d', o', e', q'⟩ := no_get e
        cases q'
        rw [h.2.2 i ⟨_, _, e'⟩]
        exact E0.pin i d e'
    have back : ∀ {e : En} {τ' : Nat → T} {σ' : L2.St} {H' : Hp}, okB (env0.map borF) e = true → EO C'.G C'.F C'.A₀ e τ' σ' H' → I σ' H' := fun {e τ' σ' H'} ho E' => by
      obtain ⟨h1, h2⟩ := okB_ok ho
      refine ⟨E'.old, by rw [E'.len, h1, E0.len], fun i ⟨d, o, ei⟩ => ?_⟩
      obtain ⟨d', e'⟩ := h2 i d o ei
      exact E'.pin i d' e'
    let f : D → R Out := fun d => (bindTg tg d (env0.map borF)).b fun env => evSs Pg n body env
    have q0 : outB C' De I (forB f (env0.map borF) items) := by
      revert q
      show outR C De ((forB f (env0.map borF) items).b _) → _
      cases forB f (env0.map borF) items with
      | no => exact id
      | ex c => exact fun q σ H s => q σ H ((reF_le s1).trans s)
      | ok o =>
        cases o with
        | none => exact fun q σ' H' h => q _ _ _ (EN h)
        | some z =>
          intro q t H s k e cv al
          refine q t H ((reF_le s1).trans s) k e (fun a ha => ?_) fun hf => ?_
          · rcases cv a ha with q | q
            · exact .inl (reF_none s1 q)
            · exact (List.mem_append.mp q).elim .inr (hA a)
          · obtain ⟨h1, h2, h3⟩ := al hf
            exact ⟨h1, h2, fun a ha => reF_none s1 (h3 a ha)⟩
    have I0 : I σ H1 := ⟨reF_ge s1, rfl, fun _ _ => rfl⟩
    refine ⟨fun i m σ H => m = items.length - i ∧ i ≤ items.length ∧ I σ H ∧ outB C' De I (forB f (env0.map borF) (items.drop i)), ⟨items.length, by simp, Nat.zero_le _, I0, by rw [List.drop_zero]; exact q0⟩, ?_⟩
    rintro i m σ' H' ⟨rfl, hi, h', q⟩
    have k1' : t1.ok C.G H' := re_ok k1 (fun a ha => List.mem_append_left _ (List.mem_append_left _ ha)) h'.1
    have k2' : t2.ok C.G H' := re_ok k2 (fun a ha => List.mem_append_left _ (List.mem_append_right _ ha)) h'.1
    by_cases hlt : i < items.length
    · refine .inr ⟨w.go i H' k1' k2' hlt, fun σ2 H2 => I σ2 H2 ∧ outB C' De I (forB f (env0.map borF) (items.drop (i + 1))), fun σ2 H2 h => ⟨items.length - (i + 1), by omega, rfl, hlt, h⟩, fun xv H2 hy => ?_⟩
      obtain ⟨s2, ti, rfl, ki, hdi, ci⟩ := w.yld i H' xv H2 k1' k2' hlt hy
      have hdrop : items.drop i = ti.d :: items.drop (i + 1) := by
        rw [List.drop_eq_getElem_cons hlt]
        congr 1
        rw [List.getElem?_eq_getElem hlt] at hdi
        exact Option.some.inj hdi
      rw [hdrop] at q
      unfold forB at q
      have h2 : I σ' H2 := ⟨h'.1.trans s2, h'.2⟩
      have E2 := EB h2
      have sepi : Sep (env0.map borF) τ ti := fun j => by
        refine ⟨fun d e => ?_, fun ⟨d, e⟩ => ?_⟩
        · obtain ⟨_, _, _, q'⟩ := bor_get e
          cases q'
        · obtain ⟨_, _, _, q'⟩ := bor_get e
          cases q'
      cases eb : bindTg tg ti.d (env0.map borF) with
      | no =>
        exfalso
        have : f ti.d = .no := by show (bindTg tg ti.d _).b _ = _; rw [eb]; rfl
        rw [this] at q; exact q
      | ex c =>
        exfalso
        revert eb
        unfold bindTg
        split
        · intro z; cases z
        · split <;> intro z <;> cases z
        · intro z; cases z
      | ok env2 =>
        have ef : f ti.d = evSs Pg n body env2 := by show (bindTg tg ti.d _).b _ = _; rw [eb]; rfl
        rw [ef] at q
        refine bind_ok (K := X.K) E2 ki (fun a ha => ?_) sepi eb rfl (fun _ _ _ _ => rfl) (tgD ht) fun τ' σ2 E3 _ _ _ _ => ⟨C', rfl, rfl, env2, τ', E3, ?_⟩
        · rcases ci a ha with h | h
          · exact .inl (h'.1.free h)
          · exact .inr (List.mem_append_right _ (List.mem_append_left _ (h.elim (List.mem_append_left _) (List.mem_append_right _))))
        · revert q
          cases evSs Pg n body env2 with
          | no => exact id
          | ex c => exact id
          | ok o =>
            intro q
            rw [b_ok] at q
            cases o with
            | nx e =>
              dsimp only at q
              split at q
              · rename_i ho
                exact fun τ σ H E => ⟨back ho E, q⟩
              · exact q.elim
            | ct e =>
              dsimp only at q
              split at q
              · rename_i ho
                exact fun τ σ H E => ⟨back ho E, q⟩
              · exact q.elim
            | bk e =>
              dsimp only at q
              split at q
              · rename_i ho
                exact fun τ σ H E => q σ H (back ho E)
              · exact q.elim
            | rt d fr => exact q
    · have : i = items.length := by omega
      subst this
      rw [List.drop_length] at q
      unfold forB at q
      exact .inl ⟨w.stop _ H' k1' k2' (Nat.le_refl _), q _ _ h'⟩
theorem ps_whlE {c : CE} {body : List CS} {kl : List Nat} {t : Expr} {xs : List Stmt} {pos : Pos} (g : GoodS X b C.G Pg L C.W sc) (ht : PT X t (tT C (evE Pg c))) (hb : PSs X xs (tS C (evSs Pg n body))) : PS X (.While t xs [] pos) (tS C (evS Pg n (.whl c body kl))) := by
  refine PS.weak (ps_while g.pass ht hb) fun De σ H ⟨env, τ, E, q⟩ => ?_
  rw [evS] at q
  generalize hf : (fun env => (evSs Pg n body env).b fun o => R.ok (o.kil kl)) = f at q
  refine ⟨fun m σ H => ∃ env τ, EO C.G C.F C.A₀ env τ σ H ∧ outR C De (whlL (fun env => (evE Pg c env).b fun x => match x.1 with
      | .bl b => .ok b
      | _ => .no) f m env), ⟨n, env, τ, E, q⟩, ?_⟩
  rintro m σ H ⟨env, τ, E, q⟩
  cases m with
  | zero => unfold whlL at q; exact q.elim
  | succ m =>
    unfold whlL at q
    refine ⟨env, τ, E, ?_⟩
    cases e : evE Pg c env with
    | no => rw [e] at q; exact q
    | ex k => rw [e] at q; exact fun H' s => q σ H' (E.old.trans s)
    | ok ry =>
      rw [e, b_ok] at q
      obtain ⟨d, o, u⟩ := ry
      cases d with
      | bl x =>
        rw [b_ok] at q
        cases x with
        | false =>
          intro H' s
          show (if false = true then _ else _)
          rw [if_neg (by simp)]
          rw [if_neg (by simp)] at q
          exact q _ _ _ (E.same s)
        | true =>
          intro H1 s
          show (if true = true then _ else _)
          rw [if_pos rfl] at q ⊢
          refine ⟨fun σ' H' => ∃ env τ, EO C.G C.F C.A₀ env τ σ' H' ∧ outR C De (whlL (fun env => (evE Pg c env).b fun x => match x.1 with
            | .bl b => .ok b
            | _ => .no) f m env), fun σ' H' h => ⟨m, Nat.lt_succ_self m, h⟩, env, τ, E.same s, ?_⟩
          have hf' : f env = (evSs Pg n body env).b fun o => R.ok (o.kil kl) := by rw [← hf]
          rw [hf'] at q
          revert q
          cases evSs Pg n body env with
          | no => exact id
          | ex c => exact id
          | ok o =>
            intro q
            cases o with
            | nx e => exact fun τ σ H E => ⟨_, τ, E.kil kl, q⟩
            | ct e => exact fun τ σ H E => ⟨_, τ, E.kil kl, q⟩
            | bk e => exact fun τ σ H E => q τ σ H (E.kil kl)
            | rt d fr => exact q
      | _ => exact q
end
end FR

namespace FR
open PySem PySem.Spec L2
/-! ### for row in lists: row.append(c) -/
section
variable {C : CE₀} {X : Cx} {b : Tb} {Pg : Prog} {L n : Nat} {sc : Scope}
/-- an item of a deep list gets one thing more -/
theorem EO.nest {F : Hp} {A₀ : AP} {env : En} {τ : Nat → T} {σ : L2.St} {H : Hp} {G : Gs} {i kk : Nat} {ds : List D} {p c : Addr} {xs zs : List T} {t : T} (E : EO G F A₀ env τ σ H) (e1 : env[i]? = some (some (Sl.val (.node .lst ds) .deep))) (et : τ i = .node (.lst none) p xs) (hx : xs[kk]? = some (.node (.lst none) c zs))
    (k2 : t.ok G H) (tn : t.fp.Nodup) (tp : t.plain) (tw : ∀ b ∈ t.fp, F b = none) (tz : ∀ j, isVal env j → ∀ b ∈ t.fp, b ∉ (τ j).fp) :
    H c = some (.lst (zs.map (T.v G))) ∧ EO G F A₀ (setS i (.val (.node .lst (ds.set kk (.node .lst (T.ds zs ++ [t.d])))) .deep) env) (FR.put τ i (.node (.lst none) p (xs.set kk (.node (.lst none) c (zs ++ [t]))))) σ (upd H c (.lst ((zs ++ [t]).map (T.v G)))) := by
  obtain ⟨v1, v2, v3⟩ := E.val i _ _ e1
  rw [et] at v1 v2
  have d2 : T.ds xs = ds := by simpa [T.d, TK.dk] using v1
  subst d2
  unfold T.ok at v2
  obtain ⟨d3, d4⟩ := v2
  have d3 : H p = some (.lst (xs.map (T.v G))) := d3
  obtain ⟨n0, p0, w0, z0⟩ := E.deep i ⟨_, e1⟩
  rw [et] at n0 p0 w0 z0
  simp only [T.fp, List.nodup_cons] at n0
  unfold T.plain at p0
  have yk := oks_iff.mp d4 _ (List.mem_of_getElem? hx)
  unfold T.ok at yk
  obtain ⟨f3, f4⟩ := yk
  have f3' : H c = some (.lst (zs.map (T.v G))) := f3
  have yp := plains_iff.mp p0.2 _ (List.mem_of_getElem? hx)
  have ym : ∀ b ∈ (T.node (.lst none) c zs).fp, b ∈ T.fps xs := fun b hb => mem_fps.mpr ⟨_, List.mem_of_getElem? hx, hb⟩
  have cn : ∀ b ∈ t.fp, b ∉ (τ i).fp := fun b hb => tz i ⟨_, _, e1⟩ b hb
  rw [et] at cn
  have zsn : (c :: T.fps zs).Nodup := by
    have := (erase_apart hx n0.2).1
    simpa [T.fp] using this
  let t2 : T := .node (.lst none) c (zs ++ [t])
  let t3 : T := .node (.lst none) p (xs.set kk t2)
  have t2fp : ∀ b ∈ t2.fp, b ∈ (T.node (.lst none) c zs).fp ∨ b ∈ t.fp := fun b hb => by
    simp only [t2, T.fp, fps_append, T.fps, List.append_nil, List.mem_cons, List.mem_append] at hb ⊢
    rcases hb with hb | hb | hb
    · exact .inl (.inl hb)
    · exact .inl (.inr hb)
    · exact .inr hb
  have t3fp : ∀ b ∈ t3.fp, b ∈ (τ i).fp ∨ b ∈ t.fp := fun b hb => by
    rw [et]
    simp only [t3, T.fp, List.mem_cons] at hb ⊢
    rcases hb with rfl | hb
    · exact .inl (.inl rfl)
    · rcases fps_set hb with hb | hb
      · exact .inl (.inr hb)
      · rcases t2fp b hb with hb | hb
        · exact .inl (.inr (ym b hb))
        · exact .inr hb
  have pc : p ≠ c := fun z => n0.1 (ym p (by rw [z]; simp [T.fp]))
  have hup : ∀ b, b ≠ c → (upd H c (.lst ((zs ++ [t]).map (T.v G)))) b = H b := fun b hb => upd_ne hb
  have H'keep : ∀ {z : T}, z.ok G H → c ∉ z.fp → z.ok G (upd H c (.lst ((zs ++ [t]).map (T.v G)))) := fun {z} kz hz => kz.keep fun b hb w hw => by
    rw [hup b (fun e => hz (e ▸ hb))]; exact hw
  have t2ok : t2.ok G (upd H c (.lst ((zs ++ [t]).map (T.v G)))) := by
    unfold t2 T.ok
    refine ⟨upd_same, oks_iff.mpr fun z hz => ?_⟩
    rcases List.mem_append.mp hz with hz | hz
    · exact H'keep (oks_iff.mp f4 z hz) fun hb => (List.nodup_cons.mp zsn).1 (mem_fps.mpr ⟨z, hz, hb⟩)
    · have : z = t := by simpa using hz
      subst this
      exact H'keep k2 fun hb => cn c hb (by simp [T.fp, ym c (by simp [T.fp])])
  have t3ok : t3.ok G (upd H c (.lst ((zs ++ [t]).map (T.v G)))) := by
    unfold t3 T.ok
    refine ⟨?_, oks_iff.mpr fun z hz => ?_⟩
    · show upd H c _ p = _
      rw [hup p pc, d3, List.map_set]
      congr 2
      refine List.ext_getElem? fun m => ?_
      rw [List.getElem?_set]
      split
      · rename_i hm
        subst hm
        rw [List.getElem?_map, hx]
        have hlt := (List.getElem?_eq_some_iff.mp hx).1
        rw [if_pos (by rw [List.length_map]; exact hlt)]
        rfl
      · rfl
    · obtain ⟨m, hm⟩ := List.mem_iff_getElem?.mp hz
      rw [List.getElem?_set] at hm
      split at hm
      · split at hm
        · cases hm; exact t2ok
        · cases hm
      · rename_i hne
        refine H'keep (oks_iff.mp d4 z (List.mem_of_getElem? hm)) fun hb => ?_
        have hz' : z ∈ xs.eraseIdx kk := List.mem_eraseIdx_iff_getElem?.mpr ⟨m, Ne.symm hne, hm⟩
        exact (erase_apart hx n0.2).2 c (by simp [T.fp]) (mem_fps.mpr ⟨z, hz', hb⟩)
  have n2 : t2.fp.Nodup := by
    simp only [t2, T.fp, fps_append, T.fps, List.append_nil]
    obtain ⟨z1, z2⟩ := List.nodup_cons.mp zsn
    refine List.nodup_cons.mpr ⟨fun hb => ?_, List.nodup_append.mpr ⟨z2, tn, fun b hb b' hb' e => ?_⟩⟩
    · rcases List.mem_append.mp hb with hb | hb
      · exact z1 hb
      · exact cn c hb (by simp [T.fp, ym c (by simp [T.fp])])
    · subst e
      exact cn b hb' (by simp [T.fp, ym b (by simp [T.fp, hb])])
  have n3 : t3.fp.Nodup := by
    simp only [t3, T.fp]
    refine List.nodup_cons.mpr ⟨fun hb => ?_, nodup_swap hx n0.2 n2 fun b hb => ?_⟩
    · rcases fps_set hb with hb | hb
      · exact n0.1 hb
      · rcases t2fp p hb with hb | hb
        · exact n0.1 (ym p hb)
        · exact cn p hb (by simp [T.fp])
    · rcases t2fp b hb with hb | hb
      · exact .inl hb
      · exact .inr fun hc => cn b hb (by simp [T.fp, hc])
  refine ⟨f3', ?_⟩
  have E3 := EO.redo (H' := upd H c (.lst ((zs ++ [t]).map (T.v G)))) (t := t3) E e1 (fun b o hb hn => by rw [hup b (fun z => hn (by rw [et, z]; simp [T.fp, ym c (by simp [T.fp])]))]; exact hb) t3ok (by rw [et]; rfl) n3
    (by
      unfold t3 T.plain
      refine ⟨trivial, plains_iff.mpr fun z hz => ?_⟩
      rcases List.mem_or_eq_of_mem_set hz with hz | rfl
      · exact plains_iff.mp p0.2 z hz
      · unfold t2 T.plain
        unfold T.plain at yp
        refine ⟨trivial, plains_iff.mpr fun z hz => ?_⟩
        rcases List.mem_append.mp hz with hz | hz
        · exact plains_iff.mp yp.2 z hz
        · have : z = t := by simpa using hz
          subst this
          exact tp) (fun b hb => ?_) fun j hj vj b hb hc => ?_
  · have ed : t3.d = .node .lst ((T.ds xs).set kk (.node .lst (T.ds zs ++ [t.d]))) := by
      simp only [t3, t2, T.d, TK.dk]
      rw [ds_set]
      simp [T.d, TK.dk, ds_map]
    rw [ed] at E3
    exact E3
  · rcases t3fp b hb with hb | hb
    · rw [et] at hb; exact w0 b hb
    · exact tw b hb
  · rcases t3fp b hb with hb | hb
    · rw [et] at hb
      exact z0 j hj vj b hb hc
    · exact tz j vj b hb hc
/-- a slot that is not known may be written -/
theorem EO.free {F : Hp} {A₀ : AP} {env : En} {τ : Nat → T} {σ : L2.St} {H : Hp} {G : Gs} {i : Nat} {v : Option V} (E : EO G F A₀ env τ σ H) (h : ∀ s, env[i]? ≠ some (some s)) : EO G F A₀ env τ (σ.set i v) H := by
  have ne : ∀ {j s}, env[j]? = some (some s) → (σ.set i v)[j]? = σ[j]? := fun {j s} e => List.getElem?_set_ne fun z => h s (by rw [z]; exact e)
  refine ⟨by rw [List.length_set, E.len], fun j d o e => ?_, fun j k p e => ?_, E.old, E.cov, E.top, E.deep, fun j d e => by rw [ne e]; exact E.pin j d e⟩
  · obtain ⟨a, c, d⟩ := E.val j d o e
    exact ⟨a, c, by rw [ne e]; exact d⟩
  · obtain ⟨d, o, t, a, c, f⟩ := E.ali j k p e
    exact ⟨d, o, t, a, c, by rw [ne e]; exact f⟩
theorem deepL_of {env : En} {j : Nat} (h : deepL env j = true) : ∃ ds, env[j]? = some (some (Sl.val (.node .lst ds) .deep)) ∧ ∀ d ∈ ds, d.flat = false := by
  unfold deepL at h
  split at h
  · exact ⟨_, by assumption, fun d hd => by simpa using List.all_eq_true.mp h d hd⟩
  · cases h
theorem constE_of {e : CE} {dv : D} (h : constE e = some dv) (env : En) : evE Pg e env = .ok (dv, .deep, []) := by
  unfold constE at h
  split at h
  · split at h
    · rename_i hf
      cases h
      rw [evE, if_pos hf]
    · cases h
  · cases h
    rw [evE, evEs]; rfl
  · cases h
/-- what stays of the walked lists -/
structure Keeps (G : Gs) (js : List Nat) (Pa : Nat → Addr) (VJ : Nat → List V) (env : En) (τ : Nat → T) : Prop where
  at_ : ∀ j ∈ js, ∃ ds xs, env[j]? = some (some (Sl.val (.node .lst ds) .deep)) ∧ τ j = .node (.lst none) (Pa j) xs ∧ xs.map (T.v G) = VJ j
theorem spot_of {dv : D} {env env2 : En} {j kk : Nat} (h : appSpot dv env (j, kk) = some env2) : ∃ ds ys, env[j]? = some (some (Sl.val (.node .lst ds) .deep)) ∧ ds[kk]? = some (.node .lst ys) ∧ ys.length < LIM ∧ env2 = setS j (.val (.node .lst (ds.set kk (.node .lst (ys ++ [dv])))) .deep) env := by
  unfold appSpot at h
  split at h
  · rename_i ds e1
    split at h
    · rename_i ys e2
      split at h
      · rename_i hl
        cases h
        exact ⟨ds, ys, e1, e2, hl, rfl⟩
      · cases h
    · cases h
  · cases h
def tOne (C : CE₀) (K : PySem.W.Frag) (tg : Nat) (f : En → Rv) : TS := tSeq (tDrop (tBM K "list" rAppend (tVar tg) (tCons (tE C f) tNil))) tNext
/-- the turns -/
theorem all_turns {dv : D} {e : CE} {js : List Nat} {tg : Nat} {Pa : Nat → Addr} {VJ : Nat → List V} {S : List (Nat × Nat)} {a : Addr} {VL : List V} {envF env0 : En} {τ0 : Nat → T} {σ0 : L2.St} {H1 : Hp} {De : Ends} {K : PySem.W.Frag} {J : It} (hJ : J = Itl K a) (ce : constE e = some dv)
    (kp : ∀ env τ σ H, EO C.G C.F C.A₀ env τ σ H → Keeps C.G js Pa VJ env τ → (H a = some (.lst VL) ∨ a ∈ js.map Pa) → SqL K H a VL) (hq : H1 a = some (.lst VL) ∨ a ∈ js.map Pa) (hqn : a ∉ js.map Pa → ∀ c, V.ref c ∈ js.flatMap VJ → c ≠ a)
    (hS : ∀ s ∈ S, s.1 ∈ js) (hSV : ∀ (i : Nat) s, S[i]? = some s → VL[i]? = (VJ s.1)[s.2]?) (hl : VL.length = S.length) (ntg : tg ∉ js) (ltg : tg < env0.length)
    (E0 : EO C.G C.F C.A₀ env0 τ0 σ0 H1) (K0 : Keeps C.G js Pa VJ env0 τ0) (n0 : ∀ s, env0[tg]? ≠ some (some s)) (run : appAll dv S env0 = some envF) (fin : ∀ τ σ H, EO C.G C.F C.A₀ envF τ σ H → De.nx σ H) :
    ∃ W : Nat → Nat → L2.St → Hp → Prop, (∃ m, W 0 m σ0 H1) ∧ ∀ i m σ H, W i m σ H →
      (J.stop i H ∧ De.nx σ H) ∨ (J.go i H ∧ ∃ N : L2.St → Hp → Prop, (∀ σ' H', N σ' H' → ∃ m', m' < m ∧ W (i + 1) m' σ' H') ∧ ∀ x H', J.yld i H x H' → gName tg x σ H' fun σ2 H2 => tOne C K tg (evE Pg e) { De with nx := N, ct := N, bk := De.nx } σ2 H2) := by
  subst hJ
  refine ⟨fun i m σ H => m = S.length - i ∧ i ≤ S.length ∧ (H a = some (.lst VL) ∨ a ∈ js.map Pa) ∧ ∃ env τ, appAll dv (S.drop i) env = some envF ∧ EO C.G C.F C.A₀ env τ σ H ∧ Keeps C.G js Pa VJ env τ ∧ (∀ s, env[tg]? ≠ some (some s)) ∧ tg < env.length, ⟨S.length, by simp, Nat.zero_le _, hq, env0, τ0, by rw [List.drop_zero]; exact run, E0, K0, n0, ltg⟩, ?_⟩
  rintro i m σ H ⟨rfl, hi, hqi, env, τ, rn, E, kk0, ntv, lt⟩
  have sq := kp env τ σ H E kk0 hqi
  by_cases hlt : i < S.length
  · obtain ⟨⟨j, kk⟩, hs⟩ : ∃ s, S[i]? = some s := ⟨S[i], List.getElem?_eq_getElem hlt⟩
    have hjs : j ∈ js := hS _ (List.mem_of_getElem? hs)
    have hdrop : S.drop i = (j, kk) :: S.drop (i + 1) := by
      rw [List.drop_eq_getElem_cons hlt]
      congr 1
      rw [List.getElem?_eq_getElem hlt] at hs
      exact Option.some.inj hs
    rw [hdrop, appAll] at rn
    obtain ⟨env2, sp, rn2⟩ := Option.bind_eq_some_iff.mp rn
    obtain ⟨ds, ys, e1, e2, hlen, rfl⟩ := spot_of sp
    obtain ⟨ds', xs, e1', et, ev⟩ := kk0.at_ j hjs
    rw [e1] at e1'
    have : ds' = ds := by
      injection e1' with e1'; injection e1' with e1'; injection e1' with q1 q2; injection q1 with q3 q4; exact q4.symm
    subst this
    obtain ⟨v1, v2, v3⟩ := E.val j _ _ e1
    rw [et] at v1 v2
    have d2 : T.ds xs = ds' := by simpa [T.d, TK.dk] using v1
    subst d2
    rw [ds_get] at e2
    cases hx : xs[kk]? with
    | none => rw [hx] at e2; cases e2
    | some y =>
      rw [hx] at e2
      simp only [Option.map_some, Option.some.injEq] at e2
      unfold T.ok at v2
      have yk := oks_iff.mp v2.2 y (List.mem_of_getElem? hx)
      obtain ⟨nn, pp, ww, zz⟩ := E.deep j ⟨_, e1⟩
      rw [et] at pp
      unfold T.plain at pp
      obtain ⟨tk, c, zs, rfl, f1, rfl, f3, f4⟩ := yk.node e2
      have yp := plains_iff.mp pp.2 _ (List.mem_of_getElem? hx)
      have fz : tk = .lst none := by
        cases tk with
        | lst fz => cases fz with
          | none => rfl
          | some z => unfold T.plain at yp; exact yp.1.elim
        | tup => cases f1
        | ins c dx => cases f1
      subst fz
      have f3' : H c = some (.lst (zs.map (T.v C.G))) := f3
      have vref : VL[i]? = some (.ref c) := by
        rw [hSV i _ hs, ← ev, List.getElem?_map, hx]; rfl
      refine .inr ⟨⟨VL, _, sq, vref⟩, fun σ2 H2 => (H2 a = some (.lst VL) ∨ a ∈ js.map Pa) ∧ ∃ env τ, appAll dv (S.drop (i + 1)) env = some envF ∧ EO C.G C.F C.A₀ env τ σ2 H2 ∧ Keeps C.G js Pa VJ env τ ∧ (∀ s, env[tg]? ≠ some (some s)) ∧ tg < env.length, fun σ2 H2 h => ⟨S.length - (i + 1), by omega, rfl, hlt, h⟩, fun xv H2 hy => ?_⟩
      obtain ⟨rfl, hy⟩ := hy
      have : some (V.ref c) = some xv := by rw [← vref]; exact hy VL sq
      cases this
      show tOne C K tg (evE Pg e) _ (σ.set tg (some (V.ref c))) H2
      refine ⟨.ref c, by rw [List.getElem?_set_self (by rw [E.len]; exact lt)], tyL f3', env, τ, E.free ntv, ?_⟩
      rw [constE_of ce env]
      intro H3 t s3 k3 ed3 g3
      have E3 := (E.free (v := some (V.ref c)) ntv).same s3
      obtain ⟨tn, tp, tw, tz⟩ := g3.one.alone (E.free (v := some (V.ref c)) ntv)
      simp only [T.fps, List.append_nil, T.plains, and_true] at tn tp tw tz
      have ak : FR.after .deep [] env = env := rfl
      rw [ak] at tz
      obtain ⟨hc3, E4⟩ := E3.nest e1 et hx k3 tn tp tw tz
      refine ⟨c, _, t.v C.G, rfl, rfl, hc3, ?_, ?_⟩
      · rw [List.length_map]
        rw [ds_length] at hlen
        exact hlen
      · refine ⟨?_, _, FR.put τ j (.node (.lst none) (Pa j) (xs.set kk (.node (.lst none) c (zs ++ [t])))), rn2, ?_, ⟨fun j' hj' => ?_⟩, fun s hs => ?_, by rw [setS_len]; exact lt⟩
        · rcases hqi with hqi | hqi
          · by_cases hm : a ∈ js.map Pa
            · exact .inr hm
            · refine .inl ?_
              have hca : c ≠ a := hqn hm c (List.mem_flatMap.mpr ⟨j, hjs, by rw [← ev]; exact List.mem_map.mpr ⟨_, List.mem_of_getElem? hx, rfl⟩⟩)
              rw [upd_ne fun z => hca z.symm]
              exact s3 _ _ hqi
          · exact .inr hqi
        · have := E4
          rw [List.map_append, ed3] at this
          exact this
        · by_cases hjj : j' = j
          · subst hjj
            have hjl : j' < env.length := (List.getElem?_eq_some_iff.mp e1).1
            refine ⟨_, _, setS_self hjl, by rw [put_self], ?_⟩
            rw [List.map_set, ← ev]
            refine List.ext_getElem? fun m => ?_
            rw [List.getElem?_set]
            split
            · rename_i hm
              subst hm
              rw [List.getElem?_map, hx]
              have hlt' := (List.getElem?_eq_some_iff.mp hx).1
              rw [if_pos (by rw [List.length_map]; exact hlt')]
              rfl
            · rfl
          · obtain ⟨ds2, xs2, a1, a2, a3⟩ := kk0.at_ j' hj'
            exact ⟨ds2, xs2, (setS_val hjj).mpr a1, by rw [put_ne hjj]; exact a2, a3⟩
        · have hjt : tg ≠ j := fun z => ntg (z ▸ hjs)
          cases s with
          | val d o => exact ntv _ ((setS_val hjt).mp hs)
          | al m p => exact ntv _ ((setS_al hjt).mp hs).1
  · have : i = S.length := by omega
    subst this
    rw [List.drop_length, appAll] at rn
    cases rn
    exact .inl ⟨⟨VL, sq, by rw [hl]; exact Nat.le_refl _⟩, fin _ _ _ E⟩
theorem kids_at {G : Gs} {F H : Hp} {A₀ : AP} {env : En} {τ : Nat → T} {σ : L2.St} (E : EO G F A₀ env τ σ H) {js : List Nat} (hd : js.all (deepL env) = true) : ∃ (Pa : Nat → Addr) (XJ : Nat → List T), ∀ j ∈ js, ∃ ds, env[j]? = some (some (Sl.val (.node .lst ds) .deep)) ∧ τ j = .node (.lst none) (Pa j) (XJ j) ∧ T.ds (XJ j) = ds ∧ lenAt env j = (XJ j).length ∧ H (Pa j) = some (.lst ((XJ j).map (T.v G))) ∧ σ[j]? = some (some (.ref (Pa j))) := by
  refine ⟨fun j => match τ j with | .node _ a _ => a | _ => 0, fun j => match τ j with | .node _ _ xs => xs | _ => [], fun j hj => ?_⟩
  obtain ⟨ds, e, _⟩ := deepL_of (List.all_eq_true.mp hd j hj)
  obtain ⟨a, xs, et, d2, d3, d4, d5, d6, _⟩ := E.own e (by simp)
  refine ⟨ds, e, by simp only [et], by simp only [et]; exact d2, ?_, by simp only [et]; exact d3, by simp only [et]; exact d6⟩
  unfold lenAt
  rw [e]
  simp only [et]
  rw [← d2, ds_length]
theorem spots_mem {env : En} {js : List Nat} : ∀ s ∈ spots env js, s.1 ∈ js := by
  intro s hs
  unfold spots at hs
  obtain ⟨j, hj, h⟩ := List.mem_flatMap.mp hs
  obtain ⟨k, _, rfl⟩ := List.mem_map.mp h
  exact hj
theorem spots_at {env : En} {VJ : Nat → List V} : ∀ {js : List Nat}, (∀ j ∈ js, lenAt env j = (VJ j).length) → (js.flatMap VJ).length = (spots env js).length ∧ ∀ (i : Nat) s, (spots env js)[i]? = some s → (js.flatMap VJ)[i]? = (VJ s.1)[s.2]?
  | [], _ => ⟨rfl, fun i s h => by simp [spots] at h⟩
  | j :: js, h => by
    obtain ⟨h1, h2⟩ := spots_at (js := js) fun k hk => h k (by simp [hk])
    have hj := h j (by simp)
    have e : spots env (j :: js) = ((List.range (lenAt env j)).map fun k => (j, k)) ++ spots env js := by unfold spots; rw [List.flatMap_cons]
    rw [e, List.flatMap_cons]
    refine ⟨by rw [List.length_append, List.length_append, h1, List.length_map, List.length_range, hj], fun i s hs => ?_⟩
    by_cases hi : i < lenAt env j
    · rw [List.getElem?_append_left (by rw [List.length_map, List.length_range]; exact hi), List.getElem?_map, List.getElem?_range hi] at hs
      simp only [Option.map_some, Option.some.injEq] at hs
      subst hs
      rw [List.getElem?_append_left (by rw [← hj]; exact hi)]
    · rw [List.getElem?_append_right (by rw [List.length_map, List.length_range]; omega), List.length_map, List.length_range] at hs
      rw [List.getElem?_append_right (by rw [← hj]; omega), ← hj]
      exact h2 _ s hs
theorem refs_there {G : Gs} {F H : Hp} {A₀ : AP} {env : En} {τ : Nat → T} {σ : L2.St} (E : EO G F A₀ env τ σ H) {j : Nat} {p : Addr} {xs : List T} {d : D} {o : Own} (e : env[j]? = some (some (Sl.val d o))) (et : τ j = .node (.lst none) p xs) {c : Addr} (h : V.ref c ∈ xs.map (T.v G)) : (∃ x ∈ xs, ∃ q, x = .leaf q) ∨ ∃ o, H c = some o := by
  obtain ⟨x, hx, hv⟩ := List.mem_map.mp h
  cases x with
  | leaf q => exact .inl ⟨_, hx, q, rfl⟩
  | node k a ys =>
    cases hv
    obtain ⟨_, k2, _⟩ := E.val j d o e
    exact .inr (k2.trk (by rw [et]; simp only [T.fp, List.mem_cons]; exact .inr (mem_fps.mpr ⟨_, hx, by simp [T.fp]⟩)))
theorem ps_appAll {js : List Nat} {tg : Nat} {e : CE} {x y a : Str} {px py ap cp pos1 pos : Pos} {it v : Expr} (g : GoodS X b C.G Pg L C.W sc) (h1 : nameL b sc (fun _ => true) tg x = true) (h2 : mcB b sc tg "append" y a ap cp = true) (h3 : okSt v = true) (h4 : chkE b sc e v = true)
    (h5 : (match js, it with
      | [j], .Name z _ => slotB b sc j z
      | [j, k], .BinOp (.Name z _) .Add (.Name z' _) _ => slotB b sc j z && slotB b sc k z'
      | _, _ => false) = true) : PS X (.For (.Name x px) it [.Expr (.Call (.Attribute (.Name y py) a ap) [v] [] cp) pos1] [] pos) (tS C (evS Pg n (.appAll js tg e))) := by
  obtain ⟨m1, rfl, hl⟩ := mcB_ok h2
  have body : PSs X [.Expr (.Call (.Attribute (.Name y py) "append" ap) [v] [] cp) pos1] (tOne C X.K tg (evE Pg e)) :=
    pss_cons (ps_expr (pe_bm PySem.F.plainAttrs_list PySem.F.slot_list_append PySem.F.type_list_append mt_append (pe_slot0 g.e m1) (pa_cons (chkE_ok e v sc X C g.e h4).1 pa_nil (okSt_ok h3)) (by rfl) (by rw [okSt_ok h3]; rfl) (by rw [hl]; simp) (okSt_ok h3) (by rfl)) (by rfl)) pss_nil
  have tgt : PG X (.Name x px) (gName tg) := pg_of (tg := [tg]) (fn := fun _ => true) g.e (fun x _ => g.fnv x) (by unfold tgB; exact h1)
  have go : ∀ (wi : TI) (ns : ∀ x, foldedSetIterable it X.env x = pure x), PI X (.Name x px) it wi → (∀ (De : Ends) σ H env τ dv envF, EO C.G C.F C.A₀ env τ σ H → constE e = some dv → js.all (deepL (kil [tg] env)) = true → tg < env.length → (spots (kil [tg] env) js).length ≤ LIM → appAll dv (spots (kil [tg] env) js) (kil [tg] env) = some envF → (∀ τ σ H, EO C.G C.F C.A₀ envF τ σ H → De.nx σ H) → tFor wi (gName tg) (tOne C X.K tg (evE Pg e)) De σ H) → PS X (.For (.Name x px) it [.Expr (.Call (.Attribute (.Name y py) "append" ap) [v] [] cp) pos1] [] pos) (tS C (evS Pg n (.appAll js tg e))) := by
    intro wi ns hi hf
    refine PS.weak (ps_for g.pass g.e.calm hi tgt body ns) fun De σ H ⟨env, τ, E, q⟩ => ?_
    rw [evS] at q
    cases ce : constE e with
    | none => rw [ce] at q; exact q.elim
    | some dv =>
      rw [ce] at q
      dsimp only at q
      split at q
      · rename_i hc
        simp only [Bool.and_eq_true, decide_eq_true_eq] at hc
        cases run : appAll dv (spots (kil [tg] env) js) (kil [tg] env) with
        | none => rw [run] at q; exact q.elim
        | some envF =>
          rw [run] at q
          exact hf De σ H env τ dv envF E ce hc.1.1 hc.1.2 hc.2 run q
      · exact q.elim
  have n0 : ∀ (env : En) (s : Sl), (kil [tg] env)[tg]? ≠ some (some s) := fun env s hs => (kil_get.mp hs).1 (by simp)
  have ntg : ∀ {env : En}, js.all (deepL (kil [tg] env)) = true → tg ∉ js := fun {env} hd hm => by
    obtain ⟨ds, e, _⟩ := deepL_of (List.all_eq_true.mp hd tg hm)
    exact n0 env _ e
  split at h5
  · -- one list
    rename_i j z pz
    refine go _ (fun _ => rfl) (pi_list (pe_slot0 g.e h5)) fun De σ H env τ dv envF E ce hd lt hsl run fin => ?_
    have E0 := E.kil [tg]
    obtain ⟨Pa, XJ, kj⟩ := kids_at E0 hd
    obtain ⟨ds, a1, a2, a3, a4, a5, a6⟩ := kj j (by simp)
    obtain ⟨s1, s2⟩ := spots_at (VJ := fun j => (XJ j).map (T.v C.G)) (js := [j]) (env := kil [tg] env) fun k hk => by
      obtain ⟨_, _, _, _, q, _⟩ := kj k hk
      rw [List.length_map]; exact q
    refine ⟨.ref (Pa j), a6, Pa j, rfl, ⟨_, .inl (.inl a5)⟩, ?_⟩
    refine all_turns (C := C) (Pa := Pa) (VJ := fun j => (XJ j).map (T.v C.G)) (js := [j]) (S := spots (kil [tg] env) [j]) (VL := [j].flatMap fun j => (XJ j).map (T.v C.G)) (τ0 := τ) rfl ce (fun env' τ' σ' H' E' K' _ => ?_) (.inr (by simp)) (fun h => absurd (by simp) h) spots_mem s2 s1 (ntg hd) (by rw [kil_len]; exact lt) E0 ⟨fun k hk => ?_⟩ (n0 env) run fin
    · obtain ⟨ds', xs', b1, b2, b3⟩ := K'.at_ j (by simp)
      obtain ⟨_, k2, _⟩ := E'.val j _ _ b1
      rw [b2] at k2
      unfold T.ok at k2
      have : H' (Pa j) = some (.lst (xs'.map (T.v C.G))) := k2.1
      rw [b3] at this
      rw [List.flatMap_cons, List.flatMap_nil, List.append_nil]
      exact .inl (.inl this)
    · obtain ⟨ds', b1, b2, b3, b4, b5, b6⟩ := kj k hk
      exact ⟨ds', XJ k, b1, b2, rfl⟩
  · -- two lists, one behind the other
    rename_i j k z pz z' pz' pb
    simp only [Bool.and_eq_true] at h5
    refine go _ (fun _ => rfl) (pi_list (pe_op op_catR (pe_slot0 g.e h5.1) (pe_slot0 g.e h5.2))) fun De σ H env τ dv envF E ce hd lt hsl run fin => ?_
    have E0 := E.kil [tg]
    obtain ⟨Pa, XJ, kj⟩ := kids_at E0 hd
    obtain ⟨ds, a1, a2, a3, a4, a5, a6⟩ := kj j (by simp)
    obtain ⟨ds', c1, c2, c3, c4, c5, c6⟩ := kj k (by simp)
    obtain ⟨s1, s2⟩ := spots_at (VJ := fun j => (XJ j).map (T.v C.G)) (js := [j, k]) (env := kil [tg] env) fun k hk => by
      obtain ⟨_, _, _, _, q, _⟩ := kj k hk
      rw [List.length_map]; exact q
    have el : ([j, k].flatMap fun j => (XJ j).map (T.v C.G)) = (XJ j).map (T.v C.G) ++ (XJ k).map (T.v C.G) := by simp
    refine ⟨.ref (Pa j), a6, .ref (Pa k), c6, Pa j, Pa k, _, _, rfl, rfl, .inl a5, .inl c5, ?_, fun p hp => ⟨p, rfl, ⟨_, .inl (.inl upd_same)⟩, ?_⟩⟩
    · have : ((XJ j).map (T.v C.G)).length + ((XJ k).map (T.v C.G)).length = (spots (kil [tg] env) [j, k]).length := by
        have := congrArg List.length el
        rw [List.length_append] at this
        rw [← this, s1]
      rw [this]; exact hsl
    · have sm : Same H (upd H p (.lst ((XJ j).map (T.v C.G) ++ (XJ k).map (T.v C.G)))) := same_upd hp
      have E1 := E0.same sm
      have np : p ∉ [j, k].map Pa := by
        intro hm
        simp only [List.map_cons, List.map_nil, List.mem_cons, List.not_mem_nil, or_false] at hm
        rcases hm with rfl | rfl
        · rw [hp] at a5; cases a5
        · rw [hp] at c5; cases c5
      refine all_turns (C := C) (Pa := Pa) (VJ := fun j => (XJ j).map (T.v C.G)) (js := [j, k]) (S := spots (kil [tg] env) [j, k]) (VL := [j, k].flatMap fun j => (XJ j).map (T.v C.G)) (τ0 := τ) rfl ce (fun env' τ' σ' H' E' K' hq => ?_) (.inl (by rw [el]; exact upd_same)) (fun _ c hc => ?_) spots_mem s2 s1 (ntg hd) (by rw [kil_len]; exact lt) E1 ⟨fun k' hk => ?_⟩ (n0 env) run fin
      · rcases hq with hq | hq
        · exact .inl (.inl hq)
        · exact absurd hq np
      · intro ec
        subst ec
        obtain ⟨i, hi, hc⟩ := List.mem_flatMap.mp hc
        obtain ⟨dsi, b1, b2, b3, b4, b5, b6⟩ := kj i hi
        obtain ⟨x', hx', hv'⟩ := List.mem_map.mp hc
        obtain ⟨_, k2, _⟩ := E0.val i _ _ b1
        cases x' with
        | leaf q => 
          rw [b2] at k2
          unfold T.ok at k2
          have k3 := oks_iff.mp k2.2 _ hx'
          unfold T.ok at k3
          obtain ⟨ds3, e3, f3⟩ := deepL_of (List.all_eq_true.mp hd i hi)
          rw [b1] at e3
          have e4 : dsi = ds3 := by
            injection e3 with e3; injection e3 with e3; injection e3 with q1 q2; injection q1 with q3 q4
          have := f3 q (by rw [← e4, ← b3, ds_map]; exact List.mem_map.mpr ⟨_, hx', by simp [T.d]⟩)
          rw [this] at k3; cases k3
        | node kk' a' ys' =>
          cases hv'
          obtain ⟨o, ho⟩ := k2.trk (b := c) (by rw [b2]; simp only [T.fp, List.mem_cons]; exact .inr (mem_fps.mpr ⟨_, hx', by simp [T.fp]⟩))
          rw [hp] at ho; cases ho
      · obtain ⟨ds', b1, b2, b3, b4, b5, b6⟩ := kj k' hk
        exact ⟨ds', XJ k', b1, b2, rfl⟩
  · cases h5
end
end FR

namespace FR
open PySem PySem.Spec L2
section
variable {b : Tb} {Pg : Prog} {L n : Nat}
theorem ps_rse {C : CE₀} {X : Cx} {sc : Scope} {c : Nat} {e : Expr} {pos : Pos} (g : GoodS X b C.G Pg L C.W sc) (h : excB b sc c e = true) : PS X (.Raise (some e) none pos) (tS C (evS Pg n (.rse c))) := by
  unfold excB at h
  split at h
  · rename_i x p m j p2 p3
    simp only [Bool.and_eq_true, decide_eq_true_eq] at h
    obtain ⟨h1, h2, h3, h4, h5⟩ := g.e.st.exc c x h.1.1.1 h.1.1.2
    refine PS.weak (L2.ps_raise g.e.calm g.e.tk (pmk_own PySem.F.excBase_ValueError h2 h1 h3 (raises_own h4 h5) (glB_ok g.e h.1.2) (okN_ok h.2).1)) fun De σ H ⟨env, τ, E, q⟩ => ?_
    rw [evS] at q
    exact q σ H E.old
  · cases h
mutual
theorem chkS_ok : ∀ (c : CS) (s : Stmt) (sc : Scope) (X : Cx) (C : CE₀), GoodS X b C.G Pg L C.W sc → chkS b sc c s = true → PS X s (tS C (evS Pg n c))
  | .set i e, s, sc, X, C, g, h => by
    unfold chkS at h; split at h <;> try cases h
    simp only [Bool.and_eq_true] at h
    exact ps_setE g h.1.1 h.1.2 h.2
  | .setT i e, s, sc, X, C, g, h => by
    unfold chkS at h; split at h <;> try cases h
    simp only [Bool.and_eq_true, Bool.not_eq_true'] at h
    exact ps_setTE g h.1.1 h.1.2 h.2
  | .appAll js tg e, s, sc, X, C, g, h => by
    unfold chkS at h; split at h <;> try cases h
    simp only [Bool.and_eq_true] at h
    obtain ⟨⟨⟨⟨h1, h2⟩, h3⟩, h4⟩, h5⟩ := h
    exact ps_appAll g h1 h2 h3 h4 h5
  | .unp is e, s, sc, X, C, g, h => by
    unfold chkS at h; split at h <;> try cases h
    simp only [Bool.and_eq_true, Bool.not_eq_true'] at h
    exact ps_unp g h.1.1 h.1.2 h.2
  | .par is es, s, sc, X, C, g, h => by
    unfold chkS at h; split at h <;> try cases h
    simp only [Bool.and_eq_true, decide_eq_true_eq] at h
    exact ps_parE g h.1.1.1 h.1.1.2 h.1.2 h.2
  | .app i e, s, sc, X, C, g, h => by
    unfold chkS at h; split at h <;> try cases h
    simp only [Bool.and_eq_true] at h
    exact ps_app g h.1.1 h.1.2 h.2
  | .appAt i a e, s, sc, X, C, g, h => by
    unfold chkS at h; split at h <;> try cases h
    simp only [Bool.and_eq_true] at h
    exact ps_appAt g h.1.1.1.1 h.1.1.1.2 h.1.1.2 h.1.2 h.2
  | .ext i e, s, sc, X, C, g, h => by
    unfold chkS at h; split at h <;> try cases h
    simp only [Bool.and_eq_true] at h
    exact ps_ext g h.1.1 h.1.2 h.2
  | .popT dst i e, s, sc, X, C, g, h => by
    unfold chkS at h; split at h <;> try cases h
    simp only [Bool.and_eq_true] at h
    exact ps_popT g h.1.1.1 h.1.1.2 h.1.2 h.2
  | .popL dst i, s, sc, X, C, g, h => by
    unfold chkS at h; split at h <;> try cases h
    simp only [Bool.and_eq_true] at h
    exact ps_popL g h.1 h.2
  | .seti i a e, s, sc, X, C, g, h => by
    unfold chkS at h; split at h <;> try cases h
    simp only [Bool.and_eq_true] at h
    exact ps_seti g h.1.1.1.1 h.1.1.1.2 h.1.1.2 h.1.2 h.2
  | .aug i op e, s, sc, X, C, g, h => by
    unfold chkS at h; split at h <;> try cases h
    simp only [Bool.and_eq_true] at h
    exact ps_augE g h.1.1.1 h.1.1.2 h.1.2 h.2
  | .setf i f e, s, sc, X, C, g, h => ps_setfE
  | .if_ c x y, s, sc, X, C, g, h => by
    unfold chkS at h; split at h <;> try cases h
    simp only [Bool.and_eq_true] at h
    exact ps_ifE (chkE_ok c _ sc X C g.e h.1.1).2.1 (chkSs_ok x _ sc X C g h.1.2) (chkSs_ok y _ sc X C g h.2)
  | .for_ tg ik x y body kl, s, sc, X, C, g, h => by
    unfold chkS at h; split at h <;> try cases h
    simp only [Bool.and_eq_true] at h
    obtain ⟨⟨⟨h1, h2⟩, h3⟩, h4⟩ := h
    refine ps_forE g ?_ h3 (fun C' e1 e2 => chkSs_ok body _ sc X C' (by rw [e1, e2]; exact g) h4) h1
    · cases ik with
      | lst =>
        simp only [Bool.and_eq_true] at h2
        exact pi_lst g.e h2.1 (chkE_ok x _ sc X C g.e h2.2).1
      | rng1 =>
        simp only [Bool.and_eq_true] at h2
        obtain ⟨h2, h7⟩ := h2
        split at h7 <;> try cases h7
        rename_i a ha
        obtain ⟨f, p, q, rfl, h8, h9⟩ := vB1_of ha
        exact pi_rng1 g.e h8 h2 h9 (chkE_ok x _ sc X C g.e h7).1
      | rng2 =>
        dsimp only at h2
        split at h2 <;> try cases h2
        rename_i a a' ha
        obtain ⟨f, p, q, rfl, h8, h9, h10⟩ := vB2_of ha
        simp only [Bool.and_eq_true] at h2
        exact pi_rng2 g.e h8 h9 h10 (chkE_ok x _ sc X C g.e h2.1).1 (chkE_ok y _ sc X C g.e h2.2).1
      | enm =>
        simp only [Bool.and_eq_true, Bool.not_eq_true'] at h2
        obtain ⟨⟨h0, h2⟩, h7⟩ := h2
        split at h7 <;> try cases h7
        rename_i a ha
        obtain ⟨f, p, q, rfl, h8, h9⟩ := vB1_of ha
        obtain ⟨es, k, pos, rfl⟩ := tg_tuple h3 h0
        exact pi_enm g.e h8 h2 h9 (chkE_ok x _ sc X C g.e h7).1
      | zip =>
        simp only [Bool.and_eq_true, Bool.not_eq_true'] at h2
        obtain ⟨h0, h2⟩ := h2
        split at h2 <;> try cases h2
        rename_i a a' ha
        obtain ⟨f, p, q, rfl, h8, h9, h10⟩ := vB2_of ha
        obtain ⟨es, k, pos, rfl⟩ := tg_tuple h3 h0
        simp only [Bool.and_eq_true] at h2
        exact pi_zp g.e h8 h9 h10 (chkE_ok x _ sc X C g.e h2.1).1 (chkE_ok y _ sc X C g.e h2.2).1
  | .forB tg ik x y body kl, s, sc, X, C, g, h => by
    unfold chkS at h; split at h <;> try cases h
    simp only [Bool.and_eq_true] at h
    obtain ⟨⟨⟨h1, h2⟩, h3⟩, h4⟩ := h
    refine ps_forB g ?_ h3 (fun C' e1 e2 => chkSs_ok body _ sc X C' (by rw [e1, e2]; exact g) h4) h1
    · cases ik with
      | lst =>
        simp only [Bool.and_eq_true] at h2
        exact pi_lst g.e h2.1 (chkE_ok x _ sc X C g.e h2.2).1
      | rng1 =>
        simp only [Bool.and_eq_true] at h2
        obtain ⟨h2, h7⟩ := h2
        split at h7 <;> try cases h7
        rename_i a ha
        obtain ⟨f, p, q, rfl, h8, h9⟩ := vB1_of ha
        exact pi_rng1 g.e h8 h2 h9 (chkE_ok x _ sc X C g.e h7).1
      | rng2 =>
        dsimp only at h2
        split at h2 <;> try cases h2
        rename_i a a' ha
        obtain ⟨f, p, q, rfl, h8, h9, h10⟩ := vB2_of ha
        simp only [Bool.and_eq_true] at h2
        exact pi_rng2 g.e h8 h9 h10 (chkE_ok x _ sc X C g.e h2.1).1 (chkE_ok y _ sc X C g.e h2.2).1
      | enm =>
        simp only [Bool.and_eq_true, Bool.not_eq_true'] at h2
        obtain ⟨⟨h0, h2⟩, h7⟩ := h2
        split at h7 <;> try cases h7
        rename_i a ha
        obtain ⟨f, p, q, rfl, h8, h9⟩ := vB1_of ha
        obtain ⟨es, k, pos, rfl⟩ := tg_tuple h3 h0
        exact pi_enm g.e h8 h2 h9 (chkE_ok x _ sc X C g.e h7).1
      | zip =>
        simp only [Bool.and_eq_true, Bool.not_eq_true'] at h2
        obtain ⟨h0, h2⟩ := h2
        split at h2 <;> try cases h2
        rename_i a a' ha
        obtain ⟨f, p, q, rfl, h8, h9, h10⟩ := vB2_of ha
        obtain ⟨es, k, pos, rfl⟩ := tg_tuple h3 h0
        simp only [Bool.and_eq_true] at h2
        exact pi_zp g.e h8 h9 h10 (chkE_ok x _ sc X C g.e h2.1).1 (chkE_ok y _ sc X C g.e h2.2).1
  | .whl c body kl, s, sc, X, C, g, h => by
    unfold chkS at h; split at h <;> try cases h
    simp only [Bool.and_eq_true] at h
    exact ps_whlE g (chkE_ok c _ sc X C g.e h.1).2.1 (chkSs_ok body _ sc X C g h.2)
  | .ret e, s, sc, X, C, g, h => by
    unfold chkS at h; split at h <;> try cases h
    exact ps_retE (chkE_ok e _ sc X C g.e h).1
  | .retS e, s, sc, X, C, g, h => by
    unfold chkS at h; split at h <;> try cases h
    exact ps_retSE (chkE_ok e _ sc X C g.e h).1
  | .retN, s, sc, X, C, g, h => by
    unfold chkS at h; split at h <;> try cases h
    exact ps_retNE
  | .brk, s, sc, X, C, g, h => by
    unfold chkS at h; split at h <;> try cases h
    exact PS.weak ps_break fun De σ H ⟨env, τ, E, q⟩ => by
      rw [evS] at q
      exact q _ _ _ E
  | .cnt, s, sc, X, C, g, h => by
    unfold chkS at h; split at h <;> try cases h
    exact PS.weak ps_continue fun De σ H ⟨env, τ, E, q⟩ => by
      rw [evS] at q
      exact q _ _ _ E
  | .ex e, s, sc, X, C, g, h => by
    unfold chkS at h; split at h <;> try cases h
    simp only [Bool.and_eq_true] at h
    exact ps_exE h.1 (chkE_ok e _ sc X C g.e h.2).1
  | .pass, s, sc, X, C, g, h => by
    unfold chkS at h; split at h <;> try cases h
    · exact passN ps_pass
    · exact passN ps_doc
  | .rse c, s, sc, X, C, g, h => by
    unfold chkS at h; split at h <;> try cases h
    exact ps_rse g h
theorem chkSs_ok : ∀ (cs : List CS) (ss : List Stmt) (sc : Scope) (X : Cx) (C : CE₀), GoodS X b C.G Pg L C.W sc → chkSs b sc cs ss = true → PSs X ss (tS C (evSs Pg n cs))
  | [], ss, sc, X, C, g, h => by
    unfold chkSs at h
    have := List.isEmpty_iff.mp h
    subst this
    exact pss_nilE
  | c :: cs, ss, sc, X, C, g, h => by
    unfold chkSs at h
    split at h <;> try cases h
    simp only [Bool.and_eq_true] at h
    exact pss_consE (chkS_ok c _ sc X C g h.1) (chkSs_ok cs _ sc X C g h.2)
end
end
end FR

namespace FR
open PySem PySem.Spec L2
/-! ### defs -/
structure FI where
  x : Str
  qual : Str
  st : Stmt
  N : List Str
  ps : List Str
  body : List CS
  cl : Option (Nat × Str) := none
def tabFn (P : Prog) (n : Nat) (f : FI) (args : List D) : R (D × Bool) := if args.length = f.ps.length then evFn P n f.N.length f.body args else .no
def tabIni (P : Prog) (c : Nat) (f : FI) (args : List D) : R (List D) := if args.length + 1 = f.ps.length then evIni P f.N.length f.body c args else .no
def clsStmts : Stmt → List Stmt
  | .ClassDef (body := b) .. => b
  | _ => []
def noP : Prog := ⟨fun _ _ => .no, fun _ _ => .no⟩
def iniAt (fs : List FI) : Nat → Nat → List D → R (List D)
  | 0, _, _ => .no
  | _ + 1, c, args => match fs[iniT c]? with
    | some f => tabIni noP c f args
    | none => .no
def pgOf (fs : List FI) (n : Nat) : Nat → Prog
  | 0 => noP
  | d + 1 => ⟨fun k args => match fs[k]? with
    | some f => tabFn (pgOf fs n d) n f args
    | none => .no, iniAt fs d⟩
/-- the environment at a def's entry -/
def entry (ts : List T) (n : Nat) : En := (T.ds ts).map (fun d => some (.val d (if d.flat then .deep else .sh))) ++ List.replicate (n - ts.length) none
theorem entry_get {ts : List T} {n i : Nat} {s : Sl} (h : (entry ts n)[i]? = some (some s)) : ∃ t : T, ts[i]? = some t ∧ s = .val t.d (if t.d.flat then .deep else .sh) := by
  unfold entry at h
  by_cases hi : i < ts.length
  · rw [List.getElem?_append_left (by rw [List.length_map, ds_length]; exact hi), List.getElem?_map, ds_get] at h
    rw [List.getElem?_eq_getElem hi] at h ⊢
    simp only [Option.map_some, Option.some.injEq] at h
    exact ⟨_, rfl, h.symm⟩
  · rw [List.getElem?_append_right (by rw [List.length_map, ds_length]; omega)] at h
    rw [List.getElem?_replicate] at h
    split at h <;> simp at h
theorem entry_ok {G : Gs} {H : Hp} {N : List Str} {ts : List T} (k : T.oks G H ts) (hl : ts.length ≤ N.length) : EO G H ⟨T.fps ts, fun _ => none⟩ (entry ts N.length) (fun i => (ts[i]?).getD (.leaf .non)) (L2.start N (ts.map (T.v G))) H := by
  have gv : ∀ {i d o}, (entry ts N.length)[i]? = some (some (Sl.val d o)) → ∃ t : T, ts[i]? = some t ∧ d = t.d ∧ o = (if t.d.flat then .deep else .sh) := fun {i d o} e => by
    obtain ⟨t, h1, h2⟩ := entry_get e
    simp only [Sl.val.injEq] at h2
    exact ⟨t, h1, h2.1, h2.2⟩
  refine ⟨?_, fun i d o e => ?_, fun i j p e => ?_, Same.refl _, fun i ⟨d, o, e⟩ a ha => ?_, fun i d e k' a xs et => ?_, fun i ⟨d, e⟩ => ?_, fun i d e => ?_⟩
  · unfold entry L2.start
    simp [ds_length]
  · obtain ⟨t, h1, rfl, rfl⟩ := gv e
    have hi : i < ts.length := (List.getElem?_eq_some_iff.mp h1).1
    refine ⟨by rw [h1]; rfl, by rw [h1]; exact oks_iff.mp k t (List.mem_of_getElem? h1), ?_⟩
    unfold L2.start
    rw [List.getElem?_append_left (by simp; exact hi), List.getElem?_map, List.getElem?_map, h1]
    rfl
  · obtain ⟨t, _, h⟩ := entry_get e
    cases h
  · obtain ⟨t, h1, _⟩ := gv e
    rw [h1] at ha
    exact .inr (mem_fps.mpr ⟨t, List.mem_of_getElem? h1, ha⟩)
  · obtain ⟨t, h1, _, h3⟩ := gv e
    split at h3 <;> cases h3
  · obtain ⟨t, h1, _, h3⟩ := gv e
    have f : t.d.flat = true := by
      by_cases f : t.d.flat = true
      · exact f
      · rw [if_neg f] at h3; cases h3
    obtain ⟨f1, f2⟩ := flat_fp (oks_iff.mp k t (List.mem_of_getElem? h1)) f
    rw [h1]
    refine ⟨by simp [f1], by rw [Option.getD_some, f2]; simp [T.plain], by simp [f1], by simp [f1]⟩
  · obtain ⟨t, _, _, h3⟩ := gv e
    split at h3 <;> cases h3
section
variable {P : Program} {w : World} {K : PySem.W.Frag} {mg : Str → Option Value} {base : Heap} {b : Tb} {G : Gs} {Pg : Prog} {L n : Nat}
theorem fn_ok {f : FI} {a : Addr} {fd : FuncData} (hK : K = G.K) {q : Str} (F : FunD K q f.qual (L2.defArgs f.st) (L2.defBody f.st) (L2.defScope f.st) [] [] a fd) (S : FnScope f.N f.ps (L2.defScope f.st)) (hps : f.ps.length ≤ f.N.length)
    (st : Static P w K mg base b G Pg L) (hk : chkSs { b with N := f.N } (L2.defScope f.st) f.body (L2.defBody f.st) = true) : FnOk P w K mg base (L2.CX P w) (L + 1) a fd f.ps (spOf G (tabFn Pg n f)) := by
  have ln : ∀ vs H Q E, spOf G (tabFn Pg n f) vs H Q E → vs.length = f.ps.length := by
    rintro vs H Q E ⟨ts, rfl, _, h⟩
    rw [List.length_map]
    unfold tabFn at h
    by_cases hl : (T.ds ts).length = f.ps.length
    · rw [ds_length] at hl; exact hl
    · rw [if_neg hl] at h; exact h.elim
  refine F.ok S ln fun cdv A outer s H vs Q E hr h => ?_
  obtain ⟨ts, rfl, kk, h⟩ := h
  let C : CE₀ := ⟨G, H, ⟨T.fps ts, fun _ => none⟩, fun cls d _ H => E cls d H⟩
  refine ⟨tS C (evSs Pg n f.body), chkSs_ok (b := { b with N := f.N }) (Pg := Pg) (L := L) f.body _ (L2.defScope f.st) _ C ⟨⟨rfl, S.nd, hK, rfl, rfl, hr, takes_of rfl rfl rfl rfl, ⟨st.fn, st.out, st.free, st.gi, st.exc, st.gt, st.ci, st.co, st.mkc, st.mt, st.isi⟩⟩, S.kind, passes_of rfl, fun _ => rfl⟩ hk, ?_⟩
  have hl : ts.length = f.ps.length := by
    unfold tabFn at h
    by_cases hl : (T.ds ts).length = f.ps.length
    · rw [ds_length] at hl; exact hl
    · rw [if_neg hl] at h; exact h.elim
  refine ⟨entry ts f.N.length, _, entry_ok kk (by omega), ?_⟩
  unfold tabFn at h
  rw [if_pos (by rw [ds_length]; exact hl)] at h
  unfold evFn at h
  rw [show (T.ds ts).map (fun d => some (Sl.val d (if d.flat then .deep else .sh))) ++ List.replicate (f.N.length - (T.ds ts).length) none = entry ts f.N.length by unfold entry; rw [ds_length]] at h
  cases e : evSs Pg n f.body (entry ts f.N.length) with
  | no => rw [e] at h; exact h
  | ex c => rw [e] at h; exact fun σ H' s => h H' s
  | ok o =>
    rw [e, b_ok] at h
    cases o with
    | nx e' => exact fun τ σ H' E => h (.leaf .non) H' E.old (by unfold T.ok; rfl) (by simp [T.d]) (fun _ => by simp [T.fp, T.plain]) (by simp [T.fp])
    | bk e' => exact h.elim
    | ct e' => exact h.elim
    | rt d fr => exact fun t H' s k ed cv al => h t H' s k ed al cv
/-- the environment at an __init__'s entry, the instance left out -/
def entryI (ts : List T) (n : Nat) : En := none :: (T.ds ts).map (fun d => some (.val d (if d.flat then .deep else .sh))) ++ List.replicate (n - ts.length - 1) none
theorem entryI_ok {G : Gs} {H : Hp} {N : List Str} {ts : List T} {x : Addr} (k : T.oks G H ts) (hl : ts.length + 1 ≤ N.length) :
    EO G (fun a => if a = x then none else H a) ⟨T.fps ts, fun _ => none⟩ (entryI ts N.length) (fun i => match i with | 0 => .leaf .non | i + 1 => (ts[i]?).getD (.leaf .non)) (L2.start N (.ref x :: ts.map (T.v G))) H := by
  have gs : ∀ {i s}, (entryI ts N.length)[i]? = some (some s) → ∃ (j : Nat) (t : T), i = j + 1 ∧ ts[j]? = some t ∧ s = .val t.d (if t.d.flat then .deep else .sh) := fun {i s} e => by
    unfold entryI at e
    cases i with
    | zero => simp at e
    | succ j =>
      simp only [List.cons_append, List.getElem?_cons_succ] at e
      have e' : (entry ts (N.length - 1))[j]? = some (some s) := by
        unfold entry
        rw [show N.length - 1 - ts.length = N.length - ts.length - 1 by omega]; exact e
      obtain ⟨t, h1, h2⟩ := entry_get e'
      exact ⟨j, t, rfl, h1, h2⟩
  have gv : ∀ {i d o}, (entryI ts N.length)[i]? = some (some (Sl.val d o)) → ∃ (j : Nat) (t : T), i = j + 1 ∧ ts[j]? = some t ∧ d = t.d ∧ o = (if t.d.flat then .deep else .sh) := fun {i d o} e => by
    obtain ⟨j, t, h0, h1, h2⟩ := gs e
    simp only [Sl.val.injEq] at h2
    exact ⟨j, t, h0, h1, h2.1, h2.2⟩
  have et : ∀ {j : Nat} {t : T}, ts[j]? = some t → (match j + 1 with | 0 => T.leaf .non | i + 1 => (ts[i]?).getD (.leaf .non)) = t := fun {j t} h => by
    show (ts[j]?).getD _ = _
    rw [h]; rfl
  refine ⟨?_, fun i d o e => ?_, fun i j p e => ?_, fun a o e => ?_, fun i ⟨d, o, e⟩ a ha => ?_, fun i d e k' a xs et => ?_, fun i ⟨d, e⟩ => ?_, fun i d e => ?_⟩
  · unfold entryI L2.start
    simp [ds_length]
    omega
  · obtain ⟨j, t, rfl, h1, rfl, rfl⟩ := gv e
    have hi : j < ts.length := (List.getElem?_eq_some_iff.mp h1).1
    refine ⟨by rw [et h1], by rw [et h1]; exact oks_iff.mp k t (List.mem_of_getElem? h1), ?_⟩
    rw [et h1]
    unfold L2.start
    simp only [List.map_cons, List.cons_append, List.getElem?_cons_succ]
    rw [List.getElem?_append_left (by simp; exact hi), List.getElem?_map, List.getElem?_map, h1]
    rfl
  · obtain ⟨_, t, _, _, h⟩ := gs e
    cases h
  · split at e
    · cases e
    · exact e
  · obtain ⟨j, t, rfl, h1, _, _⟩ := gv e
    rw [et h1] at ha
    exact .inr (mem_fps.mpr ⟨t, List.mem_of_getElem? h1, ha⟩)
  · obtain ⟨j, t, rfl, h1, _, h3⟩ := gv e
    split at h3 <;> cases h3
  · obtain ⟨j, t, rfl, h1, _, h3⟩ := gv e
    have f : t.d.flat = true := by
      by_cases f : t.d.flat = true
      · exact f
      · rw [if_neg f] at h3; cases h3
    obtain ⟨f1, f2⟩ := flat_fp (oks_iff.mp k t (List.mem_of_getElem? h1)) f
    rw [et h1, f1]
    exact ⟨List.nodup_nil, by rw [f2]; simp [T.plain], by simp, by simp⟩
  · obtain ⟨j, t, rfl, h1, _, h3⟩ := gv e
    split at h3 <;> cases h3
theorem ini_ok {f : FI} {c : Nat} {a : Addr} {fd : FuncData} (hK : K = G.K) {q : Str} (F : FunD K q f.qual (L2.defArgs f.st) (L2.defBody f.st) (L2.defScope f.st) [] [] a fd) (S : FnScope f.N f.ps (L2.defScope f.st)) (hps : f.ps.length ≤ f.N.length) (hc : b.ci.contains c = true)
    (st : Static P w K mg base b G Pg L) (hk : chkSs { b with N := f.N } (L2.defScope f.st) f.body (L2.defBody f.st) = true) : FnOk P w K mg base (L2.CX P w) (L + 1) a fd f.ps (spIni G c (tabIni Pg c f)) := by
  have ln : ∀ vs H Q E, spIni G c (tabIni Pg c f) vs H Q E → vs.length = f.ps.length := by
    rintro vs H Q E ⟨x, dx, ts, rfl, _, _, _, h⟩
    rw [List.length_cons, List.length_map]
    unfold tabIni at h
    by_cases hl : (T.ds ts).length + 1 = f.ps.length
    · rw [ds_length] at hl; exact hl
    · rw [if_neg hl] at h; exact h.elim
  refine F.ok S ln fun cdv A outer s H vs Q E hr h => ?_
  obtain ⟨x, dx, ts, rfl, hx, kk, nx, h⟩ := h
  unfold tabIni at h
  have hl : (T.ds ts).length + 1 = f.ps.length := by
    by_cases hl : (T.ds ts).length + 1 = f.ps.length
    · exact hl
    · rw [if_neg hl] at h; exact h.elim
  rw [if_pos hl] at h
  rw [ds_length] at hl
  cases hb : iniB f.body with
  | none =>
    unfold evIni at h
    rw [hb] at h; exact h.elim
  | some l =>
    have hev : evIni Pg f.N.length f.body c (T.ds ts) = iniL Pg c (entryI ts f.N.length) l [] := by
      unfold evIni
      rw [hb]
      unfold entryI
      rw [ds_length]
    rw [hev] at h
    let C : CE₀ := ⟨G, fun a => if a = x then none else H a, ⟨T.fps ts, fun _ => none⟩, fun cls d _ H => E cls d H⟩
    refine ⟨tIni C Pg c x dx (entryI ts f.N.length) l, pss_ini (b := { b with N := f.N }) (C := C) (L := L) ⟨⟨rfl, S.nd, hK, rfl, rfl, hr, takes_of rfl rfl rfl rfl, ⟨st.fn, st.out, st.free, st.gi, st.exc, st.gt, st.ci, st.co, st.mkc, st.mt, st.isi⟩⟩, S.kind, passes_of rfl, fun _ => rfl⟩ hc hb hk, ?_⟩
    have E0 := entryI_ok (G := G) (x := x) (N := f.N) kk (by omega)
    refine ⟨_, [], ⟨E0, by unfold L2.start; rfl, by simpa using hx, Nat.zero_le _, by simp [T.oks], by simp [T.fps], by simp [T.plains], by simp [T.fps], by simp [T.fps], if_pos rfl, fun i ⟨d, o, e⟩ ha => ?_⟩, ?_⟩
    · rcases E0.cov i ⟨d, o, e⟩ x ha with z | z
      · cases i with
        | zero => simp [T.fp] at ha
        | succ j =>
          cases q : ts[j]? with
          | none => simp [q, T.fp] at ha
          | some t => simp [q] at ha; exact nx (mem_fps.mpr ⟨t, List.mem_of_getElem? q, ha⟩)
      · exact nx z
    · cases e : iniL Pg c (entryI ts f.N.length) l (T.ds []) with
      | no => rw [show T.ds [] = [] by simp [T.ds]] at e; rw [e] at h; exact h.elim
      | ex c => rw [show T.ds [] = [] by simp [T.ds]] at e; rw [e] at h; exact h.elim
      | ok ds =>
        rw [show T.ds [] = [] by simp [T.ds]] at e
        rw [e] at h
        intro ts' H' S' ed
        have nx' := S'.nx
        refine h ts' H' (fun a o hne ha => S'.eo.old a o (by show (if a = x then none else H a) = _; rw [if_neg hne]; exact ha)) ?_ ed ?_ ?_ fun a ha => ?_
        · unfold T.ok
          exact ⟨⟨S'.ob, by rw [List.length_map]; exact S'.le, by rw [st.ci]; exact hc⟩, S'.ok⟩
        · simp only [T.fp]
          exact List.nodup_cons.mpr ⟨nx', S'.nd⟩
        · unfold T.plain
          exact ⟨trivial, S'.pl⟩
        · have := S'.fr a ha
          have ne : a ≠ x := fun z => nx' (z ▸ ha)
          have : (if a = x then none else H a) = none := this
          rwa [if_neg ne] at this
/-- the facts of a text's defs -/
structure Facts (P : Program) (w : World) (K : PySem.W.Frag) (mg : Str → Option Value) (b : Tb) (G : Gs) (fs : List FI) : Prop where
  hK : K = G.K
  fns : b.fns = fs.map FI.x
  fn : ∀ (k : Nat) f, fs[k]? = some f → ∃ fd q, FunD K q f.qual (L2.defArgs f.st) (L2.defBody f.st) (L2.defScope f.st) [] [] (G.fnA k) fd ∧ ((f.x == Str.empty) = false → mg f.x = some (.ref (G.fnA k))) ∧ PySem.W.keepIn K (.ref (G.fnA k)) = true ∧ Binds K fd f.ps []
  sc : ∀ (k : Nat) f, fs[k]? = some f → FnScope f.N f.ps (L2.defScope f.st) ∧ f.ps.length ≤ f.N.length ∧ chkSs { b with N := f.N } (L2.defScope f.st) f.body (L2.defBody f.st) = true
  free : ∀ x, b.free.contains x = true → mg x = none
  gi : ∀ (k : Nat) x i, b.gn[k]? = some (x, .int i) → ∃ t, mg x = some (.int i t)
  exc : ∀ (c : Nat) x, b.cn[c]? = some x → b.exs.contains x = true → mg x = some (.ref (G.cls c)) ∧ PySem.W.excIn K (G.cls c) He.veBase "ValueError.__new__" = true ∧ PySem.W.keepIn K (.ref (G.cls c)) = true ∧ PySem.W.subIn K (.ref (G.cls c)) (.type "BaseException") = some true ∧ PySem.W.typeIn K (.ref (G.cls c)) = some (.type "type")
  gt : ∀ (k : Nat) x ns, b.gn[k]? = some (x, .tup ns) → ∃ a, mg x = some (.ref a) ∧ ∀ H, SqT K H a (ns.map V.int)
  ci : G.ci = b.ci
  co : ∀ c, b.ci.contains c = true → ClsOk K c (G.cls c)
  mkc : ∀ (c : Nat) x, b.cn[c]? = some x → b.ci.contains c = true → mg x = some (.ref (G.cls c)) ∧ Mk K (G.cls c) (G.fnA (iniT c)) ∧ ∃ f, fs[iniT c]? = some f
  mt : ∀ c, b.ci.contains c = true → Meth K (G.cls c) "shows" (G.fnA (methT c)) ∧ ∃ f, fs[methT c]? = some f
  isi : ∀ (c : Nat) x, b.cn[c]? = some x → b.ki.contains c = true → mg x = some (.ref (G.cls c)) ∧ (∀ c', b.ci.contains c' = true → PySem.W.kitOne K (.ref (G.cls c')) (.ref (G.cls c)) = some (subT c' c)) ∧ ∀ n ∈ tyNs, PySem.W.kitOne K (.type n) (.ref (G.cls c)) = some false
theorem fn_no {f : FI} {a : Addr} {fd : FuncData} {q : Str} {k : Nat} {m : List D → R (D × Bool)} (F : FunD K q f.qual (L2.defArgs f.st) (L2.defBody f.st) (L2.defScope f.st) [] [] a fd) (S : FnScope f.N f.ps (L2.defScope f.st)) (hm : ∀ args, m args = .no) : FnOk P w K mg base (L2.CX P w) (k + 1) a fd f.ps (spOf G m) :=
  F.ok S (fun vs H Q E ⟨ts, _, _, q⟩ => by rw [hm] at q; exact q.elim) fun cdv A outer s H vs Q E hr ⟨ts, _, _, q⟩ => by rw [hm] at q; exact q.elim
theorem Facts.tower {fs : List FI} (h : Facts P w K mg b G fs) : ∀ d, Static P w K mg base b G (pgOf fs n d) (d + 1)
  | 0 => by
    refine ⟨fun k x hx => ?_, fun _ _ _ => rfl, h.free, h.gi, h.exc, h.gt, h.ci, h.co, fun c x e hc => ⟨(h.mkc c x e hc).1, .inl fun _ => rfl⟩, fun c hc => ?_, h.isi⟩
    · rw [h.fns, List.getElem?_map] at hx
      cases e : fs[k]? with
      | none => rw [e] at hx; cases hx
      | some f =>
        rw [e] at hx
        cases hx
        obtain ⟨fd, q, F, h1, h2, h3⟩ := h.fn k f e
        exact ⟨fd, f.ps, h1, h2, h3, fn_no F (h.sc k f e).1 fun _ => rfl⟩
    · obtain ⟨M, f, e⟩ := h.mt c hc
      obtain ⟨fd, q, F, h1, h2, h3⟩ := h.fn _ f e
      exact ⟨_, fd, f.ps, M, h3, fn_no F (h.sc _ f e).1 fun _ => rfl⟩
  | d + 1 => by
    have ef : ∀ {k : Nat} {f : FI}, fs[k]? = some f → (pgOf fs n (d + 1)).fn k = tabFn (pgOf fs n d) n f := fun {k f} e => by
      funext args
      show (match fs[k]? with | some f => tabFn (pgOf fs n d) n f args | none => .no) = _
      rw [e]
    refine ⟨fun k x hx => ?_, fun k args hk => by
      rw [h.fns, List.getElem?_map, Option.map_eq_none_iff] at hk
      show (match fs[k]? with | some f => tabFn (pgOf fs n d) n f args | none => .no) = _
      rw [hk], h.free, h.gi, h.exc, h.gt, h.ci, h.co, fun c x e hc => ?_, fun c hc => ?_, h.isi⟩
    · rw [h.fns, List.getElem?_map] at hx
      cases e : fs[k]? with
      | none => rw [e] at hx; cases hx
      | some f =>
        rw [e] at hx
        cases hx
        obtain ⟨fd, q, F, h1, h2, h3⟩ := h.fn k f e
        obtain ⟨s1, s2, s3⟩ := h.sc k f e
        refine ⟨fd, f.ps, h1, h2, h3, ?_⟩
        rw [ef e]
        exact fn_ok h.hK F s1 s2 (h.tower d) s3
    · obtain ⟨h1, M, f, ef'⟩ := h.mkc c x e hc
      refine ⟨h1, ?_⟩
      cases d with
      | zero => exact .inl fun _ => rfl
      | succ d' =>
        obtain ⟨fd, q, F, _, _, h3⟩ := h.fn _ f ef'
        obtain ⟨s1, s2, s3⟩ := h.sc _ f ef'
        refine .inr ⟨_, fd, f.ps, 2, M, h3, ?_, by omega⟩
        have ei : (pgOf fs n (d' + 1 + 1)).ini c = tabIni noP c f := by
          funext args
          show (match fs[iniT c]? with | some f => tabIni noP c f args | none => .no) = _
          rw [ef']
        rw [ei]
        exact ini_ok h.hK F s1 s2 hc (h.tower 0) s3
    · obtain ⟨M, f, e⟩ := h.mt c hc
      obtain ⟨fd, q, F, h1, h2, h3⟩ := h.fn _ f e
      obtain ⟨s1, s2, s3⟩ := h.sc _ f e
      refine ⟨_, fd, f.ps, M, h3, ?_⟩
      rw [ef e]
      exact fn_ok h.hK F s1 s2 (h.tower d) s3
end
end FR

namespace FR
open PySem PySem.Spec L2
/-! ### the head -/
/-- no list stands among the known objects -/
def noL (K : PySem.W.Frag) : Bool := K.all fun p => match p.2.cls with
  | .type c => !(c == "list")
  | _ => true
theorem noL_of : ∀ {K : PySem.W.Frag} {a : Addr} {o : Obj}, noL K = true → K.lookup a = some o → o.cls ≠ .type "list"
  | [], a, o, _, h => by cases h
  | (c, x) :: r, a, o, h, e => by
    unfold noL at h
    simp only [List.all_cons, Bool.and_eq_true] at h
    rw [List.lookup_cons] at e
    split at e
    · cases e
      intro z
      have := h.1
      rw [z] at this
      simp at this
    · exact noL_of (K := r) h.2 e
/-- the tuples of whole numbers among the globals -/
def tupsB (K : PySem.W.Frag) (tp : List (Str × List Int)) : Bool := noL K && tp.all fun q => He.tupB K q.1 (q.2.map He.Dv.int)
abbrev AlF : Type := Bool × He.AlD
abbrev CkF : Type := PySem.W.Frag → Bool
def hkF (n : Nat) (ck : CkF) (fa : List He.Fa) (fn : List He.DefD) : PySem.W.Hook where
  α := AlF
  obs := fun s => (ck (He.frG s.heap.get? (He.asD s.heap.get? n)), He.obsDG n fa fn s.heap.get?)
  val := fun _ => (true, He.valD fn)
  says := fun _ h => ∃ K : PySem.W.Frag, K.In h ∧ He.SaysD fa fn K ∧ ck K = true
  of := fun _ _ e => ⟨_, He.frG_in, congrArg (fun z : AlF => z.2) e, congrArg (fun z : AlF => z.1) e⟩
  keeps := fun _ _ _ ⟨K, hK, c⟩ k => ⟨K, PySem.W.Frag.In.keeps hK k, c⟩
def obF (n : Nat) (ck : CkF) (fa : List He.Fa) (fn : List He.DefD) (s : PySem.W.SharedT) : AlF := (ck (He.frG (HandSHeadRun.getT s) (He.asD (HandSHeadRun.getT s) n)), He.obsDG n fa fn (HandSHeadRun.getT s))
theorem obF_eq {n : Nat} {ck : CkF} {fa : List He.Fa} {fn : List He.DefD} (s : PySem.W.SharedT) : obF n ck fa fn s = (hkF n ck fa fn).obs s.abs := by
  have e : HandSHeadRun.getT s = s.abs.heap.get? := funext (HandSHeadRun.getT_eq s)
  unfold obF
  rw [e] <;> rfl
/-! ### the script -/
def scrD (ns : List Int) : D := .node .lst (ns.map D.int)
theorem leaves_v {G : Gs} (ns : List Int) : (ns.map fun i => T.leaf (.int i)).map (T.v G) = ns.map V.int := by
  rw [List.map_map]; rfl
theorem leaves_d (ns : List Int) : T.ds (ns.map fun i => T.leaf (.int i)) = ns.map D.int := by
  rw [ds_map, List.map_map]
  apply List.map_congr_left
  intro i _
  simp [T.d]
theorem leaves_fp : ∀ ns : List Int, T.fps (ns.map fun i => T.leaf (.int i)) = []
  | [] => by simp [T.fps]
  | n :: ns => by simp [T.fps, T.fp, leaves_fp ns]
theorem leaves_ok {G : Gs} {H : Hp} : ∀ ns : List Int, T.oks G H (ns.map fun i => T.leaf (.int i))
  | [] => by simp [T.oks]
  | n :: ns => by
    simp only [List.map_cons]
    unfold T.oks T.ok
    exact ⟨rfl, leaves_ok ns⟩
theorem script_T {G : Gs} {H : Hp} {a : Addr} {ns : List Int} (hn : noL G.K = true) (hS : SqL G.K H a (ns.map V.int)) : ∃ t : T, t.v G = .ref a ∧ t.ok G H ∧ t.d = scrD ns := by
  rcases hS with hS | ⟨o, its, n, h1, h2, _⟩
  · rcases hS with hS | ⟨o, hS⟩
    · refine ⟨.node (.lst none) a (ns.map fun i => T.leaf (.int i)), rfl, ?_, by simp [T.d, leaves_d, scrD, TK.dk]⟩
      unfold T.ok
      rw [leaves_v]
      exact ⟨hS, leaves_ok ns⟩
    · refine ⟨.node (.lst (some o)) a (ns.map fun i => T.leaf (.int i)), rfl, ?_, by simp [T.d, leaves_d, scrD, TK.dk]⟩
      unfold T.ok
      rw [leaves_v]
      exact ⟨hS, leaves_ok ns⟩
  · exact absurd h2 (noL_of hn h1)
/-- the law's promise -/
theorem sp_law {G : Gs} {m : List D → R (D × Bool)} {H : Hp} {a : Addr} {ns : List Int} (hn : noL G.K = true) (hS : SqL G.K H a (ns.map V.int)) (h : ∃ fr, m [scrD ns] = .ok (.bl true, fr)) {E : XK} : spOf G m [.ref a] H (fun v _ => v = .bl true) E := by
  obtain ⟨t, h1, h2, h3⟩ := script_T hn hS
  obtain ⟨fr, h⟩ := h
  refine ⟨[t], by simp [h1], by unfold T.oks T.oks; exact ⟨h2, trivial⟩, ?_⟩
  rw [show T.ds [t] = [scrD ns] by simp [T.ds, h3], h]
  intro t' H' _ k ed _ _
  have : t'.d = .bl true := ed
  have f := (flat_fp k (by rw [this]; rfl)).2
  rw [f, this]; rfl
/-! ### a text's facts -/
def cnOf (tb : Tb) (c : Nat) : Str := (tb.cn[c]?).getD Str.empty
def atOf (tb : Tb) (f : FI) : Str × Option Str := match f.cl with
  | none => (f.x, none)
  | some q => (cnOf tb q.1, some q.2)
def fa0 (tb : Tb) (fs : List FI) : List He.Fa := fs.map fun f => .glo (atOf tb f).1
def faC (tb : Tb) (c : Nat) : List He.Fa := [.glo (cnOf tb c), .cls (cnOf tb c), .mkr (cnOf tb c), .meth (cnOf tb c) "shows"] ++ (fldT c).map fun f => .noat (cnOf tb c) (fldN f)
def faOf (fs : List FI) (tb : Tb) : List He.Fa := fa0 tb fs ++ tb.free.map .free ++ tb.gn.map (fun q => match q.2 with
  | .int i => .int q.1 i
  | .tup _ => .glo q.1) ++ tb.exs.map .glo ++ tb.exs.map .exc ++ tb.ci.flatMap (faC tb) ++ tb.ki.map fun c => .glo (cnOf tb c)
def tpOf (tb : Tb) : List (Str × List Int) := tb.gn.filterMap fun q => match q.2 with
  | .int _ => none
  | .tup ns => some (q.1, ns)
def clsB (K : PySem.W.Frag) (C : Addr) : Bool := decide (PySem.W.findIn K (.ref C) "__class__" = some (some (.builtin "object.__class__"))) && decide (PySem.W.specialIn K (.builtin "object.__class__") "__get__" = some (some (.builtin "getset_descriptor.__get__"))) && decide (PySem.W.takesIn K (.builtin "object.__class__") = some true) && decide (PySem.W.mroIn K C (.type "object") = some true)
def kisB (K : PySem.W.Frag) (tb : Tb) (c : Nat) : Bool := (tb.ci.all fun c' => decide (PySem.W.kitOne K (.ref (He.ga K (cnOf tb c'))) (.ref (He.ga K (cnOf tb c))) = some (subT c' c))) && tyNs.all fun n => decide (PySem.W.kitOne K (.type n) (.ref (He.ga K (cnOf tb c))) = some false)
def ckOf (tb : Tb) : CkF := fun K => tupsB K (tpOf tb) && (tb.ci.all (fun c => clsB K (He.ga K (cnOf tb c))) && tb.ki.all (kisB K tb))
def nmOf (f : FI) : Str := match f.cl with
  | none => f.x
  | some q => q.2
def ddOf (tb : Tb) (f : FI) : He.DefD := ⟨atOf tb f, nmOf f, f.qual, L2.defArgs f.st, L2.defBody f.st, L2.defScope f.st, [], []⟩
def gsOf (K : PySem.W.Frag) (fs : List FI) (tb : Tb) : Gs := ⟨K, fun c => He.ga K (cnOf tb c), tb.ci, fun k => match fs[k]? with
  | some f => He.fAd K (atOf tb f)
  | none => 0⟩
/-- the methods stand where the table tells -/
def whereB (fs : List FI) (tb : Tb) : Bool := (tb.ci.all fun c => decide ((fs[iniT c]?).map (fun f => f.cl) = some (some (c, ("__init__" : Str)))) && decide ((fs[methT c]?).map (fun f => f.cl) = some (some (c, ("shows" : Str))))) && fs.all fun f => match f.cl with
  | none => true
  | some _ => f.x == Str.empty
def FI.noName (f : FI) : Bool := match f.cl with
  | none => true
  | some _ => f.x == Str.empty
theorem noName_of {f : FI} (h : f.noName = true) {z : Nat × Str} (q : f.cl = some z) : (f.x == Str.empty) = true := by
  unfold FI.noName at h
  rw [q] at h
  exact h
/-- the scope and the body's text -/
def scB (f : FI) : Bool := decide ((L2.defScope f.st).kind = .function) && !(L2.defScope f.st).isCoroutine && !(L2.defScope f.st).isGenerator && decide f.N.Nodup && decide (f.N.take f.ps.length = f.ps) && decide (f.ps.length ≤ f.N.length) &&
  f.ps.all (fun x => decide ((L2.defScope f.st).names.lookup x = some .local) || decide ((L2.defScope f.st).names.lookup x = some .cell)) && (L2.defScope f.st).names.all (fun y => decide (y.2 ≠ .free))
def fiB (tb : Tb) (f : FI) : Bool := scB f && chkSs { tb with N := f.N } (L2.defScope f.st) f.body (L2.defBody f.st)
theorem scB_ok {f : FI} (h : scB f = true) : FnScope f.N f.ps (L2.defScope f.st) ∧ f.ps.length ≤ f.N.length := by
  unfold scB at h
  simp only [Bool.and_eq_true, decide_eq_true_eq, Bool.not_eq_true', List.all_eq_true, Bool.or_eq_true] at h
  obtain ⟨⟨⟨⟨⟨⟨⟨h1, h2⟩, h3⟩, h4⟩, h5⟩, h6⟩, h7⟩, h8⟩ := h
  exact ⟨⟨h1, h2, h3, h4, h5, h7, h8⟩, h6⟩
def BindF (f : FI) : Prop := ∀ (kV doc pm : Value) (an : Option Addr) (cdv ct : Value) (us : List Value), us.length = f.ps.length → bindArgs (PySem.W.fnOf (nmOf f) f.qual (L2.defArgs f.st) (L2.defBody f.st) (L2.defScope f.st) .none kV doc pm an cdv ct) ⟨us, []⟩ = pure (f.ps.zip us)
def AllP (p : FI → Prop) : List FI → Prop
  | [] => True
  | f :: r => p f ∧ AllP p r
theorem AllP.get {p : FI → Prop} : ∀ {fs : List FI}, AllP p fs → ∀ f ∈ fs, p f
  | [], _, f, hf => by cases hf
  | g :: r, h, f, hf => (List.mem_cons.mp hf).elim (fun e => e ▸ h.1) (AllP.get h.2 f)
theorem fact_mem {fa : List He.Fa} {fn : List He.DefD} {K : PySem.W.Frag} (c : He.SaysD fa fn K) {f : He.Fa} (h : f ∈ fa) : f.ok K = true := by
  obtain ⟨i, hi⟩ := List.mem_iff_getElem?.mp h
  exact c.fact i hi
theorem fldN_at {tb : Tb} {c f : Nat} (h : f ∈ fldT c) : He.Fa.noat (cnOf tb c) (fldN f) ∈ faC tb c := by
  unfold faC
  exact List.mem_append_right _ (List.mem_map_of_mem h)
theorem facts_of {P : Program} {w : World} {K : PySem.W.Frag} {h : Heap} {mg : Str → Option Value} {fs : List FI} {tb : Tb} (X : K.In h) (N : h.Ns mainGlobals mg) (c : He.SaysD (faOf fs tb) (fs.map (ddOf tb)) K) (t : ckOf tb K = true)
    (hfn : tb.fns = fs.map FI.x) (hb : AllP BindF fs) (hc : fs.all (fiB tb) = true) (hw : whereB fs tb = true) : Facts P w K mg tb (gsOf K fs tb) fs := by
  have m1 : ∀ {f : He.Fa}, f ∈ fa0 tb fs → f ∈ faOf fs tb := fun h => by unfold faOf; simp only [List.mem_append]; exact .inl (.inl (.inl (.inl (.inl (.inl h)))))
  have m2 : ∀ {f : He.Fa}, f ∈ tb.free.map He.Fa.free → f ∈ faOf fs tb := fun h => by unfold faOf; simp only [List.mem_append]; exact .inl (.inl (.inl (.inl (.inl (.inr h)))))
  have m3 : ∀ {f : He.Fa}, f ∈ tb.gn.map (fun q => match q.2 with
    | .int i => He.Fa.int q.1 i
    | .tup _ => .glo q.1) → f ∈ faOf fs tb := fun h => by unfold faOf; simp only [List.mem_append]; exact .inl (.inl (.inl (.inl (.inr h))))
  have m4 : ∀ {f : He.Fa}, f ∈ tb.exs.map He.Fa.glo → f ∈ faOf fs tb := fun h => by unfold faOf; simp only [List.mem_append]; exact .inl (.inl (.inl (.inr h)))
  have m5 : ∀ {f : He.Fa}, f ∈ tb.exs.map He.Fa.exc → f ∈ faOf fs tb := fun h => by unfold faOf; simp only [List.mem_append]; exact .inl (.inl (.inr h))
  have m6 : ∀ {f : He.Fa} {cc : Nat}, cc ∈ tb.ci → f ∈ faC tb cc → f ∈ faOf fs tb := fun h h' => by unfold faOf; simp only [List.mem_append]; exact .inl (.inr (List.mem_flatMap.mpr ⟨_, h, h'⟩))
  have m7 : ∀ {f : He.Fa}, f ∈ (tb.ki.map fun c => He.Fa.glo (cnOf tb c)) → f ∈ faOf fs tb := fun h => by unfold faOf; simp only [List.mem_append]; exact .inr h
  have cn_at : ∀ {c : Nat} {x : Str}, tb.cn[c]? = some x → cnOf tb c = x := fun {c x} e => by unfold cnOf; rw [e]; rfl
  unfold ckOf at t
  rw [Bool.and_eq_true, Bool.and_eq_true] at t
  obtain ⟨t, tc, tk⟩ := t
  unfold tupsB at t
  simp only [Bool.and_eq_true, List.all_eq_true] at t
  unfold whereB at hw
  simp only [Bool.and_eq_true, List.all_eq_true, decide_eq_true_eq] at hw
  have fnA_at : ∀ {k : Nat} {f : FI}, fs[k]? = some f → (gsOf K fs tb).fnA k = He.fAd K (atOf tb f) := fun {k f} e => by
    show (match fs[k]? with | some f => He.fAd K (atOf tb f) | none => 0) = _
    rw [e]
  have cl_at : ∀ {k : Nat} {q : Nat × Str}, (fs[k]?).map (fun f => f.cl) = some (some q) → ∃ f, fs[k]? = some f ∧ (gsOf K fs tb).fnA k = He.ma K (He.ga K (cnOf tb q.1)) q.2 := fun {k q} e => by
    cases e1 : fs[k]? with
    | none => rw [e1] at e; cases e
    | some f =>
      rw [e1] at e
      have e : f.cl = some q := by simpa using e
      refine ⟨f, rfl, ?_⟩
      rw [fnA_at e1]
      unfold atOf
      rw [e]; rfl
  refine ⟨rfl, hfn, fun k f e => ?_, fun k f e => ?_, fun x hx => ?_, fun k x i e => ?_, fun cc x e hx => ?_, fun k x ns e => ?_, rfl, fun cc hcc => ?_, fun cc x e hcc => ?_, fun cc hcc => ?_, fun cc x e hk => ?_⟩
  · have hf : f ∈ fs := List.mem_of_getElem? e
    obtain ⟨fd, F⟩ := c.def_ k (d := ddOf tb f) (by rw [List.getElem?_map, e]; rfl)
    rw [fnA_at e]
    refine ⟨fd, nmOf f, F, fun hne => ?_, F.kp, FunD.bindsN F (hb.get f hf)⟩
    have hn : f.cl = none := by
      cases q : f.cl with
      | none => rfl
      | some z =>
        rw [noName_of (hw.2 f hf) q] at hne; cases hne
    have eg := He.glo_ok X N (fact_mem c (m1 (List.mem_map_of_mem (f := fun f => He.Fa.glo (atOf tb f).1) hf)))
    have ea : atOf tb f = (f.x, none) := by unfold atOf; rw [hn]
    rw [ea] at eg ⊢
    exact eg
  · have := List.all_eq_true.mp hc f (List.mem_of_getElem? e)
    unfold fiB at this
    simp only [Bool.and_eq_true] at this
    obtain ⟨s1, s2⟩ := scB_ok this.1
    exact ⟨s1, s2, this.2⟩
  · exact He.free_ok X N (fact_mem c (m2 (List.mem_map_of_mem (by simpa using hx))))
  · exact He.int_ok X N (fact_mem c (m3 (List.mem_map.mpr ⟨_, List.mem_of_getElem? e, rfl⟩)))
  · have hx : x ∈ tb.exs := by simpa using hx
    obtain ⟨h1, h2, h3, h4⟩ := He.exc_ok (fact_mem c (m5 (List.mem_map_of_mem hx)))
    show mg x = some (.ref (He.ga K (cnOf tb cc))) ∧ PySem.W.excIn K (He.ga K (cnOf tb cc)) He.veBase "ValueError.__new__" = true ∧ PySem.W.keepIn K (.ref (He.ga K (cnOf tb cc))) = true ∧ PySem.W.subIn K (.ref (He.ga K (cnOf tb cc))) (.type "BaseException") = some true ∧ PySem.W.typeIn K (.ref (He.ga K (cnOf tb cc))) = some (.type "type")
    rw [cn_at e]
    exact ⟨He.glo_ok X N (fact_mem c (m4 (List.mem_map_of_mem hx))), h1, h2, h3, h4⟩
  · have hg := He.glo_ok X N (fact_mem c (m3 (List.mem_map.mpr ⟨_, List.mem_of_getElem? e, rfl⟩)))
    refine ⟨_, hg, fun H => ?_⟩
    have ht := t.2 (x, ns) (by unfold tpOf; exact List.mem_filterMap.mpr ⟨_, List.mem_of_getElem? e, rfl⟩)
    have := He.tupB_ok ht H
    rw [List.map_map] at this
    exact this
  · have hcc : cc ∈ tb.ci := by simpa using hcc
    have hB := List.all_eq_true.mp tc cc hcc
    unfold clsB at hB
    simp only [Bool.and_eq_true, decide_eq_true_eq] at hB
    obtain ⟨⟨⟨b1, b2⟩, b3⟩, b4⟩ := hB
    exact ⟨He.cls_ok (fact_mem c (m6 hcc (by simp [faC]))), fun f hf => He.noat_ok (fact_mem c (m6 hcc (fldN_at hf))), b1, b2, b3, b4⟩
  · have hcc' : cc ∈ tb.ci := by simpa using hcc
    have hg := He.glo_ok X N (fact_mem c (m6 hcc' (f := .glo (cnOf tb cc)) (by simp [faC])))
    obtain ⟨f, e1, e2⟩ := cl_at (hw.1 cc hcc').1
    rw [cn_at e] at hg
    refine ⟨by show mg x = some (.ref (He.ga K (cnOf tb cc))); rw [cn_at e]; exact hg, ?_, f, e1⟩
    rw [e2]
    exact He.mkr_ok (fact_mem c (m6 hcc' (f := .mkr (cnOf tb cc)) (by simp [faC])))
  · have hcc' : cc ∈ tb.ci := by simpa using hcc
    obtain ⟨f, e1, e2⟩ := cl_at (hw.1 cc hcc').2
    refine ⟨?_, f, e1⟩
    rw [e2]
    exact He.meth_ok (fact_mem c (m6 hcc' (f := .meth (cnOf tb cc) "shows") (by simp [faC])))
  · have hk : cc ∈ tb.ki := by simpa using hk
    have hg := He.glo_ok X N (fact_mem c (m7 (List.mem_map_of_mem (f := fun c => He.Fa.glo (cnOf tb c)) hk)))
    have hB := List.all_eq_true.mp tk cc hk
    unfold kisB at hB
    simp only [Bool.and_eq_true, List.all_eq_true, decide_eq_true_eq] at hB
    rw [cn_at e] at hg
    refine ⟨by show mg x = some (.ref (He.ga K (cnOf tb cc))); rw [cn_at e]; exact hg, fun c' hc' => hB.1 c' (by simpa using hc'), fun n hn => hB.2 n hn⟩
/-- a law row behind the top -/
theorem walk_law {l : PySem.W.OpenLaw} {q : Program} {loose : List Str} {XP : (Str → Option Value) → Heap → Prop} {d : DefRec} {fs : List FI} {tb : Tb} {k n m dp : Nat} {f : FI} {x : Str}
    (hn : l.most = some 63) (hdf : d.params.defaults = []) (hr : Room (dp + 2) callerA) (hx : f.x = d.name) (hxe : (f.x == Str.empty) = false) (hps : f.ps = [x]) (hk : fs[k]? = some f) (hfn : tb.fns = fs.map FI.x) (hb : AllP BindF fs) (hc : fs.all (fiB tb) = true) (hw : whereB fs tb = true) (hcl : f.cl = none)
    (hm : ∀ ns : List Int, ns.length ≤ 63 → (∀ z ∈ ns, Builtin.Int.intBits z ≤ 1048576) → ∃ fr, (pgOf fs n (dp + 1)).fn k [scrD ns] = .ok (.bl true, fr)) :
    PySem.W.WalkO q loose XP (hkF m (ckOf tb) (faOf fs tb) (fs.map (ddOf tb))).says l.row.toRowW d [] (fun f vs => PySem.call f vs) := by
  refine Att.attach_callB hn hdf fun w s₀ s₁ mg mb fa o pm cd doc a vs ns G Y ho hd hcd hmg hobj hints hlen hbits hg => ?_
  obtain ⟨K, KX, c, nl⟩ := Y
  have F : Facts l.prog w K mg tb (gsOf K fs tb) fs := facts_of KX G.T.g c nl hfn hb hc hw
  obtain ⟨fd, q, FD, h1, h2, h3⟩ := F.fn k f hk
  have hfa : fa = (gsOf K fs tb).fnA k := by
    have h1 := h1 hxe
    rw [hx, hmg] at h1
    cases h1; rfl
  have hbA : ∀ (s : Shared) (u : Value), BindsTo s fd ⟨[u], []⟩ [(x, u)] := fun s u => by
    have := FunD.bindsA FD (ps := f.ps) (hb.get f (List.mem_of_getElem? hk)) s [u] (by rw [hps]; rfl)
    rw [hps] at this
    exact this
  refine law_call (k := dp + 2) (sp := spOf (gsOf K fs tb) ((pgOf fs n (dp + 1)).fn k)) (CX := L2.CX l.prog w) (fd := fd) KX G.T.g G.T.b G.T.builtins G.T.nolimit hg hobj hints (Nat.le_trans hlen (by decide)) hr (fun base _ _ => ?_) hbA (fun H hO hS => sp_law (G := gsOf K fs tb) ?_ hS (hm ns hlen hbits)) fun H e s' hc => ?_
  · obtain ⟨s1, s2, s3⟩ := F.sc k f hk
    have T := fn_ok (n := n) F.hK FD s1 s2 (F.tower (base := base) (n := n) dp) s3
    rw [hps, ← hfa] at T
    have ef : (pgOf fs n (dp + 1)).fn k = tabFn (pgOf fs n dp) n f := by
      funext args
      show (match fs[k]? with | some f => tabFn (pgOf fs n dp) n f args | none => .no) = _
      rw [hk]
    rw [ef]
    exact T
  · unfold ckOf tupsB at nl
    simp only [Bool.and_eq_true] at nl
    exact nl.1.1
  · obtain ⟨_, _, _, _, _, _, _, _, _, _, _, _, z⟩ := hc
    exact z
end FR

namespace FR
open PySem
class HasF (fs : List FI) (k np nn : Nat) (b : List CS) : Prop where
  h : ∃ f, fs[k]? = some f ∧ f.ps.length = np ∧ f.N.length = nn ∧ f.body = b
def B_is_whole : List CS := [.ret (.an (.isin (.v 0) .int) (.nt (.isin (.v 0) .bool)))]
abbrev i_is_whole : Nat := 0
abbrev H_is_whole (fs : List FI) : Prop := HasF fs 0 1 1 B_is_whole
def B_check_room : List CS := [.if_ (.or (.nt (.call 0 [.v 0])) (.or (.inC true (.v 0) 0 [2, 3, 5, 7, 11, 13, 17, 19, 23, 29, 31]) (.or (.nt (.call 0 [.v 1])) (.nt (.ch .le .le (.k (.int 1)) (.v 1) (.gi 1 6)))))) [.rse 1] []]
abbrev i_check_room : Nat := 1
abbrev H_check_room (fs : List FI) : Prop := HasF fs 1 2 2 B_check_room
def B_is_row : List CS := [.if_ (.or (.nt (.isin (.v 2) .list)) (.cmp .ne (.len (.v 2)) (.v 1))) [.ret (.k (.bl false))] [], .ret (.all (.lc (.an (.call 0 [.v 3]) (.ch .le .lt (.k (.int 0)) (.v 3) (.v 0))) [3] .lst (.v 2) (.nil) (.k (.bl true))))]
abbrev i_is_row : Nat := 2
abbrev H_is_row (fs : List FI) : Prop := HasF fs 2 3 4 B_is_row
def B_check_row : List CS := [.if_ (.nt (.call 2 [.v 0, .v 1, .v 2])) [.rse 2] []]
abbrev i_check_row : Nat := 3
abbrev H_check_row (fs : List FI) : Prop := HasF fs 3 3 3 B_check_row
def B_inverse : List CS := [.ret (.ix (.lc (.v 2) [2] .rng2 (.k (.int 1)) (.v 0) (.cmp .eq (.bin .mod (.bin .mul (.v 2) (.v 1)) (.v 0)) (.k (.int 1)))) (.k (.int 0)))]
abbrev i_inverse : Nat := 4
abbrev H_inverse (fs : List FI) : Prop := HasF fs 4 2 3 B_inverse
def B_often : List CS := [.ret (.lc (.bin .mod (.bin .mul (.v 3) (.v 2)) (.v 0)) [3] .lst (.v 1) (.nil) (.k (.bl true)))]
abbrev i_often : Nat := 5
abbrev H_often (fs : List FI) : Prop := HasF fs 5 3 4 B_often
def B_added : List CS := [.ret (.lc (.bin .mod (.bin .add (.v 4) (.bin .mul (.v 3) (.v 5))) (.v 0)) [4, 5] .zip (.v 1) (.v 2) (.k (.bl true)))]
abbrev i_added : Nat := 6
abbrev H_added (fs : List FI) : Prop := HasF fs 6 4 6 B_added
def B_summed : List CS := [.set 4 (.bin .mul (.lst [.k (.int 0)]) (.v 1)), .for_ [5, 6] .zip (.v 2) (.v 3) [.set 4 (.call 6 [.v 0, .v 4, .v 5, .v 6])] [5, 6], .ret (.mv 4)]
abbrev i_summed : Nat := 7
abbrev H_summed (fs : List FI) : Prop := HasF fs 7 4 7 B_summed
def B_product : List CS := [.ret (.bin .mod (.sum (.lc (.bin .mul (.v 3) (.v 4)) [3, 4] .zip (.v 1) (.v 2) (.k (.bl true)))) (.v 0))]
abbrev i_product : Nat := 8
abbrev H_product (fs : List FI) : Prop := HasF fs 8 3 5 B_product
def B_form_of : List CS := [.par [3, 4] [.lc (.list (.v 5)) [5] .lst (.v 2) (.nil) (.k (.bl true)), .lst []], .for_ [6] .rng1 (.v 1) (.nil) [.set 7 (.lc (.v 8) [8, 5] .enm (.v 3) (.nil) (.cmp .ne (.ix (.v 5) (.v 6)) (.k (.int 0)))), .if_ (.cmp .ne (.v 7) (.lst [])) [.popT 5 3 (.ix (.v 7) (.k (.int 0))), .set 5 (.call 5 [.v 0, .v 5, .call 4 [.v 0, .ix (.v 5) (.v 6)]]), .set 3 (.lc (.call 6 [.v 0, .v 9, .v 5, .neg (.ix (.v 9) (.v 6))]) [9] .lst (.mv 3) (.nil) (.k (.bl true))), .set 4 (.bin .add (.lc (.call 6 [.v 0, .v 9, .v 5, .neg (.ix (.v 9) (.v 6))]) [9] .lst (.mv 4) (.nil) (.k (.bl true))) (.lst [.mv 5]))] []] [5, 6, 7], .ret (.mv 4)]
abbrev i_form_of : Nat := 9
abbrev H_form_of (fs : List FI) : Prop := HasF fs 9 3 10 B_form_of
def B_corners_of : List CS := [.ret (.lc (.ix (.lc (.v 1) [1, 2] .enm (.v 3) (.nil) (.cmp .ne (.v 2) (.k (.int 0)))) (.k (.int 0))) [3] .lst (.v 0) (.nil) (.k (.bl true)))]
abbrev i_corners_of : Nat := 10
abbrev H_corners_of (fs : List FI) : Prop := HasF fs 10 1 4 B_corners_of
def B_is_flat : List CS := [.if_ (.or (.nt (.isin (.v 2) .list)) (.or (.cmp .gt (.len (.v 2)) (.v 1)) (.nt (.all (.lc (.call 2 [.v 0, .v 1, .v 3]) [3] .lst (.v 2) (.nil) (.k (.bl true))))))) [.ret (.k (.bl false))] [], .ret (.cmp .eq (.call 9 [.v 0, .v 1, .v 2]) (.v 2))]
abbrev i_is_flat : Nat := 11
abbrev H_is_flat (fs : List FI) : Prop := HasF fs 11 3 4 B_is_flat
def B_check_flat : List CS := [.if_ (.nt (.call 11 [.v 0, .v 1, .v 2])) [.rse 3] []]
abbrev i_check_flat : Nat := 12
abbrev H_check_flat (fs : List FI) : Prop := HasF fs 12 3 3 B_check_flat
def B_check_rows : List CS := [.if_ (.or (.nt (.isin (.v 2) .list)) (.or (.cmp .gt (.len (.v 2)) (.gi 2 20)) (.nt (.all (.lc (.call 2 [.v 0, .v 1, .v 3]) [3] .lst (.v 2) (.nil) (.k (.bl true))))))) [.rse 2] []]
abbrev i_check_rows : Nat := 13
abbrev H_check_rows (fs : List FI) : Prop := HasF fs 13 3 4 B_check_rows
def B_form : List CS := [.ex (.call 1 [.v 0, .v 1]), .ex (.call 13 [.v 0, .v 1, .v 2]), .ret (.call 9 [.v 0, .v 1, .v 2])]
abbrev i_form : Nat := 14
abbrev H_form (fs : List FI) : Prop := HasF fs 14 3 3 B_form
def B_corners : List CS := [.ex (.call 1 [.v 0, .v 1]), .ex (.call 12 [.v 0, .v 1, .v 2]), .ret (.call 10 [.v 2])]
abbrev i_corners : Nat := 15
abbrev H_corners (fs : List FI) : Prop := HasF fs 15 3 3 B_corners
def B_shares_of : List CS := [.ret (.lc (.ix (.v 1) (.v 2)) [2] .lst (.call 10 [.v 0]) (.nil) (.k (.bl true)))]
abbrev i_shares_of : Nat := 16
abbrev H_shares_of (fs : List FI) : Prop := HasF fs 16 2 3 B_shares_of
def B_cross_at : List CS := [.set 4 (.bin .mul (.lst [.k (.int 0)]) (.v 1)), .seti 4 (.v 3) (.k (.int 1)), .for_ [5, 6] .zip (.call 10 [.v 2]) (.v 2) [.seti 4 (.v 5) (.bin .mod (.neg (.ix (.v 6) (.v 3))) (.v 0))] [5, 6], .ret (.mv 4)]
abbrev i_cross_at : Nat := 17
abbrev H_cross_at (fs : List FI) : Prop := HasF fs 17 4 7 B_cross_at
def B_across_of : List CS := [.set 3 (.call 10 [.v 2]), .ret (.call 9 [.v 0, .v 1, .lc (.call 17 [.v 0, .v 1, .v 2, .v 4]) [4] .rng1 (.v 1) (.nil) (.cmp .nin (.v 4) (.v 3))])]
abbrev i_across_of : Nat := 18
abbrev H_across_of (fs : List FI) : Prop := HasF fs 18 3 5 B_across_of
def B_does_lie : List CS := [.ret (.cmp .eq (.call 7 [.v 0, .v 1, .v 2, .call 16 [.v 2, .v 3]]) (.v 3))]
abbrev i_does_lie : Nat := 19
abbrev H_does_lie (fs : List FI) : Prop := HasF fs 19 4 4 B_does_lie
def B_joined_of : List CS := [.ret (.call 9 [.v 0, .v 1, .bin .add (.v 2) (.v 3)])]
abbrev i_joined_of : Nat := 20
abbrev H_joined_of (fs : List FI) : Prop := HasF fs 20 4 4 B_joined_of
def B_met_of : List CS := [.set 4 (.bin .add (.call 18 [.v 0, .v 1, .v 2]) (.call 18 [.v 0, .v 1, .v 3])), .ret (.call 18 [.v 0, .v 1, .call 9 [.v 0, .v 1, .v 4]])]
abbrev i_met_of : Nat := 21
abbrev H_met_of (fs : List FI) : Prop := HasF fs 21 4 5 B_met_of
def B_is_inside : List CS := [.ret (.all (.lc (.call 19 [.v 0, .v 1, .v 3, .v 4]) [4] .lst (.v 2) (.nil) (.k (.bl true))))]
abbrev i_is_inside : Nat := 22
abbrev H_is_inside (fs : List FI) : Prop := HasF fs 22 4 5 B_is_inside
def B_check_two : List CS := [.ex (.call 1 [.v 0, .v 1]), .ex (.call 12 [.v 0, .v 1, .v 2]), .ex (.call 12 [.v 0, .v 1, .v 3])]
abbrev i_check_two : Nat := 23
abbrev H_check_two (fs : List FI) : Prop := HasF fs 23 4 4 B_check_two
def B_joined : List CS := [.ex (.call 23 [.v 0, .v 1, .v 2, .v 3]), .ret (.call 20 [.v 0, .v 1, .v 2, .v 3])]
abbrev i_joined : Nat := 24
abbrev H_joined (fs : List FI) : Prop := HasF fs 24 4 4 B_joined
def B_met : List CS := [.ex (.call 23 [.v 0, .v 1, .v 2, .v 3]), .ret (.call 21 [.v 0, .v 1, .v 2, .v 3])]
abbrev i_met : Nat := 25
abbrev H_met (fs : List FI) : Prop := HasF fs 25 4 4 B_met
def B_inside : List CS := [.ex (.call 23 [.v 0, .v 1, .v 2, .v 3]), .ret (.call 22 [.v 0, .v 1, .v 2, .v 3])]
abbrev i_inside : Nat := 26
abbrev H_inside (fs : List FI) : Prop := HasF fs 26 4 4 B_inside
def B_beyond : List CS := [.setT 4 (.lst []), .set 5 (.len (.call 9 [.v 0, .v 1, .v 2])), .for_ [6] .lst (.v 3) (.nil) [.if_ (.cmp .gt (.len (.call 9 [.v 0, .v 1, .bin .add (.bin .add (.v 2) (.v 4)) (.lst [.v 6])])) (.bin .add (.v 5) (.len (.v 4)))) [.app 4 (.mv 6)] []] [6], .ret (.mv 4)]
abbrev i_beyond : Nat := 27
abbrev H_beyond (fs : List FI) : Prop := HasF fs 27 4 7 B_beyond
def B_beside : List CS := [.ex (.call 23 [.v 0, .v 1, .v 2, .v 3]), .if_ (.nt (.call 22 [.v 0, .v 1, .v 2, .v 3])) [.rse 9] [], .ret (.call 9 [.v 0, .v 1, .call 27 [.v 0, .v 1, .v 2, .v 3]])]
abbrev i_beside : Nat := 28
abbrev H_beside (fs : List FI) : Prop := HasF fs 28 4 4 B_beside
def B_widths_of : List CS := [.if_ (.cmp .eq (.len (.v 2)) (.k (.int 1))) [.ret (.lst [.len (.ix (.v 2) (.k (.int 0)))])] [], .par [3, 4] [.ix (.v 2) (.k (.int 0)), .ix (.v 2) (.k (.int 1))], .set 5 (.call 21 [.v 0, .v 1, .v 3, .v 4]), .if_ (.cmp .eq (.len (.v 2)) (.k (.int 2))) [.ret (.lst [.len (.v 3), .len (.v 4), .len (.v 5)])] [], .set 6 (.ix (.v 2) (.k (.int 2))), .par [7, 8] [.call 21 [.v 0, .v 1, .v 3, .v 6], .call 21 [.v 0, .v 1, .v 4, .v 6]], .set 9 (.call 20 [.v 0, .v 1, .v 4, .v 6]), .set 10 (.lst [.v 3, .mv 4, .v 6, .v 5, .mv 7, .mv 8, .call 21 [.v 0, .v 1, .v 5, .v 6]]), .set 10 (.bin .add (.mv 10) (.lst [.call 21 [.v 0, .v 1, .v 3, .v 9], .call 20 [.v 0, .v 1, .v 3, .v 9]])), .ret (.lc (.len (.v 11)) [11] .lst (.mv 10) (.nil) (.k (.bl true)))]
abbrev i_widths_of : Nat := 29
abbrev H_widths_of (fs : List FI) : Prop := HasF fs 29 3 12 B_widths_of
def B_lies : List CS := [.ex (.call 1 [.v 0, .v 1]), .ex (.call 12 [.v 0, .v 1, .v 2]), .ex (.call 3 [.v 0, .v 1, .v 3]), .set 4 (.call 16 [.v 2, .v 3]), .set 5 (.call 7 [.v 0, .v 1, .v 2, .v 4]), .for_ [6] .rng1 (.v 1) (.nil) [.if_ (.cmp .ne (.ix (.v 5) (.v 6)) (.ix (.v 3) (.v 6))) [.ret (.new 12 [.call 17 [.v 0, .v 1, .v 2, .v 6]])] []] [6], .ret (.new 11 [.v 4])]
abbrev i_lies : Nat := 30
abbrev H_lies (fs : List FI) : Prop := HasF fs 30 4 7 B_lies
def B_across : List CS := [.ex (.call 1 [.v 0, .v 1]), .ex (.call 12 [.v 0, .v 1, .v 2]), .ret (.call 18 [.v 0, .v 1, .v 2])]
abbrev i_across : Nat := 31
abbrev H_across (fs : List FI) : Prop := HasF fs 31 3 3 B_across
def B_power : List CS := [.set 2 (.k (.int 1)), .for_ [3] .rng1 (.v 1) (.nil) [.aug 2 .mul (.v 0)] [3], .ret (.mv 2)]
abbrev i_power : Nat := 32
abbrev H_power (fs : List FI) : Prop := HasF fs 32 2 4 B_power
def B_flats_of : List CS := [.set 3 (.bin .add (.lst [.k (.int 1)]) (.bin .mul (.lst [.k (.int 0)]) (.v 1))), .for_ [4] .rng2 (.k (.int 1)) (.bin .add (.v 1) (.k (.int 1))) [.set 3 (.bin .add (.lst [.k (.int 1)]) (.lc (.bin .add (.ix (.v 3) (.bin .sub (.v 5) (.k (.int 1)))) (.bin .mul (.call 32 [.v 0, .v 5]) (.ix (.v 3) (.v 5)))) [5] .rng2 (.k (.int 1)) (.bin .add (.v 1) (.k (.int 1))) (.k (.bl true))))] [4], .ret (.ife (.ch .le .le (.k (.int 0)) (.v 2) (.v 1)) (.ix (.v 3) (.v 2)) (.k (.int 0)))]
abbrev i_flats_of : Nat := 33
abbrev H_flats_of (fs : List FI) : Prop := HasF fs 33 3 6 B_flats_of
def B_check_width : List CS := [.if_ (.or (.nt (.call 0 [.v 1])) (.nt (.ch .le .le (.k (.int 0)) (.v 1) (.v 0)))) [.rse 4] []]
abbrev i_check_width : Nat := 34
abbrev H_check_width (fs : List FI) : Prop := HasF fs 34 2 2 B_check_width
def B_how_many : List CS := [.ex (.call 1 [.v 0, .v 1]), .ex (.call 34 [.v 1, .v 2]), .ret (.call 33 [.v 0, .v 1, .v 2])]
abbrev i_how_many : Nat := 35
abbrev H_how_many (fs : List FI) : Prop := HasF fs 35 3 3 B_how_many
def B_cells_of : List CS := [.set 2 (.lst [.lst []]), .for_ [3] .rng1 (.v 1) (.nil) [.set 4 (.lst []), .for_ [5] .lst (.v 2) (.nil) [.set 6 (.ife (.cmp .ne (.v 5) (.lst [])) (.bin .add (.ix (.v 5) (.neg (.k (.int 1)))) (.k (.int 1))) (.k (.int 0))), .ext 4 (.lc (.bin .add (.v 5) (.lst [.v 7])) [7] .rng2 (.v 6) (.v 0) (.k (.bl true)))] [5, 6], .set 2 (.mv 4)] [3, 4, 5, 6], .ret (.mv 2)]
abbrev i_cells_of : Nat := 36
abbrev H_cells_of (fs : List FI) : Prop := HasF fs 36 2 8 B_cells_of
def B_cells : List CS := [.ex (.call 1 [.v 0, .v 1]), .ex (.call 34 [.v 1, .v 2]), .ret (.call 36 [.v 1, .v 2])]
abbrev i_cells : Nat := 37
abbrev H_cells (fs : List FI) : Prop := HasF fs 37 3 3 B_cells
def B_free_of : List CS := [.ret (.lc (.lc (.v 2) [2] .rng2 (.bin .add (.v 3) (.k (.int 1))) (.v 0) (.cmp .nin (.v 2) (.v 1))) [3] .lst (.v 1) (.nil) (.k (.bl true)))]
abbrev i_free_of : Nat := 38
abbrev H_free_of (fs : List FI) : Prop := HasF fs 38 2 4 B_free_of
def B_many_in : List CS := [.ret (.call 32 [.v 0, .sum (.lc (.len (.v 3)) [3] .lst (.call 38 [.v 1, .v 2]) (.nil) (.k (.bl true)))])]
abbrev i_many_in : Nat := 39
abbrev H_many_in (fs : List FI) : Prop := HasF fs 39 3 4 B_many_in
def B_in_cell : List CS := [.ex (.call 1 [.v 0, .v 1]), .if_ (.or (.nt (.isin (.v 2) .list)) (.nt (.all (.lc (.an (.call 0 [.v 3]) (.ch .le .lt (.k (.int 0)) (.v 3) (.v 1))) [3] .lst (.v 2) (.nil) (.k (.bl true)))))) [.rse 5] [], .if_ (.any (.lc (.cmp .ge (.ix (.v 2) (.bin .sub (.v 4) (.k (.int 1)))) (.ix (.v 2) (.v 4))) [4] .rng2 (.k (.int 1)) (.len (.v 2)) (.k (.bl true)))) [.rse 5] [], .ret (.call 39 [.v 0, .v 1, .v 2])]
abbrev i_in_cell : Nat := 40
abbrev H_in_cell (fs : List FI) : Prop := HasF fs 40 3 5 B_in_cell
def B_flat_by : List CS := [.ex (.call 1 [.v 0, .v 1]), .ex (.call 34 [.v 1, .v 2]), .if_ (.or (.nt (.call 0 [.v 3])) (.nt (.ch .le .lt (.k (.int 0)) (.v 3) (.call 33 [.v 0, .v 1, .v 2])))) [.rse 6] [], .for_ [4] .lst (.call 36 [.v 1, .v 2]) (.nil) [.set 5 (.call 39 [.v 0, .v 1, .v 4]), .if_ (.cmp .lt (.v 3) (.v 5)) [.ret (.call 41 [.v 0, .v 1, .v 4, .v 3])] [], .aug 3 .sub (.v 5)] [4, 5], .ret (.k .non)]
abbrev i_flat_by : Nat := 42
abbrev H_flat_by (fs : List FI) : Prop := HasF fs 42 4 6 B_flat_by
def B_number_of : List CS := [.ex (.call 1 [.v 0, .v 1]), .ex (.call 12 [.v 0, .v 1, .v 2]), .set 3 (.call 10 [.v 2]), .set 4 (.k (.int 0)), .for_ [5, 6] .zip (.v 2) (.call 38 [.v 1, .v 3]) [.for_ [7] .lst (.v 6) (.nil) [.set 4 (.bin .add (.bin .mul (.v 4) (.v 0)) (.ix (.v 5) (.v 7)))] [7]] [5, 6, 7], .for_ [8] .lst (.call 36 [.v 1, .len (.v 2)]) (.nil) [.if_ (.cmp .eq (.v 8) (.v 3)) [.ret (.mv 4)] [], .aug 4 .add (.call 39 [.v 0, .v 1, .v 8])] [8], .ret (.k .non)]
abbrev i_number_of : Nat := 43
abbrev H_number_of (fs : List FI) : Prop := HasF fs 43 3 9 B_number_of
def B_between : List CS := [.ex (.call 1 [.v 0, .v 1]), .ex (.call 12 [.v 0, .v 1, .v 2]), .ex (.call 12 [.v 0, .v 1, .v 3]), .if_ (.nt (.call 22 [.v 0, .v 1, .v 2, .v 3])) [.rse 9] [], .ex (.call 34 [.v 1, .v 4]), .ret (.call 33 [.v 0, .bin .sub (.len (.v 3)) (.len (.v 2)), .bin .sub (.v 4) (.len (.v 2))])]
abbrev i_between : Nat := 44
abbrev H_between (fs : List FI) : Prop := HasF fs 44 5 5 B_between
def B_chains : List CS := [.ex (.call 1 [.v 0, .v 1]), .set 2 (.k (.int 1)), .for_ [3] .rng2 (.k (.int 1)) (.bin .add (.v 1) (.k (.int 1))) [.aug 2 .mul (.sum (.lc (.call 32 [.v 0, .v 4]) [4] .rng1 (.v 3) (.nil) (.k (.bl true))))] [3], .ret (.mv 2)]
abbrev i_chains : Nat := 45
abbrev H_chains (fs : List FI) : Prop := HasF fs 45 2 5 B_chains
def B_beside_many : List CS := [.ex (.call 1 [.v 0, .v 1]), .ex (.call 12 [.v 0, .v 1, .v 2]), .ret (.call 32 [.v 0, .bin .mul (.len (.v 2)) (.bin .sub (.v 1) (.len (.v 2)))])]
abbrev i_beside_many : Nat := 46
abbrev H_beside_many (fs : List FI) : Prop := HasF fs 46 3 3 B_beside_many
def B_check_table : List CS := [.if_ (.or (.nt (.isin (.v 2) .list)) (.or (.cmp .ne (.len (.v 2)) (.v 1)) (.nt (.all (.lc (.call 2 [.v 0, .v 1, .v 3]) [3] .lst (.v 2) (.nil) (.k (.bl true))))))) [.rse 7] [], .if_ (.cmp .lt (.len (.call 9 [.v 0, .v 1, .v 2])) (.v 1)) [.rse 7] []]
abbrev i_check_table : Nat := 47
abbrev H_check_table (fs : List FI) : Prop := HasF fs 47 3 4 B_check_table
def B_even_table : List CS := [.ret (.lc (.lc (.ife (.cmp .eq (.v 1) (.v 2)) (.k (.int 1)) (.k (.int 0))) [1] .rng1 (.v 0) (.nil) (.k (.bl true))) [2] .rng1 (.v 0) (.nil) (.k (.bl true)))]
abbrev i_even_table : Nat := 48
abbrev H_even_table (fs : List FI) : Prop := HasF fs 48 1 3 B_even_table
def B_behind_of : List CS := [.ret (.lc (.call 7 [.v 0, .v 1, .v 3, .v 4]) [4] .lst (.v 2) (.nil) (.k (.bl true)))]
abbrev i_behind_of : Nat := 49
abbrev H_behind_of (fs : List FI) : Prop := HasF fs 49 4 5 B_behind_of
def B_undone_of : List CS := [.set 3 (.lc (.bin .add (.v 4) (.v 5)) [4, 5] .zip (.v 2) (.call 48 [.v 1]) (.k (.bl true))), .ret (.lc (.sl (.v 4) (.v 1) (.nil)) [4] .lst (.call 9 [.v 0, .bin .mul (.k (.int 2)) (.v 1), .v 3]) (.nil) (.k (.bl true)))]
abbrev i_undone_of : Nat := 50
abbrev H_undone_of (fs : List FI) : Prop := HasF fs 50 3 6 B_undone_of
def B_flat_turned : List CS := [.ret (.call 9 [.v 0, .v 1, .call 49 [.v 0, .v 1, .v 3, .v 2]])]
abbrev i_flat_turned : Nat := 51
abbrev H_flat_turned (fs : List FI) : Prop := HasF fs 51 4 4 B_flat_turned
def B_row_turned : List CS := [.ex (.call 1 [.v 0, .v 1]), .ex (.call 47 [.v 0, .v 1, .v 2]), .ex (.call 3 [.v 0, .v 1, .v 3]), .ret (.call 7 [.v 0, .v 1, .v 2, .v 3])]
abbrev i_row_turned : Nat := 52
abbrev H_row_turned (fs : List FI) : Prop := HasF fs 52 4 4 B_row_turned
def B_turned_by : List CS := [.ex (.call 1 [.v 0, .v 1]), .ex (.call 47 [.v 0, .v 1, .v 2]), .ex (.call 12 [.v 0, .v 1, .v 3]), .ret (.call 51 [.v 0, .v 1, .v 2, .v 3])]
abbrev i_turned_by : Nat := 53
abbrev H_turned_by (fs : List FI) : Prop := HasF fs 53 4 4 B_turned_by
def B_behind : List CS := [.ex (.call 1 [.v 0, .v 1]), .ex (.call 47 [.v 0, .v 1, .v 2]), .ex (.call 47 [.v 0, .v 1, .v 3]), .ret (.call 49 [.v 0, .v 1, .v 2, .v 3])]
abbrev i_behind : Nat := 54
abbrev H_behind (fs : List FI) : Prop := HasF fs 54 4 4 B_behind
def B_undone : List CS := [.ex (.call 1 [.v 0, .v 1]), .ex (.call 47 [.v 0, .v 1, .v 2]), .ret (.call 50 [.v 0, .v 1, .v 2])]
abbrev i_undone : Nat := 55
abbrev H_undone (fs : List FI) : Prop := HasF fs 55 3 3 B_undone
def B_tables : List CS := [.ex (.call 1 [.v 0, .v 1]), .set 2 (.k (.int 1)), .for_ [3] .rng1 (.v 1) (.nil) [.aug 2 .mul (.bin .sub (.call 32 [.v 0, .v 1]) (.call 32 [.v 0, .v 3]))] [3], .ret (.mv 2)]
abbrev i_tables : Nat := 56
abbrev H_tables (fs : List FI) : Prop := HasF fs 56 2 4 B_tables
def B_check_flats : List CS := [.if_ (.or (.nt (.isin (.v 2) .list)) (.or (.cmp .ne (.len (.v 2)) (.v 3)) (.nt (.all (.lc (.call 11 [.v 0, .v 1, .v 4]) [4] .lst (.v 2) (.nil) (.k (.bl true))))))) [.rse 3] []]
abbrev i_check_flats : Nat := 57
abbrev H_check_flats (fs : List FI) : Prop := HasF fs 57 4 5 B_check_flats
def B_base_of_two : List CS := [.set 4 (.call 21 [.v 0, .v 1, .v 2, .v 3]), .par [5, 6] [.call 27 [.v 0, .v 1, .v 4, .v 2], .call 27 [.v 0, .v 1, .v 4, .v 3]], .set 4 (.bin .add (.bin .add (.mv 4) (.mv 5)) (.mv 6)), .ret (.bin .add (.v 4) (.call 27 [.v 0, .v 1, .v 4, .call 48 [.v 1]]))]
abbrev i_base_of_two : Nat := 58
abbrev H_base_of_two (fs : List FI) : Prop := HasF fs 58 4 7 B_base_of_two
def B_lessened : List CS := [.for_ [4, 5] .lst (.v 1) (.nil) [.set 6 (.ix (.lc (.v 7) [7, 8] .enm (.v 4) (.nil) (.cmp .ne (.v 8) (.k (.int 0)))) (.k (.int 0))), .set 9 (.bin .mul (.neg (.ix (.v 2) (.v 6))) (.ix (.lc (.v 10) [10] .rng2 (.k (.int 1)) (.v 0) (.cmp .eq (.bin .mod (.bin .mul (.v 10) (.ix (.v 4) (.v 6))) (.v 0)) (.k (.int 1)))) (.k (.int 0)))), .par [2, 3] [.call 6 [.v 0, .v 2, .v 4, .v 9], .call 6 [.v 0, .v 3, .v 5, .v 9]]] [4, 5, 6, 9], .ret (.tup [.v 2, .v 3])]
abbrev i_lessened : Nat := 59
abbrev H_lessened (fs : List FI) : Prop := HasF fs 59 4 11 B_lessened
def B_part_in : List CS := [.set 5 (.lst []), .for_ [6, 7] .enm (.v 2) (.nil) [.set 8 (.bin .mul (.lst [.k (.int 0)]) (.len (.v 2))), .seti 8 (.v 6) (.k (.int 1)), .unp [9, 8] (.call 59 [.v 0, .v 5, .v 7, .v 8]), .if_ (.any (.v 9)) [.app 5 (.tup [.mv 9, .mv 8])] []] [6, 7, 8, 9], .unp [9, 8] (.call 59 [.v 0, .v 5, .v 4, .bin .mul (.lst [.k (.int 0)]) (.len (.v 2))]), .ret (.call 7 [.v 0, .v 1, .sl (.v 2) (.nil) (.v 3), .lc (.bin .mod (.neg (.v 10)) (.v 0)) [10] .lst (.sl (.v 8) (.nil) (.v 3)) (.nil) (.k (.bl true))])]
abbrev i_part_in : Nat := 60
abbrev H_part_in (fs : List FI) : Prop := HasF fs 60 5 11 B_part_in
def B_base_of_three : List CS := [.par [5, 6] [.call 21 [.v 0, .v 1, .v 2, .v 3], .call 21 [.v 0, .v 1, .v 2, .v 4]], .par [7, 8] [.call 21 [.v 0, .v 1, .v 3, .v 4], .call 20 [.v 0, .v 1, .v 3, .v 4]], .set 9 (.call 21 [.v 0, .v 1, .v 5, .v 4]), .set 10 (.lc (.call 27 [.v 0, .v 1, .v 9, .v 11]) [11] .lst (.tup [.v 5, .v 6, .mv 7]) (.nil) (.k (.bl true))), .set 12 (.call 21 [.v 0, .v 1, .v 2, .v 8]), .set 13 (.call 27 [.v 0, .v 1, .bin .add (.v 5) (.v 6), .v 12]), .set 14 (.lc (.call 60 [.v 0, .v 1, .bin .add (.v 3) (.v 4), .len (.v 3), .v 15]) [15] .lst (.v 13) (.nil) (.k (.bl true))), .set 16 (.lc (.call 6 [.v 0, .v 15, .v 17, .neg (.k (.int 1))]) [15, 17] .zip (.v 13) (.v 14) (.k (.bl true))), .set 18 (.bin .add (.bin .add (.bin .add (.bin .add (.bin .add (.mv 9) (.ix (.v 10) (.k (.int 0)))) (.ix (.v 10) (.k (.int 1)))) (.ix (.v 10) (.k (.int 2)))) (.mv 14)) (.mv 16)), .set 19 (.call 27 [.v 0, .v 1, .v 12, .v 2]), .set 19 (.bin .add (.mv 19) (.call 27 [.v 0, .v 1, .call 21 [.v 0, .v 1, .v 3, .call 20 [.v 0, .v 1, .v 2, .v 4]], .v 3])), .set 19 (.bin .add (.mv 19) (.call 27 [.v 0, .v 1, .call 21 [.v 0, .v 1, .v 4, .call 20 [.v 0, .v 1, .v 2, .v 3]], .v 4])), .set 18 (.bin .add (.mv 18) (.mv 19)), .ret (.bin .add (.v 18) (.call 27 [.v 0, .v 1, .v 18, .call 48 [.v 1]]))]
abbrev i_base_of_three : Nat := 61
abbrev H_base_of_three (fs : List FI) : Prop := HasF fs 61 5 20 B_base_of_three
def B_base_of : List CS := [.if_ (.cmp .eq (.len (.v 2)) (.k (.int 1))) [.ret (.call 58 [.v 0, .v 1, .ix (.v 2) (.k (.int 0)), .lst []])] [], .if_ (.cmp .eq (.len (.v 2)) (.k (.int 2))) [.ret (.call 58 [.v 0, .v 1, .ix (.v 2) (.k (.int 0)), .ix (.v 2) (.k (.int 1))])] [], .ret (.call 61 [.v 0, .v 1, .ix (.v 2) (.k (.int 0)), .ix (.v 2) (.k (.int 1)), .ix (.v 2) (.k (.int 2))])]
abbrev i_base_of : Nat := 62
abbrev H_base_of (fs : List FI) : Prop := HasF fs 62 3 3 B_base_of
def B_turned_to : List CS := [.ex (.call 1 [.v 0, .v 1]), .ex (.call 57 [.v 0, .v 1, .v 2, .v 4]), .ex (.call 57 [.v 0, .v 1, .v 3, .v 4]), .par [5, 6] [.call 29 [.v 0, .v 1, .v 2], .call 29 [.v 0, .v 1, .v 3]], .for_ [7, 8] .enm (.v 5) (.nil) [.if_ (.cmp .ne (.v 8) (.ix (.v 6) (.v 7))) [.ret (.new 14 [.v 7])] []] [7, 8], .set 9 (.call 50 [.v 0, .v 1, .call 62 [.v 0, .v 1, .v 2]]), .ret (.new 13 [.call 49 [.v 0, .v 1, .v 9, .call 62 [.v 0, .v 1, .v 3]]])]
abbrev i_turned_to : Nat := 63
abbrev H_turned_to (fs : List FI) : Prop := HasF fs 63 5 10 B_turned_to
def B_widths : List CS := [.ex (.call 1 [.v 0, .v 1]), .ex (.call 57 [.v 0, .v 1, .v 2, .ife (.an (.isin (.v 2) .list) (.ch .lt .lt (.k (.int 0)) (.len (.v 2)) (.k (.int 4)))) (.len (.v 2)) (.k (.int 1))]), .ret (.call 29 [.v 0, .v 1, .v 2])]
abbrev i_widths : Nat := 64
abbrev H_widths (fs : List FI) : Prop := HasF fs 64 3 3 B_widths
def B_turn : List CS := [.ret (.call 63 [.v 0, .v 1, .lst [.v 2], .lst [.v 3], .k (.int 1)])]
abbrev i_turn : Nat := 65
abbrev H_turn (fs : List FI) : Prop := HasF fs 65 4 4 B_turn
def B_turn_two : List CS := [.ret (.call 63 [.v 0, .v 1, .v 2, .v 3, .k (.int 2)])]
abbrev i_turn_two : Nat := 66
abbrev H_turn_two (fs : List FI) : Prop := HasF fs 66 4 4 B_turn_two
def B_turn_three : List CS := [.ret (.call 63 [.v 0, .v 1, .v 2, .v 3, .k (.int 3)])]
abbrev i_turn_three : Nat := 67
abbrev H_turn_three (fs : List FI) : Prop := HasF fs 67 4 4 B_turn_three
def B_check_chain : List CS := [.if_ (.or (.nt (.isin (.v 2) .list)) (.cmp .ne (.len (.v 2)) (.bin .add (.v 1) (.k (.int 1))))) [.rse 8] [], .for_ [3, 4] .enm (.v 2) (.nil) [.if_ (.or (.nt (.call 11 [.v 0, .v 1, .v 4])) (.cmp .ne (.len (.v 4)) (.v 3))) [.rse 8] []] [3, 4], .if_ (.nt (.all (.lc (.call 22 [.v 0, .v 1, .v 5, .v 6]) [5, 6] .zip (.v 2) (.sl (.v 2) (.k (.int 1)) (.nil)) (.k (.bl true))))) [.rse 8] []]
abbrev i_check_chain : Nat := 68
abbrev H_check_chain (fs : List FI) : Prop := HasF fs 68 3 7 B_check_chain
def B_chain_of : List CS := [.ex (.call 1 [.v 0, .v 1]), .ex (.call 47 [.v 0, .v 1, .v 2]), .ret (.lc (.call 9 [.v 0, .v 1, .sl (.v 2) (.nil) (.v 3)]) [3] .rng1 (.bin .add (.v 1) (.k (.int 1))) (.nil) (.k (.bl true)))]
abbrev i_chain_of : Nat := 69
abbrev H_chain_of (fs : List FI) : Prop := HasF fs 69 3 4 B_chain_of
def B_both : List CS := [.ex (.call 1 [.v 0, .v 1]), .ex (.call 68 [.v 0, .v 1, .v 2]), .ex (.call 68 [.v 0, .v 1, .v 3]), .par [4, 5] [.lst [], .lst []], .for_ [6] .rng2 (.k (.int 1)) (.bin .add (.v 1) (.k (.int 1))) [.for_ [7] .rng2 (.k (.int 1)) (.bin .add (.v 1) (.k (.int 1))) [.set 8 (.call 21 [.v 0, .v 1, .ix (.v 2) (.v 6), .ix (.v 3) (.v 7)]), .set 9 (.call 27 [.v 0, .v 1, .ix (.v 2) (.bin .sub (.v 6) (.k (.int 1))), .v 8]), .if_ (.cmp .ne (.v 9) (.lst [])) [.app 4 (.ix (.v 9) (.k (.int 0))), .app 5 (.bin .sub (.v 7) (.k (.int 1))), .brk] []] [7, 8, 9]] [6, 7, 8, 9], .ret (.new 15 [.v 4, .v 5])]
abbrev i_both : Nat := 70
abbrev H_both (fs : List FI) : Prop := HasF fs 70 4 10 B_both
def B_across_chain : List CS := [.ex (.call 1 [.v 0, .v 1]), .ex (.call 68 [.v 0, .v 1, .v 2]), .ret (.lc (.call 18 [.v 0, .v 1, .v 3]) [3] .lst (.rev (.v 2)) (.nil) (.k (.bl true)))]
abbrev i_across_chain : Nat := 71
abbrev H_across_chain (fs : List FI) : Prop := HasF fs 71 3 4 B_across_chain
def B_law_number : List CS := [.if_ (.cmp .ge (.v 0) (.bin .pow (.k (.int 10)) (.k (.int 18)))) [.ret (.v 0)] [], .set 3 (.bin .mod (.bin .add (.bin .mul (.bin .add (.v 0) (.bin .mul (.k (.int 977)) (.v 1))) (.k (.int 48271))) (.v 2)) (.k (.int 2147483647))), .set 4 (.bin .mul (.bin .mul (.v 3) (.bin .add (.bin .add (.v 3) (.bin .mul (.k (.int 31)) (.v 1))) (.k (.int 7)))) (.bin .add (.bin .add (.v 3) (.v 0)) (.k (.int 5)))), .ret (.bin .fdiv (.bin .mul (.v 4) (.bin .add (.v 4) (.k (.int 48271)))) (.k (.int 1009)))]
abbrev i_law_number : Nat := 72
abbrev H_law_number (fs : List FI) : Prop := HasF fs 72 3 5 B_law_number
def B_law_room : List CS := [.set 2 (.sum (.sl (.v 0) (.nil) (.k (.int 63)))), .set 3 (.ix (.tup [.k (.int 2), .k (.int 3), .k (.int 5), .k (.int 7), .k (.int 2), .k (.int 3), .k (.int 11), .k (.int 13), .k (.int 17), .k (.int 19), .k (.int 23), .k (.int 29), .k (.int 31)]) (.bin .mod (.v 2) (.k (.int 13)))), .ret (.tup [.mv 3, .bin .add (.k (.int 1)) (.bin .mod (.bin .fdiv (.v 2) (.k (.int 13))) (.v 1))])]
abbrev i_law_room : Nat := 73
abbrev H_law_room (fs : List FI) : Prop := HasF fs 73 2 4 B_law_room
def B_law_rows : List CS := [.set 5 (.ife (.cmp .ne (.v 0) (.lst [])) (.sl (.v 0) (.nil) (.k (.int 63))) (.lst [.k (.int 4)])), .set 6 (.bin .add (.sum (.v 5)) (.v 3)), .set 7 (.lst []), .for_ [8] .rng1 (.v 4) (.nil) [.set 9 (.call 72 [.ix (.v 5) (.bin .mod (.bin .add (.v 8) (.v 3)) (.len (.v 5))), .bin .add (.v 8) (.bin .mul (.k (.int 9)) (.v 3)), .v 6]), .set 10 (.lc (.bin .mod (.bin .fdiv (.v 9) (.bin .add (.k (.int 1)) (.bin .mul (.k (.int 31)) (.v 11)))) (.v 1)) [11] .rng1 (.v 2) (.nil) (.k (.bl true))), .if_ (.cmp .eq (.bin .mod (.bin .fdiv (.v 9) (.k (.int 5))) (.k (.int 3))) (.k (.int 0))) [.set 10 (.lc (.ife (.cmp .eq (.bin .mod (.bin .add (.bin .fdiv (.v 9) (.k (.int 7))) (.v 11)) (.k (.int 2))) (.k (.int 0))) (.v 12) (.k (.int 0))) [11, 12] .enm (.v 10) (.nil) (.k (.bl true)))] [], .app 7 (.mv 10)] [8, 9, 10], .ret (.mv 7)]
abbrev i_law_rows : Nat := 74
abbrev H_law_rows (fs : List FI) : Prop := HasF fs 74 5 13 B_law_rows
def B_law_less : List CS := [.ret (.lc (.bin .mod (.bin .sub (.v 4) (.bin .mul (.v 3) (.v 5))) (.v 0)) [4, 5] .zip (.v 1) (.v 2) (.k (.bl true)))]
abbrev i_law_less : Nat := 75
abbrev H_law_less (fs : List FI) : Prop := HasF fs 75 4 6 B_law_less
def B_law_form : List CS := [.set 2 (.lst []), .for_ [3] .lst (.v 1) (.nil) [.for_ [4] .lst (.v 2) (.nil) [.set 3 (.call 75 [.v 0, .v 3, .v 4, .ix (.v 3) (.index (.v 4) (.k (.int 1)))])] [4], .set 5 (.lc (.v 6) [6, 7] .enm (.v 3) (.nil) (.cmp .ne (.v 7) (.k (.int 0)))), .if_ (.cmp .ne (.v 5) (.lst [])) [.set 8 (.ix (.lc (.v 7) [7] .rng2 (.k (.int 1)) (.v 0) (.cmp .eq (.bin .mod (.bin .mul (.v 7) (.ix (.v 3) (.ix (.v 5) (.k (.int 0))))) (.v 0)) (.k (.int 1)))) (.k (.int 0))), .set 3 (.lc (.bin .mod (.bin .mul (.v 7) (.v 8)) (.v 0)) [7] .lst (.mv 3) (.nil) (.k (.bl true))), .set 2 (.bin .add (.lc (.call 75 [.v 0, .v 4, .v 3, .ix (.v 4) (.ix (.v 5) (.k (.int 0)))]) [4] .lst (.mv 2) (.nil) (.k (.bl true))) (.lst [.mv 3]))] []] [3, 4, 5, 8], .retS (.srtR (.mv 2))]
abbrev i_law_form : Nat := 76
abbrev H_law_form (fs : List FI) : Prop := HasF fs 76 2 9 B_law_form
def B_law_wide : List CS := [.ret (.len (.call 76 [.v 0, .v 1]))]
abbrev i_law_wide : Nat := 77
abbrev H_law_wide (fs : List FI) : Prop := HasF fs 77 2 2 B_law_wide
def B_law_whole : List CS := [.ret (.an (.isin (.v 0) .int) (.nt (.isin (.v 0) .bool)))]
abbrev i_law_whole : Nat := 78
abbrev H_law_whole (fs : List FI) : Prop := HasF fs 78 1 1 B_law_whole
def B_law_is_row : List CS := [.if_ (.or (.nt (.isin (.v 2) .list)) (.cmp .ne (.len (.v 2)) (.v 1))) [.ret (.k (.bl false))] [], .ret (.all (.lc (.an (.call 78 [.v 3]) (.ch .le .lt (.k (.int 0)) (.v 3) (.v 0))) [3] .lst (.v 2) (.nil) (.k (.bl true))))]
abbrev i_law_is_row : Nat := 79
abbrev H_law_is_row (fs : List FI) : Prop := HasF fs 79 3 4 B_law_is_row
def B_law_sum : List CS := [.set 4 (.bin .mul (.lst [.k (.int 0)]) (.v 1)), .for_ [5, 6] .zip (.v 2) (.v 3) [.set 4 (.call 75 [.v 0, .v 4, .v 5, .neg (.v 6)])] [5, 6], .ret (.mv 4)]
abbrev i_law_sum : Nat := 80
abbrev H_law_sum (fs : List FI) : Prop := HasF fs 80 4 7 B_law_sum
def B_law_flat : List CS := [.set 4 (.ife (.cmp .ne (.v 0) (.lst [])) (.sl (.v 0) (.nil) (.k (.int 63))) (.lst [.k (.int 4)])), .set 5 (.bin .mod (.call 72 [.ix (.v 4) (.bin .mod (.v 3) (.len (.v 4))), .bin .add (.v 3) (.k (.int 40)), .sum (.v 4)]) (.bin .add (.v 2) (.k (.int 1)))), .ret (.call 76 [.v 1, .call 74 [.v 0, .v 1, .v 2, .v 3, .v 5]])]
abbrev i_law_flat : Nat := 81
abbrev H_law_flat (fs : List FI) : Prop := HasF fs 81 4 6 B_law_flat
def B_law_product : List CS := [.ret (.bin .mod (.sum (.lc (.bin .mul (.v 3) (.v 4)) [3, 4] .zip (.v 1) (.v 2) (.k (.bl true)))) (.v 0))]
abbrev i_law_product : Nat := 82
abbrev H_law_product (fs : List FI) : Prop := HasF fs 82 3 5 B_law_product
def B_law_says : List CS := [.ret (.an (.isin (.v 0) .bool) (.cmp .eq (.v 0) (.v 1)))]
abbrev i_law_says : Nat := 83
abbrev H_law_says (fs : List FI) : Prop := HasF fs 83 2 2 B_law_says
def B_law_kin : List CS := [.set 5 (.call 74 [.v 0, .v 1, .v 2, .bin .add (.v 3) (.k (.int 3)), .k (.int 2)]), .ret (.call 76 [.v 1, .bin .add (.st2 (.v 4) (.bin .mod (.v 3) (.k (.int 2)))) (.sl (.v 5) (.nil) (.bin .add (.k (.int 1)) (.bin .mul (.bin .mod (.v 3) (.k (.int 2))) (.bin .mod (.len (.v 4)) (.k (.int 2))))))])]
abbrev i_law_kin : Nat := 84
abbrev H_law_kin (fs : List FI) : Prop := HasF fs 84 5 6 B_law_kin
def B_law_is_flat : List CS := [.if_ (.or (.nt (.isin (.v 2) .list)) (.nt (.all (.lc (.call 79 [.v 0, .v 1, .v 3]) [3] .lst (.v 2) (.nil) (.k (.bl true)))))) [.ret (.k (.bl false))] [], .ret (.cmp .eq (.call 76 [.v 0, .v 2]) (.v 2))]
abbrev i_law_is_flat : Nat := 85
abbrev H_law_is_flat (fs : List FI) : Prop := HasF fs 85 3 4 B_law_is_flat
def B_law_count : List CS := [.if_ (.nt (.ch .le .le (.k (.int 0)) (.v 2) (.v 1))) [.ret (.k (.int 0))] [], .par [3, 4] [.k (.int 1), .k (.int 1)], .for_ [5] .rng1 (.v 2) (.nil) [.set 3 (.bin .mul (.v 3) (.bin .sub (.call 87 [.v 0, .v 1]) (.call 87 [.v 0, .v 5]))), .set 4 (.bin .mul (.v 4) (.bin .sub (.call 87 [.v 0, .v 2]) (.call 87 [.v 0, .v 5])))] [5], .ret (.bin .fdiv (.v 3) (.v 4))]
abbrev i_law_count : Nat := 86
abbrev H_law_count (fs : List FI) : Prop := HasF fs 86 3 6 B_law_count
def B_law_power : List CS := [.set 2 (.k (.int 1)), .for_ [3] .rng1 (.v 1) (.nil) [.set 2 (.bin .mul (.v 2) (.v 0))] [3], .ret (.mv 2)]
abbrev i_law_power : Nat := 87
abbrev H_law_power (fs : List FI) : Prop := HasF fs 87 2 4 B_law_power
def B_law_table : List CS := [.setT 4 (.lst []), .for_ [5] .lst (.call 74 [.v 0, .v 1, .v 2, .bin .add (.v 3) (.k (.int 20)), .v 2]) (.nil) [.if_ (.cmp .gt (.call 77 [.v 1, .bin .add (.v 4) (.lst [.v 5])]) (.len (.v 4))) [.app 4 (.mv 5)] []] [5], .for_ [6] .rng1 (.v 2) (.nil) [.set 5 (.lc (.ife (.cmp .eq (.v 7) (.v 6)) (.k (.int 1)) (.k (.int 0))) [7] .rng1 (.v 2) (.nil) (.k (.bl true))), .if_ (.cmp .gt (.call 77 [.v 1, .bin .add (.v 4) (.lst [.v 5])]) (.len (.v 4))) [.app 4 (.mv 5)] []] [5, 6], .ret (.mv 4)]
abbrev i_law_table : Nat := 88
abbrev H_law_table (fs : List FI) : Prop := HasF fs 88 4 8 B_law_table
def B_law_flat_turned : List CS := [.ret (.call 76 [.v 0, .lc (.call 80 [.v 0, .v 1, .v 2, .v 4]) [4] .lst (.v 3) (.nil) (.k (.bl true))])]
abbrev i_law_flat_turned : Nat := 89
abbrev H_law_flat_turned (fs : List FI) : Prop := HasF fs 89 4 5 B_law_flat_turned
def B_law_met_wide : List CS := [.ret (.bin .sub (.bin .add (.len (.v 1)) (.len (.v 2))) (.call 77 [.v 0, .bin .add (.v 1) (.v 2)]))]
abbrev i_law_met_wide : Nat := 90
abbrev H_law_met_wide (fs : List FI) : Prop := HasF fs 90 3 3 B_law_met_wide
def B_law_met : List CS := [.set 4 (.bin .add (.lc (.bin .add (.v 5) (.v 5)) [5] .lst (.v 2) (.nil) (.k (.bl true))) (.lc (.bin .add (.v 5) (.bin .mul (.lst [.k (.int 0)]) (.v 1))) [5] .lst (.v 3) (.nil) (.k (.bl true)))), .ret (.call 76 [.v 0, .lc (.sl (.v 5) (.v 1) (.nil)) [5] .lst (.call 76 [.v 0, .v 4]) (.nil) (.nt (.any (.sl (.v 5) (.nil) (.v 1))))])]
abbrev i_law_met : Nat := 91
abbrev H_law_met (fs : List FI) : Prop := HasF fs 91 4 6 B_law_met
def B_law_widths : List CS := [.if_ (.cmp .eq (.len (.v 2)) (.k (.int 1))) [.ret (.lst [.len (.ix (.v 2) (.k (.int 0)))])] [], .par [3, 4] [.ix (.v 2) (.k (.int 0)), .ix (.v 2) (.k (.int 1))], .set 5 (.call 91 [.v 0, .v 1, .v 3, .v 4]), .if_ (.cmp .eq (.len (.v 2)) (.k (.int 2))) [.ret (.lst [.len (.v 3), .len (.v 4), .len (.v 5)])] [], .set 6 (.ix (.v 2) (.k (.int 2))), .set 7 (.lst [.len (.v 3), .len (.v 4), .len (.v 6), .len (.v 5), .call 90 [.v 0, .v 3, .v 6]]), .set 7 (.bin .add (.mv 7) (.lst [.call 90 [.v 0, .v 4, .v 6], .call 90 [.v 0, .v 5, .v 6]])), .app 7 (.call 90 [.v 0, .v 3, .call 76 [.v 0, .bin .add (.v 4) (.v 6)]]), .ret (.bin .add (.mv 7) (.lst [.call 77 [.v 0, .bin .add (.bin .add (.v 3) (.v 4)) (.v 6)]]))]
abbrev i_law_widths : Nat := 92
abbrev H_law_widths (fs : List FI) : Prop := HasF fs 92 3 8 B_law_widths
def B_law_is_turned : List CS := [.if_ (.or (.nt (.isin (.v 4) .list)) (.cmp .ne (.len (.v 4)) (.v 1))) [.ret (.k (.bl false))] [], .if_ (.or (.nt (.all (.lc (.call 79 [.v 0, .v 1, .v 5]) [5] .lst (.v 4) (.nil) (.k (.bl true))))) (.cmp .lt (.call 77 [.v 0, .v 4]) (.v 1))) [.ret (.k (.bl false))] [], .set 6 (.lc (.call 89 [.v 0, .v 1, .v 4, .v 7]) [7] .lst (.v 2) (.nil) (.k (.bl true))), .ret (.cmp .eq (.v 6) (.v 3))]
abbrev i_law_is_turned : Nat := 93
abbrev H_law_is_turned (fs : List FI) : Prop := HasF fs 93 5 8 B_law_is_turned
def B_law_chain : List CS := [.ret (.lc (.call 76 [.v 0, .sl (.v 1) (.nil) (.v 2)]) [2] .rng1 (.bin .add (.len (.v 1)) (.k (.int 1))) (.nil) (.k (.bl true)))]
abbrev i_law_chain : Nat := 94
abbrev H_law_chain (fs : List FI) : Prop := HasF fs 94 2 3 B_law_chain
def B_law_all_refused : List CS := [.for_ [2, 3, 4, 5] .lst (.v 1) (.nil) [.for_ [6] .rng1 (.v 3) (.nil) [.if_ (.nt (.all (.lc (.call 96 [.v 2, .v 6, .v 7, .v 5]) [7] .lst (.callv (.v 4) [.len (.v 0)]) (.nil) (.k (.bl true))))) [.ret (.k (.bl false))] []] [6], .for_ [8] .lst (.v 0) (.nil) [.set 9 (.callv (.v 4) [.bin .mod (.v 8) (.bin .pow (.k (.int 10)) (.k (.int 60)))]), .if_ (.nt (.call 96 [.v 2, .bin .mod (.v 8) (.v 3), .ix (.v 9) (.bin .mod (.bin .fdiv (.v 8) (.k (.int 7))) (.len (.v 9))), .v 5])) [.ret (.k (.bl false))] []] [8, 9]] [2, 3, 4, 5, 6, 8, 9], .ret (.k (.bl true))]
abbrev i_law_all_refused : Nat := 97
abbrev H_law_all_refused (fs : List FI) : Prop := HasF fs 97 2 10 B_law_all_refused
def B_Within___init__ : List CS := [.setf 0 0 (.list (.v 1))]
abbrev i_Within___init__ : Nat := 98
abbrev H_Within___init__ (fs : List FI) : Prop := HasF fs 98 2 2 B_Within___init__
def B_Within_shows : List CS := [.if_ (.nt (.call 2 [.v 1, .len (.v 3), .attr (.v 0) 0])) [.ret (.k (.bl false))] [], .ret (.cmp .eq (.call 7 [.v 1, .v 2, .v 3, .attr (.v 0) 0]) (.v 4))]
abbrev i_Within_shows : Nat := 99
abbrev H_Within_shows (fs : List FI) : Prop := HasF fs 99 5 5 B_Within_shows
def B_Barred___init__ : List CS := [.setf 0 1 (.list (.v 1))]
abbrev i_Barred___init__ : Nat := 100
abbrev H_Barred___init__ (fs : List FI) : Prop := HasF fs 100 2 2 B_Barred___init__
def B_Barred_shows : List CS := [.if_ (.or (.nt (.call 2 [.v 1, .v 2, .attr (.v 0) 1])) (.cmp .eq (.call 8 [.v 1, .attr (.v 0) 1, .v 4]) (.k (.int 0)))) [.ret (.k (.bl false))] [], .ret (.all (.lc (.cmp .eq (.call 8 [.v 1, .attr (.v 0) 1, .v 5]) (.k (.int 0))) [5] .lst (.v 3) (.nil) (.k (.bl true))))]
abbrev i_Barred_shows : Nat := 101
abbrev H_Barred_shows (fs : List FI) : Prop := HasF fs 101 5 6 B_Barred_shows
def B_Turned___init__ : List CS := [.setf 0 2 (.lc (.list (.v 2)) [2] .lst (.v 1) (.nil) (.k (.bl true)))]
abbrev i_Turned___init__ : Nat := 102
abbrev H_Turned___init__ (fs : List FI) : Prop := HasF fs 102 2 3 B_Turned___init__
def B_Turned_shows : List CS := [.set 5 (.attr (.v 0) 2), .if_ (.or (.cmp .ne (.len (.v 5)) (.v 2)) (.nt (.all (.lc (.call 2 [.v 1, .v 2, .v 6]) [6] .lst (.v 5) (.nil) (.k (.bl true)))))) [.ret (.k (.bl false))] [], .if_ (.cmp .lt (.len (.call 9 [.v 1, .v 2, .v 5])) (.v 2)) [.ret (.k (.bl false))] [], .for_ [7, 8] .zip (.v 3) (.v 4) [.if_ (.cmp .ne (.call 9 [.v 1, .v 2, .lc (.call 7 [.v 1, .v 2, .v 5, .v 6]) [6] .lst (.v 7) (.nil) (.k (.bl true))]) (.v 8)) [.ret (.k (.bl false))] []] [7, 8], .ret (.k (.bl true))]
abbrev i_Turned_shows : Nat := 103
abbrev H_Turned_shows (fs : List FI) : Prop := HasF fs 103 5 9 B_Turned_shows
def B_Unlike___init__ : List CS := [.setf 0 3 (.v 1)]
abbrev i_Unlike___init__ : Nat := 104
abbrev H_Unlike___init__ (fs : List FI) : Prop := HasF fs 104 2 2 B_Unlike___init__
def B_Unlike_shows : List CS := [.par [5, 6] [.call 29 [.v 1, .v 2, .v 3], .call 29 [.v 1, .v 2, .v 4]], .ret (.an (.call 0 [.attr (.v 0) 3]) (.an (.ch .le .lt (.k (.int 0)) (.attr (.v 0) 3) (.len (.v 5))) (.cmp .ne (.ix (.v 5) (.attr (.v 0) 3)) (.ix (.v 6) (.attr (.v 0) 3)))))]
abbrev i_Unlike_shows : Nat := 105
abbrev H_Unlike_shows (fs : List FI) : Prop := HasF fs 105 5 7 B_Unlike_shows
def B_Along___init__ : List CS := [.setf 0 4 (.lc (.list (.v 3)) [3] .lst (.v 1) (.nil) (.k (.bl true))), .setf 0 5 (.list (.v 2))]
abbrev i_Along___init__ : Nat := 106
abbrev H_Along___init__ (fs : List FI) : Prop := HasF fs 106 3 4 B_Along___init__
def B_Along_shows : List CS := [.par [5, 6] [.attr (.v 0) 4, .attr (.v 0) 5], .if_ (.or (.cmp .ne (.len (.v 5)) (.v 2)) (.nt (.all (.lc (.call 2 [.v 1, .v 2, .v 7]) [7] .lst (.v 5) (.nil) (.k (.bl true)))))) [.ret (.k (.bl false))] [], .if_ (.cmp .ne (.srt (.v 6)) (.rngL (.v 2))) [.ret (.k (.bl false))] [], .for_ [8] .rng1 (.bin .add (.v 2) (.k (.int 1))) (.nil) [.if_ (.cmp .ne (.call 9 [.v 1, .v 2, .sl (.v 5) (.nil) (.v 8)]) (.ix (.v 3) (.v 8))) [.ret (.k (.bl false))] [], .set 9 (.lc (.v 7) [7, 10] .zip (.v 5) (.v 6) (.cmp .lt (.v 10) (.v 8))), .if_ (.cmp .ne (.call 9 [.v 1, .v 2, .v 9]) (.ix (.v 4) (.v 8))) [.ret (.k (.bl false))] []] [8, 9], .ret (.k (.bl true))]
abbrev i_Along_shows : Nat := 107
abbrev H_Along_shows (fs : List FI) : Prop := HasF fs 107 5 11 B_Along_shows
end FR

namespace FR
open PySem
class Base (fs : List FI) : Prop where
  a0 : H_is_whole fs
  a1 : H_check_room fs
  a2 : H_is_row fs
  a4 : H_inverse fs
  a5 : H_often fs
  a6 : H_added fs
  a7 : H_form_of fs
instance {fs : List FI} [b : Base fs] : H_is_whole fs := b.a0
instance {fs : List FI} [b : Base fs] : H_check_room fs := b.a1
instance {fs : List FI} [b : Base fs] : H_is_row fs := b.a2
instance {fs : List FI} [b : Base fs] : H_inverse fs := b.a4
instance {fs : List FI} [b : Base fs] : H_often fs := b.a5
instance {fs : List FI} [b : Base fs] : H_added fs := b.a6
instance {fs : List FI} [b : Base fs] : H_form_of fs := b.a7
class Flt (fs : List FI) : Prop extends Base fs where
  b1 : H_is_flat fs
instance {fs : List FI} [b : Flt fs] : H_is_flat fs := b.b1
class Acr (fs : List FI) : Prop extends Flt fs where
  c0 : H_cross_at fs
  c1 : H_across_of fs
  c2 : H_corners_of fs
instance {fs : List FI} [b : Acr fs] : H_cross_at fs := b.c0
instance {fs : List FI} [b : Acr fs] : H_across_of fs := b.c1
instance {fs : List FI} [b : Acr fs] : H_corners_of fs := b.c2
class Ins (fs : List FI) : Prop where
  d0 : H_shares_of fs
  d1 : H_summed fs
  d2 : H_does_lie fs
  d3 : H_is_inside fs
  d4 : H_corners_of fs
instance {fs : List FI} [b : Ins fs] : H_shares_of fs := b.d0
instance {fs : List FI} [b : Ins fs] : H_summed fs := b.d1
instance {fs : List FI} [b : Ins fs] : H_does_lie fs := b.d2
instance {fs : List FI} [b : Ins fs] : H_is_inside fs := b.d3
instance {fs : List FI} [b : Ins fs] : H_corners_of fs := b.d4
class Drw (fs : List FI) : Prop where
  e0 : H_law_number fs
  e1 : H_law_room fs
  e2 : H_law_rows fs
  e3 : H_law_less fs
  e4 : H_law_form fs
instance {fs : List FI} [b : Drw fs] : H_law_number fs := b.e0
instance {fs : List FI} [b : Drw fs] : H_law_room fs := b.e1
instance {fs : List FI} [b : Drw fs] : H_law_rows fs := b.e2
instance {fs : List FI} [b : Drw fs] : H_law_less fs := b.e3
instance {fs : List FI} [b : Drw fs] : H_law_form fs := b.e4
/-! ### typed data and the rules of walking -/
class Da (α : Type) where
  dd : α → D
open Da (dd)
class Fl (α : Type) [Da α] : Prop where
  fl : ∀ x : α, (dd x).flat = true
class Nf (α : Type) [Da α] : Prop where
  nf : ∀ x : α, (dd x).flat = false
@[reducible] instance : Da Int := ⟨D.int⟩
@[reducible] instance : Da Bool := ⟨D.bl⟩
@[reducible] instance {α : Type} [Da α] : Da (List α) := ⟨fun l => .node .lst (l.map dd)⟩
@[reducible] instance {α β : Type} [Da α] [Da β] : Da (α × β) := ⟨fun z => .node .tup [dd z.1, dd z.2]⟩
instance : Fl Int := ⟨fun _ => rfl⟩
instance : Fl Bool := ⟨fun _ => rfl⟩
instance {α : Type} [Da α] : Nf (List α) := ⟨fun _ => rfl⟩
instance {α β : Type} [Da α] [Da β] : Nf (α × β) := ⟨fun _ => rfl⟩
/-- a list of two of unlike kinds -/
structure H2 (α β : Type) where
  a : α
  b : β
@[reducible] instance {α β : Type} [Da α] [Da β] : Da (H2 α β) := ⟨fun z => .node .lst [dd z.a, dd z.b]⟩
instance {α β : Type} [Da α] [Da β] : Nf (H2 α β) := ⟨fun _ => rfl⟩
/-- a tuple of three -/
structure T3 (α β γ : Type) where
  a : α
  b : β
  c : γ
@[reducible] instance {α β γ : Type} [Da α] [Da β] [Da γ] : Da (T3 α β γ) := ⟨fun z => .node .tup [dd z.a, dd z.b, dd z.c]⟩
instance {α β γ : Type} [Da α] [Da β] [Da γ] : Nf (T3 α β γ) := ⟨fun _ => rfl⟩
theorem mapflat {α : Type} [Da α] [Fl α] (xs : List α) : flatAll (xs.map dd) = true := by
  unfold flatAll
  rw [List.all_map]
  exact List.all_eq_true.mpr fun x _ => Fl.fl x
theorem mapnf {α : Type} [Da α] [Nf α] (xs : List α) : flatAll (xs.map dd) = xs.isEmpty := by
  cases xs with
  | nil => rfl
  | cons x xs =>
    unfold flatAll
    simp [Nf.nf x]
/-! ### == -/
class Dq (α : Type) [Da α] where
  py : α → PyData
  dep : Nat
  hp : ∀ x : α, (dd x).py = some (py x)
  cl : ∀ x : α, (py x).canLay0 = true
  hd : ∀ x : α, (py x).depth ≤ dep
  qv : ∀ x y : α, PyData.eqv (py x) (py y) = true ↔ x = y
instance : Dq Int := ⟨.int, 0, fun _ => rfl, fun _ => rfl, fun _ => Nat.le_refl _, fun x y => by simp [PyData.eqv]⟩
instance : Dq Bool := ⟨.bool, 0, fun _ => rfl, fun _ => rfl, fun _ => Nat.le_refl _, fun x y => by simp [PyData.eqv]⟩
section
variable {α β : Type} [Da α] [Da β] [Dq α] [Dq β]
theorem pys_map : ∀ l : List α, D.pys (l.map dd) = some (l.map Dq.py)
  | [] => rfl
  | x :: l => by
    rw [List.map_cons, D.pys, Dq.hp, Option.bind_some, pys_map l]
    rfl
theorem lay_map : ∀ l : List α, PyData.canLayAll0 (l.map Dq.py) = true
  | [] => rfl
  | x :: l => by rw [List.map_cons, PyData.canLayAll0, Dq.cl, lay_map l]; rfl
theorem dep_map : ∀ l : List α, PyData.depthAll (l.map Dq.py) ≤ Dq.dep α
  | [] => Nat.zero_le _
  | x :: l => by
    rw [List.map_cons, PyData.depthAll]
    exact Nat.max_le.mpr ⟨Dq.hd x, dep_map l⟩
theorem eqv_map : ∀ l m : List α, PyData.eqvAll (l.map Dq.py) (m.map Dq.py) = true ↔ l = m
  | [], [] => by simp [PyData.eqvAll]
  | [], y :: m => by simp [PyData.eqvAll]
  | x :: l, [] => by simp [PyData.eqvAll]
  | x :: l, y :: m => by simp [PyData.eqvAll, Dq.qv, eqv_map l m]
instance : Dq (List α) where
  py l := .list (l.map Dq.py)
  dep := Dq.dep α + 1
  hp l := by
    show (D.pys (l.map dd)).map PyData.list = _
    rw [pys_map]; rfl
  cl l := by
    rw [PyData.canLay0]; exact lay_map l
  hd l := by
    rw [PyData.depth]
    exact Nat.succ_le_succ (dep_map l)
  qv x y := by
    rw [PyData.eqv]; exact eqv_map x y
instance : Dq (α × β) where
  py z := .tuple [Dq.py z.1, Dq.py z.2]
  dep := max (Dq.dep α) (Dq.dep β) + 1
  hp z := by
    show (D.pys [dd z.1, dd z.2]).map PyData.tuple = _
    simp [D.pys, Dq.hp]
  cl z := by simp [PyData.canLay0, PyData.canLayAll0, Dq.cl]
  hd z := by
    have h1 := Dq.hd z.1
    have h2 := Dq.hd z.2
    simp only [PyData.depth, PyData.depthAll]
    omega
  qv x y := by
    simp [PyData.eqv, PyData.eqvAll, Dq.qv, Prod.ext_iff]
instance : Dq (H2 α β) where
  py z := .list [Dq.py z.a, Dq.py z.b]
  dep := max (Dq.dep α) (Dq.dep β) + 1
  hp z := by
    show (D.pys [dd z.a, dd z.b]).map PyData.list = _
    simp [D.pys, Dq.hp]
  cl z := by simp [PyData.canLay0, PyData.canLayAll0, Dq.cl]
  hd z := by
    have h1 := Dq.hd z.a
    have h2 := Dq.hd z.b
    simp only [PyData.depth, PyData.depthAll]
    omega
  qv x y := by
    cases x; cases y
    simp [PyData.eqv, PyData.eqvAll, Dq.qv]
instance {α β : Type} [DecidableEq α] [DecidableEq β] : DecidableEq (H2 α β) := fun x y => decidable_of_iff (x.a = y.a ∧ x.b = y.b) (by cases x; cases y; simp)
theorem eq_dd [DecidableEq α] (hd : Dq.dep α ≤ 64) (x y : α) : (dd x).eq? (dd y) = some (decide (x = y)) := by
  unfold D.eq?
  rw [Dq.hp x, Option.bind_some, Dq.hp y, Option.bind_some]
  have s : ∀ z : α, SeqAt.shaped (Dq.py z) = true := fun z => by
    unfold SeqAt.shaped
    rw [Dq.cl z, Bool.true_and]
    exact decide_eq_true (Nat.le_trans (Dq.hd z) hd)
  rw [s x, s y]
  have := Dq.qv x y
  simp only [Bool.and_self, if_true, Option.some.injEq]
  by_cases e : x = y
  · rw [decide_eq_true e]; exact this.mpr e
  · rw [decide_eq_false e]
    cases q : PyData.eqv (Dq.py x) (Dq.py y) with
    | true => exact absurd (this.mp q) e
    | false => rfl
end
abbrev dv {α : Type} [Da α] (x : α) : Option Sl := some (.val (dd x) .deep)
abbrev sv {α : Type} [Da α] (x : α) : Option Sl := some (.val (dd x) .sh)
abbrev tv {α : Type} [Da α] (x : α) : Option Sl := some (.val (dd x) .top)
abbrev bv {α : Type} [Da α] (x : α) : Option Sl := some (.val (dd x) .bor)
/-! ### expressions -/
theorem cmb_u (o : Own) (u : List Nat) (o' : Own) (u' : List Nat) : (cmb o u o' u').2 = u ++ u' := by unfold cmb; split <;> rfl
theorem call_fn {fs : List FI} {k np nn : Nat} {b : List CS} (h : HasF fs k np nn b) (n d : Nat) (args : List D) (hl : args.length = np) : (pgOf fs n (d + 1)).fn k args = evFn (pgOf fs n d) n nn b args := by
  obtain ⟨f, h1, h2, h3, h4⟩ := h.h
  show (match fs[k]? with | some f => tabFn (pgOf fs n d) n f args | none => .no) = _
  rw [h1]
  show (if args.length = f.ps.length then _ else _) = _
  rw [if_pos (by rw [hl, h2]), h3, h4]
def ent (args : List D) (nn : Nat) : En := args.map (fun d => some (.val d (if d.flat then .deep else .sh))) ++ List.replicate (nn - args.length) none
theorem fn_rt {fs : List FI} {k np nn n d : Nat} {b : List CS} {args : List D} {r : D} {fr : Bool} (h : HasF fs k np nn b) (env : En) (hl : args.length = np) (he : ent args nn = env) (hs : evSs (pgOf fs n d) n b env = .ok (.rt r fr)) :
    (pgOf fs n (d + 1)).fn k args = .ok (r, fr) := by
  rw [call_fn h n d args hl]
  unfold evFn
  rw [show args.map (fun d => some (Sl.val d (if d.flat then .deep else .sh))) ++ List.replicate (nn - args.length) none = env from he, hs]
  rfl
theorem fn_nx {fs : List FI} {k np nn n d : Nat} {b : List CS} {args : List D} (h : HasF fs k np nn b) (env env' : En) (hl : args.length = np) (he : ent args nn = env) (hs : evSs (pgOf fs n d) n b env = .ok (.nx env')) :
    (pgOf fs n (d + 1)).fn k args = .ok (.non, true) := by
  rw [call_fn h n d args hl]
  unfold evFn
  rw [show args.map (fun d => some (Sl.val d (if d.flat then .deep else .sh))) ++ List.replicate (nn - args.length) none = env from he, hs]
  rfl
theorem fn_ex {fs : List FI} {k np nn n d c : Nat} {b : List CS} {args : List D} (h : HasF fs k np nn b) (env : En) (hl : args.length = np) (he : ent args nn = env) (hs : evSs (pgOf fs n d) n b env = .ex c) :
    (pgOf fs n (d + 1)).fn k args = .ex c := by
  rw [call_fn h n d args hl]
  unfold evFn
  rw [show args.map (fun d => some (Sl.val d (if d.flat then .deep else .sh))) ++ List.replicate (nn - args.length) none = env from he, hs]
  rfl
section
variable {P : Prog} {env : En} {α β γ : Type} [Da α] [Da β] [Da γ]
/-- a told datum whose owner does not count -/
abbrev EvF (P : Prog) (e : CE) (env : En) (x : α) : Prop := evE P e env = .ok (dd x, .deep, [])
theorem e_vf [Fl α] {i : Nat} {x : α} {o : Own} (h : env[i]? = some (some (.val (dd x) o))) : evE P (.v i) env = .ok (dd x, .deep, []) := by
  rw [evE, h]
  simp [fin, Fl.fl x]
theorem e_vn [Nf α] {i : Nat} {x : α} {o : Own} (h : env[i]? = some (some (.val (dd x) o))) : evE P (.v i) env = .ok (dd x, .sh, [i]) := by
  rw [evE, h]
  simp [fin, Nf.nf x]
theorem e_mf [Fl α] {i : Nat} {x : α} {o : Own} (h : env[i]? = some (some (.val (dd x) o))) : evE P (.mv i) env = .ok (dd x, .deep, []) := by
  rw [evE, h]
  cases o <;> simp [fin, Fl.fl x]
theorem e_md [Nf α] {i : Nat} {x : α} (h : env[i]? = some (some (.val (dd x) .deep))) : evE P (.mv i) env = .ok (dd x, .deep, [i]) := by
  rw [evE, h]
  simp [fin, Nf.nf x]
theorem e_ms [Nf α] {i : Nat} {x : α} {o : Own} (h : env[i]? = some (some (.val (dd x) o))) (ho : o ≠ .deep) : evE P (.mv i) env = .ok (dd x, .sh, [i]) := by
  rw [evE, h]
  cases o <;> simp [fin, Nf.nf x] at ho ⊢
theorem e_mo [Nf α] {i : Nat} {x : α} {o : Own} (h : env[i]? = some (some (.val (dd x) o))) : evE P (.mv i) env = .ok (dd x, if o = .deep then .deep else .sh, [i]) := by
  rw [evE, h]
  cases o <;> simp [fin, Nf.nf x]
theorem e_ki {i : Int} : evE P (.k (.int i)) env = .ok (dd i, .deep, []) := rfl
theorem e_kb {b : Bool} : evE P (.k (.bl b)) env = .ok (dd b, .deep, []) := rfl
theorem e_gi {x : Nat} {i : Int} : evE P (.gi x i) env = .ok (dd i, .deep, []) := rfl
theorem e_nil : evE P .nil env = .ok (.non, .deep, []) := rfl
variable {a b c e : CE} {i j : Int} {o o' ox oy : Own} {u u' ux uy : List Nat}
theorem e_add (ha : EvF P a env i) (hb : EvF P b env j) : evE P (.bin .add a b) env = .ok (dd (i + j), .deep, []) := by
  rw [evE, ha, b_ok, hb]; rfl
theorem e_sub (ha : EvF P a env i) (hb : EvF P b env j) : evE P (.bin .sub a b) env = .ok (dd (i - j), .deep, []) := by
  rw [evE, ha, b_ok, hb]; rfl
theorem e_mul (ha : EvF P a env i) (hb : EvF P b env j) (h : mulOk i j = true) : evE P (.bin .mul a b) env = .ok (dd (i * j), .deep, []) := by
  rw [evE, ha, b_ok, hb, b_ok]
  show (R.of (if mulOk i j = true then some (i * j) else none)).b _ = _
  rw [if_pos h]; rfl
theorem e_mod (ha : EvF P a env i) (hb : EvF P b env j) (h : 0 < j) : evE P (.bin .mod a b) env = .ok (dd (i % j), .deep, []) := by
  rw [evE, ha, b_ok, hb, b_ok]
  show (R.of (if decide (0 < j) = true then some (i % j) else none)).b _ = _
  rw [if_pos (decide_eq_true h)]; rfl
theorem e_div (ha : EvF P a env i) (hb : EvF P b env j) (h : divOk j = true) : evE P (.bin .fdiv a b) env = .ok (dd (i / j), .deep, []) := by
  rw [evE, ha, b_ok, hb, b_ok]
  show (R.of (if divOk j = true then some (i / j) else none)).b _ = _
  rw [if_pos h]; rfl
theorem e_pow (ha : EvF P a env i) (hb : EvF P b env j) (h : powOk i j = true) : evE P (.bin .pow a b) env = .ok (dd (i ^ j.toNat), .deep, []) := by
  rw [evE, ha, b_ok, hb, b_ok]
  show (R.of (if powOk i j = true then some (i ^ j.toNat) else none)).b _ = _
  rw [if_pos h]; rfl
theorem e_neg (ha : EvF P a env i) : evE P (.neg a) env = .ok (dd (-i), .deep, []) := by
  rw [evE, ha]; rfl
theorem newL_f {γ : Type} [Da γ] [Fl γ] (xs : List γ) (o : Own) (u : List Nat) : newL .lst (xs.map dd) o u = (dd xs, .deep, []) := by
  unfold newL
  rw [mapflat]; rfl
/-- whose a new list of unlike things is -/
def nlo {γ : Type} (xs : List γ) (o : Own) : Own := if xs.isEmpty then .deep else if o = .deep then .deep else .top
def nlu {γ : Type} (xs : List γ) (u : List Nat) : List Nat := if xs.isEmpty then [] else u
theorem newL_n {γ : Type} [Da γ] [Nf γ] (xs : List γ) (o : Own) (u : List Nat) : newL .lst (xs.map dd) o u = (dd xs, nlo xs o, nlu xs u) := by
  unfold newL nlo nlu
  rw [mapnf]
  cases xs <;> rfl
theorem e_catf [Fl α] {xs ys : List α} (ha : evE P a env = .ok (dd xs, o, u)) (hb : evE P b env = .ok (dd ys, o', u')) (h : xs.length + ys.length ≤ LIM) : evE P (.bin .add a b) env = .ok (dd (xs ++ ys), .deep, []) := by
  rw [evE, ha, b_ok, hb, b_ok]
  show (if (xs.map dd).length + (ys.map dd).length ≤ LIM then _ else _) = _
  rw [if_pos (by simpa using h)]
  show R.ok (newL .lst (xs.map dd ++ ys.map dd) _ _) = _
  rw [← List.map_append, newL_f]
theorem e_catn [Nf α] {xs ys : List α} (ha : evE P a env = .ok (dd xs, o, u)) (hb : evE P b env = .ok (dd ys, o', u')) (h : xs.length + ys.length ≤ LIM) : evE P (.bin .add a b) env = .ok (dd (xs ++ ys), nlo (xs ++ ys) (cmb o u o' u').1, nlu (xs ++ ys) (cmb o u o' u').2) := by
  rw [evE, ha, b_ok, hb, b_ok]
  show (if (xs.map dd).length + (ys.map dd).length ≤ LIM then _ else _) = _
  rw [if_pos (by simpa using h)]
  show R.ok (newL .lst (xs.map dd ++ ys.map dd) _ _) = _
  rw [← List.map_append, newL_n]
theorem e_catd [Nf α] {xs ys : List α} (ha : evE P a env = .ok (dd xs, .deep, [])) (hb : evE P b env = .ok (dd ys, .deep, [])) (h : xs.length + ys.length ≤ LIM) : evE P (.bin .add a b) env = .ok (dd (xs ++ ys), .deep, []) := by
  rw [e_catn ha hb h]
  have : cmb .deep [] .deep [] = (.deep, []) := rfl
  rw [this]
  unfold nlo nlu
  split <;> rfl
theorem e_catr [Nf α] {xs ys : List α} (ha : evE P a env = .ok (dd xs, o, u)) (hb : evE P b env = .ok (dd ys, o', u')) (h : xs.length + ys.length ≤ LIM) (hn : (xs ++ ys).isEmpty = false) : evE P (.bin .add a b) env = .ok (dd (xs ++ ys), if (cmb o u o' u').1 = .deep then .deep else .top, u ++ u') := by
  rw [← cmb_u o u o' u', e_catn ha hb h]
  unfold nlo nlu
  rw [hn]; rfl
theorem nlo_deep {γ : Type} (xs : List γ) : nlo xs .deep = .deep := by unfold nlo; split <;> rfl
theorem rep_map (n : Nat) (xs : List α) : (List.replicate n (xs.map (dd : α → D))).flatten = ((List.replicate n xs).flatten).map dd := by
  induction n with
  | zero => rfl
  | succ n ih => rw [List.replicate_succ, List.flatten_cons, List.replicate_succ, List.flatten_cons, List.map_append, ih]
theorem flat_rep1 {γ : Type} (n : Nat) (x : γ) : (List.replicate n [x]).flatten = List.replicate n x := by
  induction n with
  | zero => rfl
  | succ n ih => rw [List.replicate_succ, List.flatten_cons, List.replicate_succ, ih]; rfl
theorem e_rep [Fl α] {x : α} (ha : evE P a env = .ok (dd [x], o, u)) (hb : EvF P b env i) (h : -16777216 < i ∧ i < 16777216) : evE P (.bin .mul a b) env = .ok (dd (List.replicate i.toNat x), .deep, []) := by
  rw [evE, ha, b_ok, hb, b_ok]
  show (if (decide (i < 16777216) && decide (-16777216 < i) && decide (([x].map dd).length * i.toNat ≤ LIM)) = true then _ else _) = _
  rw [if_pos (by
    have : i.toNat ≤ LIM := by unfold LIM; omega
    simp [h.1, h.2, this])]
  show R.ok (newL .lst (List.replicate i.toNat ([x].map dd)).flatten _ _) = _
  rw [rep_map, flat_rep1, newL_f]
/-! comparisons -/
theorem e_lt (ha : EvF P a env i) (hb : EvF P b env j) : evE P (.cmp .lt a b) env = .ok (dd (decide (i < j)), .deep, []) := by
  rw [evE, ha, b_ok, hb]; rfl
theorem e_le (ha : EvF P a env i) (hb : EvF P b env j) : evE P (.cmp .le a b) env = .ok (dd (decide (i ≤ j)), .deep, []) := by
  rw [evE, ha, b_ok, hb]; rfl
theorem e_gt (ha : EvF P a env i) (hb : EvF P b env j) : evE P (.cmp .gt a b) env = .ok (dd (decide (j < i)), .deep, []) := by
  rw [evE, ha, b_ok, hb]; rfl
theorem e_ge (ha : EvF P a env i) (hb : EvF P b env j) : evE P (.cmp .ge a b) env = .ok (dd (decide (j ≤ i)), .deep, []) := by
  rw [evE, ha, b_ok, hb]; rfl
theorem e_eq [Dq α] [DecidableEq α] {x y : α} (ha : evE P a env = .ok (dd x, o, u)) (hb : evE P b env = .ok (dd y, o', u')) (hd : Dq.dep α ≤ 64 := by decide) : evE P (.cmp .eq a b) env = .ok (dd (decide (x = y)), .deep, []) := by
  rw [evE, ha, b_ok, hb, b_ok]
  show (R.of ((dd x).eq? (dd y))).b _ = _
  rw [eq_dd hd]; rfl
theorem e_ne [Dq α] [DecidableEq α] {x y : α} (ha : evE P a env = .ok (dd x, o, u)) (hb : evE P b env = .ok (dd y, o', u')) (hd : Dq.dep α ≤ 64 := by decide) : evE P (.cmp .ne a b) env = .ok (dd (!decide (x = y)), .deep, []) := by
  rw [evE, ha, b_ok, hb, b_ok]
  show ((R.of ((dd x).eq? (dd y))).b _).b _ = _
  rw [eq_dd hd]; rfl
theorem e_is {x y : Bool} (ha : EvF P a env x) (hb : EvF P b env y) : evE P (.cmp .is_ a b) env = .ok (dd (decide (x = y)), .deep, []) := by
  rw [evE, ha, b_ok, hb]; rfl
theorem e_isn {x y : Bool} (ha : EvF P a env x) (hb : EvF P b env y) : evE P (.cmp .isn a b) env = .ok (dd (!decide (x = y)), .deep, []) := by
  rw [evE, ha, b_ok, hb]; rfl
theorem memD_int (x : Int) (ys : List Int) : memD (dd x) (ys.map dd) = some (ys.contains x) := by
  unfold memD
  rw [if_pos (by
    have h : (ys.map (dd : Int → D)).all D.pl = true := by
      rw [List.all_map]
      exact List.all_eq_true.mpr fun _ _ => rfl
    rw [h]; rfl)]
  congr 1
  induction ys with
  | nil => rfl
  | cons y ys ih =>
    rw [List.map_cons, List.any_cons, ih, List.contains_cons]
    congr 1
    show (y == x) = (x == y)
    exact BEq.comm
theorem e_in {ys : List Int} (ha : EvF P a env i) (hb : evE P b env = .ok (dd ys, o, u)) : evE P (.cmp .in_ a b) env = .ok (dd (ys.contains i), .deep, []) := by
  rw [evE, ha, b_ok, hb, b_ok]
  show (R.of (memD (dd i) (ys.map dd))).b _ = _
  rw [memD_int]; rfl
theorem e_nin {ys : List Int} (ha : EvF P a env i) (hb : evE P b env = .ok (dd ys, o, u)) : evE P (.cmp .nin a b) env = .ok (dd (!ys.contains i), .deep, []) := by
  rw [evE, ha, b_ok, hb, b_ok]
  show ((R.of (memD (dd i) (ys.map dd))).b _).b _ = _
  rw [memD_int]; rfl
def cop : CO → Int → Int → Bool
  | .lt, i, j => decide (i < j)
  | .le, i, j => decide (i ≤ j)
  | .gt, i, j => decide (j < i)
  | .ge, i, j => decide (j ≤ i)
  | _, _, _ => false
theorem e_ch {k : Int} (o1 o2 : CO) (ha : EvF P a env i) (hb : EvF P b env j) (hc : EvF P c env k) (h1 : o1 = .lt ∨ o1 = .le := by decide) (h2 : o2 = .lt ∨ o2 = .le := by decide) : evE P (.ch o1 o2 a b c) env = .ok (dd (cop o1 i j && cop o2 j k), .deep, []) := by
  rw [evE, ha, b_ok, hb, b_ok]
  have q : ∀ o, (o = .lt ∨ o = .le) → ∀ x y : Int, cmpD o (dd x) (dd y) = .ok (cop o x y) := by
    rintro o (rfl | rfl) x y <;> rfl
  rw [q o1 h1, b_ok]
  cases cop o1 i j with
  | false => rfl
  | true =>
    rw [if_pos rfl, hc, b_ok]
    dsimp only
    rw [q o2 h2]; rfl
theorem e_inC {neg : Bool} {x : Nat} {ns : List Int} (ha : EvF P a env i) : evE P (.inC neg a x ns) env = .ok (dd (if neg then !(ns.contains i) else ns.contains i), .deep, []) := by
  rw [evE, ha]; rfl
theorem e_not {x : Bool} (ha : EvF P a env x) : evE P (.nt a) env = .ok (dd (!x), .deep, []) := by
  rw [evE, ha]; rfl
theorem e_and {x y : Bool} (ha : EvF P a env x) (hb : x = true → EvF P b env y) : evE P (.an a b) env = .ok (dd (x && y), .deep, []) := by
  rw [evE, ha, b_ok]
  cases x with
  | false => rfl
  | true => exact hb rfl
theorem e_or {x y : Bool} (ha : EvF P a env x) (hb : x = false → EvF P b env y) : evE P (.or a b) env = .ok (dd (x || y), .deep, []) := by
  rw [evE, ha, b_ok]
  cases x with
  | true => rfl
  | false => exact hb rfl
theorem e_ife {x : Bool} {y z : α} (hc : EvF P c env x) (ha : x = true → evE P a env = .ok (dd y, o, u)) (hb : x = false → evE P b env = .ok (dd z, o, u)) : evE P (.ife c a b) env = .ok (dd (if x then y else z), o, u) := by
  rw [evE, hc, b_ok]
  cases x with
  | true => exact ha rfl
  | false => exact hb rfl
theorem e_ifeo {x : Bool} {y z : α} (hc : EvF P c env x) (ha : x = true → evE P a env = .ok (dd y, o, u)) (hb : x = false → evE P b env = .ok (dd z, o', u')) : evE P (.ife c a b) env = .ok (dd (if x then y else z), if x then o else o', if x then u else u') := by
  rw [evE, hc, b_ok]
  cases x with
  | true => exact ha rfl
  | false => exact hb rfl
/-! lists -/
theorem es_nil : evEs P [] env = .ok ([], .deep, []) := by rw [evEs]
theorem es_cons {d : D} {ds : List D} {es : List CE} (ha : evE P a env = .ok (d, o, u)) (hb : evEs P es env = .ok (ds, o', u')) : evEs P (a :: es) env = .ok (d :: ds, (cmb o u o' u').1, u ++ u') := by
  rw [evEs, ha, b_ok, hb]
  show R.ok (d :: ds, cmb o u o' u') = _
  rw [← cmb_u o u o' u']
theorem e_lst0 : evE P (.lst []) env = .ok (dd ([] : List α), .deep, []) := by
  rw [evE, evEs]; rfl
theorem e_lstf [Fl α] {es : List CE} {xs : List α} {ds : List D} (h : evEs P es env = .ok (ds, o, u)) (e : ds = xs.map dd) : evE P (.lst es) env = .ok (dd xs, .deep, []) := by
  rw [evE, h, b_ok, e, newL_f]
theorem e_lstn [Nf α] {es : List CE} {xs : List α} {ds : List D} (h : evEs P es env = .ok (ds, o, u)) (e : ds = xs.map dd) : evE P (.lst es) env = .ok (dd xs, nlo xs o, nlu xs u) := by
  rw [evE, h, b_ok, e, newL_n]
/-- .. of things of many kinds, one of them no flat one -/
theorem e_lstd {es : List CE} {ds : List D} (h : evEs P es env = .ok (ds, o, u)) (f : flatAll ds = false) : evE P (.lst es) env = .ok (.node .lst ds, if o = .deep then .deep else .top, u) := by
  rw [evE, h, b_ok]
  unfold newL
  rw [f]; rfl
theorem e_tupf [Fl α] [Fl β] {x : α} {y : β} {es : List CE} (h : evEs P es env = .ok ([dd x, dd y], o, u)) : evE P (.tup es) env = .ok (dd (x, y), .deep, []) := by
  rw [evE, h, b_ok]
  unfold newL flatAll
  simp [Fl.fl x, Fl.fl y]
  rfl
theorem e_tupA {es : List CE} {ds : List D} (h : evEs P es env = .ok (ds, o, u)) (f : flatAll ds = true) : evE P (.tup es) env = .ok (.node .tup ds, .deep, []) := by
  rw [evE, h, b_ok]
  unfold newL
  rw [f]; rfl
theorem e_tupn {x : α} {y : β} {es : List CE} (h : evEs P es env = .ok ([dd x, dd y], o, u)) (f : flatAll [dd x, dd y] = false) : evE P (.tup es) env = .ok (dd (x, y), if o = .deep then .deep else .top, u) := by
  rw [evE, h, b_ok]
  unfold newL
  rw [f]; rfl
theorem e_tupfd {es : List CE} {ds : List D} (h : evEs P es env = .ok (ds, o, u)) (f : flatAll ds = true) : evE P (.tup es) env = .ok (.node .tup ds, .deep, []) := by
  rw [evE, h, b_ok]
  unfold newL
  rw [f]; rfl
theorem e_tupd {es : List CE} {ds : List D} (h : evEs P es env = .ok (ds, o, u)) (f : flatAll ds = false) : evE P (.tup es) env = .ok (.node .tup ds, if o = .deep then .deep else .top, u) := by
  rw [evE, h, b_ok]
  unfold newL
  rw [f]; rfl
/-- where an index comes to -/
def pix (n : Nat) (i : Int) : Nat := if i < 0 then ((n : Int) + i).toNat else i.toNat
theorem ixN_pix {n : Nat} {i : Int} (h : -(n : Int) ≤ i ∧ i < n) : L2.ixN n i = some (pix n i) ∧ pix n i < n := by
  unfold L2.ixN pix
  by_cases hi : i < 0
  · rw [if_neg (by omega), if_pos h.1, if_pos hi]
    refine ⟨?_, by omega⟩
    congr 1
    congr 1
    omega
  · rw [if_pos (by omega), if_pos h.2, if_neg hi]
    exact ⟨rfl, by omega⟩
theorem atD_map (xs : List α) (i : Int) (h : -(xs.length : Int) ≤ i ∧ i < xs.length) (z : α) : atD (xs.map dd) i = some (dd (xs.getD (pix xs.length i) z)) := by
  obtain ⟨h1, h2⟩ := ixN_pix h
  unfold atD L2.atI
  rw [List.length_map, h1, Option.bind_some, List.getElem?_map, List.getElem?_eq_getElem h2, List.getD_eq_getElem?_getD, List.getElem?_eq_getElem h2]
  rfl
theorem e_ixf [Fl α] {xs : List α} (z : α) (ha : evE P a env = .ok (dd xs, o, u)) (hb : EvF P b env i) (h : -(xs.length : Int) ≤ i ∧ i < xs.length) : evE P (.ix a b) env = .ok (dd (xs.getD (pix xs.length i) z), .deep, []) := by
  rw [evE, ha, b_ok, hb, b_ok]
  show (R.of (atD (xs.map dd) i)).b _ = _
  rw [atD_map xs i h z]
  show R.ok (fin _ _ _) = _
  simp [fin, Fl.fl]
theorem e_ixn [Nf α] {xs : List α} (z : α) (ha : evE P a env = .ok (dd xs, o, u)) (hb : EvF P b env i) (h : -(xs.length : Int) ≤ i ∧ i < xs.length) : evE P (.ix a b) env = .ok (dd (xs.getD (pix xs.length i) z), .sh, u) := by
  rw [evE, ha, b_ok, hb, b_ok]
  show (R.of (atD (xs.map dd) i)).b _ = _
  rw [atD_map xs i h z]
  show R.ok (fin _ _ _) = _
  simp [fin, Nf.nf]
/-- an item of a told thing by its place -/
theorem e_ixd {xs : List D} {k : DK} {d : D} (ha : evE P a env = .ok (.node k xs, o, u)) (hk : k = .lst ∨ k = .tup) (hb : EvF P b env i) (h : atD xs i = some d) : evE P (.ix a b) env = .ok (if d.flat then (d, .deep, []) else (d, .sh, u)) := by
  rw [evE, ha, b_ok, hb, b_ok]
  rcases hk with rfl | rfl <;> (show (R.of (atD xs i)).b _ = _; rw [h]; rfl)
def cutL (xs : List α) (lo hi : Option Int) : List α := (xs.drop (HT.sIx xs.length 0 lo)).take (HT.sIx xs.length xs.length hi - HT.sIx xs.length 0 lo)
theorem cutD_map (xs : List α) (lo hi : Option Int) : cutD (xs.map dd) lo hi = (cutL xs lo hi).map dd := by
  unfold cutD cutL
  rw [List.length_map, List.map_take, List.map_drop]
/-- a told bound -/
def Bnd (P : Prog) (env : En) (e : CE) (l : Option Int) : Prop := ((evE P e env).b fun h => boundD e.isNil h.1) = .ok l
theorem b_nil : Bnd P env .nil none := by unfold Bnd; rw [evE]; rfl
theorem b_some (ha : EvF P e env i) (he : e.isNil = false) : Bnd P env e (some i) := by
  unfold Bnd
  rw [ha, b_ok, he]; rfl
theorem e_slf [Fl α] {xs : List α} {lo hi : Option Int} (ha : evE P a env = .ok (dd xs, o, u)) (hb : Bnd P env b lo) (hc : Bnd P env c hi) : evE P (.sl a b c) env = .ok (dd (cutL xs lo hi), .deep, []) := by
  unfold Bnd at hb hc
  rw [evE, ha, b_ok, hb, b_ok, hc, b_ok]
  show R.ok (newL .lst (cutD (xs.map dd) lo hi) _ _) = _
  rw [cutD_map, newL_f]
theorem e_sln [Nf α] {xs : List α} {lo hi : Option Int} (ha : evE P a env = .ok (dd xs, o, u)) (hb : Bnd P env b lo) (hc : Bnd P env c hi) : evE P (.sl a b c) env = .ok (dd (cutL xs lo hi), nlo (cutL xs lo hi) o, nlu (cutL xs lo hi) u) := by
  unfold Bnd at hb hc
  rw [evE, ha, b_ok, hb, b_ok, hc, b_ok]
  show R.ok (newL .lst (cutD (xs.map dd) lo hi) _ _) = _
  rw [cutD_map, newL_n]
theorem e_revf [Fl α] {xs : List α} (ha : evE P a env = .ok (dd xs, o, u)) : evE P (.rev a) env = .ok (dd xs.reverse, .deep, []) := by
  rw [evE, ha, b_ok]
  show R.ok (newL .lst (xs.map dd).reverse _ _) = _
  rw [← List.map_reverse, newL_f]
theorem e_revn [Nf α] {xs : List α} (ha : evE P a env = .ok (dd xs, o, u)) : evE P (.rev a) env = .ok (dd xs.reverse, nlo xs.reverse o, nlu xs.reverse u) := by
  rw [evE, ha, b_ok]
  show R.ok (newL .lst (xs.map dd).reverse _ _) = _
  rw [← List.map_reverse, newL_n]
theorem e_len {xs : List α} (ha : evE P a env = .ok (dd xs, o, u)) : evE P (.len a) env = .ok (dd (xs.length : Int), .deep, []) := by
  rw [evE, ha, b_ok]
  show R.ok (D.int ((xs.map dd).length : Int), _, _) = _
  rw [List.length_map]; rfl
theorem e_listf [Fl α] {xs : List α} (ha : evE P a env = .ok (dd xs, o, u)) : evE P (.list a) env = .ok (dd xs, .deep, []) := by
  rw [evE, ha, b_ok]
  show R.ok (newL .lst (xs.map dd) _ _) = _
  rw [newL_f]
theorem e_listn [Nf α] {xs : List α} (ha : evE P a env = .ok (dd xs, o, u)) : evE P (.list a) env = .ok (dd xs, nlo xs o, nlu xs u) := by
  rw [evE, ha, b_ok]
  show R.ok (newL .lst (xs.map dd) _ _) = _
  rw [newL_n]
theorem intsD_map : ∀ xs : List Int, intsD (xs.map dd) = some xs
  | [] => rfl
  | x :: xs => by
    rw [List.map_cons]
    show (intsD (xs.map dd)).map (x :: ·) = _
    rw [intsD_map xs]; rfl
theorem blsD_map : ∀ xs : List Bool, blsD (xs.map dd) = some xs
  | [] => rfl
  | x :: xs => by
    rw [List.map_cons]
    show (blsD (xs.map dd)).map (x :: ·) = _
    rw [blsD_map xs]; rfl
theorem e_sum {xs : List Int} (ha : evE P a env = .ok (dd xs, o, u)) : evE P (.sum a) env = .ok (dd xs.sum, .deep, []) := by
  rw [evE, ha, b_ok]
  show (R.of (intsD (xs.map dd))).b _ = _
  rw [intsD_map]; rfl
theorem e_all {xs : List Bool} (ha : evE P a env = .ok (dd xs, o, u)) : evE P (.all a) env = .ok (dd (xs.all id), .deep, []) := by
  rw [evE, ha, b_ok]
  show (R.of (blsD (xs.map dd))).b _ = _
  rw [blsD_map]; rfl
theorem e_anyb {xs : List Bool} (ha : evE P a env = .ok (dd xs, o, u)) : evE P (.any a) env = .ok (dd (xs.any id), .deep, []) := by
  rw [evE, ha, b_ok]
  show (match blsD (xs.map dd) with | some bs => _ | none => _) = _
  rw [blsD_map]; rfl
theorem e_anyi {xs : List Int} (ha : evE P a env = .ok (dd xs, o, u)) : evE P (.any a) env = .ok (dd (xs.any (· != 0)), .deep, []) := by
  rw [evE, ha, b_ok]
  cases xs with
  | nil => rfl
  | cons x xs =>
    show (match blsD (D.int x :: xs.map dd) with | some bs => R.ok (D.bl (bs.any id), Own.deep, []) | none => (R.of (intsD (D.int x :: xs.map dd))).b fun ns => .ok (.bl (ns.any (· != 0)), .deep, [])) = _
    rw [show intsD (D.int x :: xs.map dd) = some (x :: xs) from intsD_map (x :: xs)]
    rfl
theorem rowsOf_map : ∀ xs : List (List Int), rowsOf (xs.map dd) = some xs
  | [] => rfl
  | x :: xs => by
    rw [List.map_cons]
    show (intsD (x.map dd)).bind _ = _
    rw [intsD_map, Option.bind_some, rowsOf_map xs]; rfl
theorem e_srti {xs : List Int} (ha : evE P a env = .ok (dd xs, o, u)) : evE P (.srt a) env = .ok (dd (sortInts xs), .deep, []) := by
  rw [evE, ha, b_ok]
  show (match intsD (xs.map dd) with | some ns => R.ok (D.node .lst ((sortInts ns).map D.int), Own.deep, []) | none => _) = _
  rw [intsD_map]; rfl
theorem rowD_dd (r : List Int) : rowD r = dd r := rfl
theorem e_srtR {xs : List (List Int)} (ha : evE P a env = .ok (dd xs, o, u)) : evE P (.srtR a) env = .ok (dd (sortRows xs), nlo (sortRows xs) o, nlu (sortRows xs) u) := by
  rw [evE, ha, b_ok]
  show (R.of (rowsOf (xs.map dd))).b _ = _
  rw [rowsOf_map]
  show R.ok (newL .lst ((sortRows xs).map rowD) _ _) = _
  rw [show (sortRows xs).map rowD = (sortRows xs).map dd from rfl, newL_n]
theorem e_int {x : Bool} (ha : EvF P a env x) : evE P (.toInt a) env = .ok (dd (if x then 1 else 0 : Int), .deep, []) := by
  rw [evE, ha]; rfl
theorem e_isin {d : D} {t : Ty} {r : Bool} (ha : evE P a env = .ok (d, o, u)) (h : isinD P d t = .ok r) : evE P (.isin a t) env = .ok (dd r, .deep, []) := by
  rw [evE, ha, b_ok, h]; rfl
theorem findD_map (x : Int) (xs : List Int) : findD (dd x) (xs.map dd) = xs.findIdx? (· == x) := by
  unfold findD
  rw [if_pos (by
    have h : (xs.map (dd : Int → D)).all D.pl = true := by
      rw [List.all_map]
      exact List.all_eq_true.mpr fun _ _ => rfl
    rw [h]; rfl), List.findIdx?_map]
  rfl
theorem e_index {xs : List Int} {k : Nat} (ha : evE P a env = .ok (dd xs, o, u)) (hb : EvF P b env i) (h : xs.findIdx? (· == i) = some k) : evE P (.index a b) env = .ok (dd (k : Int), .deep, []) := by
  rw [evE, ha, b_ok]
  show ((evE P b env).b fun y => (R.of (findD y.1 (xs.map dd))).b fun i => R.ok (D.int i, Own.deep, [])) = _
  rw [hb, b_ok, findD_map, h]; rfl
theorem e_callf [Fl α] {k : Nat} {es : List CE} {ds : List D} {x : α} (h : evEs P es env = .ok (ds, o, u)) (hf : P.fn k ds = .ok (dd x, true)) : evE P (.call k es) env = .ok (dd x, .deep, []) := by
  rw [evE, h, b_ok, hf, b_ok]
  simp [fin, Fl.fl]
theorem e_calln [Nf α] {k : Nat} {es : List CE} {ds : List D} {x : α} (h : evEs P es env = .ok (ds, o, u)) (hf : P.fn k ds = .ok (dd x, true)) : evE P (.call k es) env = .ok (dd x, .deep, []) := by
  rw [evE, h, b_ok, hf, b_ok]
  simp [fin, Nf.nf]
theorem e_calls [Nf α] {k : Nat} {es : List CE} {ds : List D} {x : α} {fr : Bool} (h : evEs P es env = .ok (ds, o, u)) (hf : P.fn k ds = .ok (dd x, fr)) : evE P (.call k es) env = .ok (dd x, if fr then .deep else .sh, if fr then [] else u) := by
  rw [evE, h, b_ok, hf, b_ok]
  simp [fin, Nf.nf]
theorem e_callsh [Nf α] {k : Nat} {es : List CE} {ds : List D} {x : α} (h : evEs P es env = .ok (ds, o, u)) (hf : P.fn k ds = .ok (dd x, false)) : evE P (.call k es) env = .ok (dd x, .sh, u) := e_calls h hf
/-- a call that tells nothing -/
theorem e_call0 {k : Nat} {es : List CE} {ds : List D} (h : evEs P es env = .ok (ds, o, u)) (hf : P.fn k ds = .ok (.non, true)) : evE P (.call k es) env = .ok (.non, .deep, []) := by
  rw [evE, h, b_ok, hf, b_ok]; rfl
theorem evens_dd : ∀ xs : List α, evens (xs.map (dd : α → D)) = (evens xs).map dd
  | [] => rfl
  | [x] => rfl
  | x :: y :: r => by
    show dd x :: evens (r.map dd) = dd x :: (evens r).map dd
    rw [evens_dd r]
theorem e_st2n [Nf α] {xs : List α} (ha : evE P a env = .ok (dd xs, o, u)) (hb : EvF P b env i) (h : 0 ≤ i) : evE P (.st2 a b) env = .ok (dd (evens (xs.drop i.toNat)), nlo (evens (xs.drop i.toNat)) o, nlu (evens (xs.drop i.toNat)) u) := by
  rw [evE, ha, b_ok, hb, b_ok]
  show (if decide (0 ≤ i) = true then R.ok (newL .lst (evens ((xs.map dd).drop i.toNat)) o u) else .no) = _
  rw [if_pos (decide_eq_true h), ← List.map_drop, evens_dd, newL_n]
theorem e_rngL (ha : EvF P a env i) (h : -16777216 < i ∧ i < 16777216) : evE P (.rngL a) env = .ok (dd ((List.range i.toNat).map fun k : Nat => (k : Int)), .deep, []) := by
  rw [evE, ha, b_ok]
  show (if (decide (i < 16777216) && decide (-16777216 < i)) = true then R.ok (D.node .lst (rangeD 0 i.toNat), Own.deep, []) else .no) = _
  have e : ∀ (n : Nat) (lo : Int), rangeD lo n = (List.range n).map fun k : Nat => D.int (lo + (k : Int)) := by
    intro n
    induction n with
    | zero => intro lo; rfl
    | succ n ih =>
      intro lo
      rw [rangeD, ih, List.range_succ_eq_map, List.map_cons, List.map_map]
      congr 1
      · rw [Int.natCast_zero, Int.add_zero]
      · apply List.map_congr_left
        intro k _
        show D.int (lo + 1 + (k : Int)) = D.int (lo + ((k + 1 : Nat) : Int))
        congr 1
        omega
  rw [if_pos (by simp [h.1, h.2]), e, show dd ((List.range i.toNat).map fun k : Nat => (k : Int)) = D.node .lst (((List.range i.toNat).map fun k : Nat => (k : Int)).map D.int) from rfl, List.map_map]
  congr 3
  apply List.map_congr_left
  intro k _
  show D.int (0 + (k : Int)) = D.int (k : Int)
  rw [Int.zero_add]
/-! comprehensions -/
/-- how one item comes out -/
def elem (P : Prog) (e c : CE) (tg : List Nat) (env : En) (d : D) : R (Option (D × Own × List Nat)) := ((bindTg tg d (shAll env)).b fun env => (evE P c env).b fun t => match t.1 with
  | .bl true => (evE P e env).b fun z => .ok (some z)
  | .bl false => .ok none
  | _ => .no).nx
theorem el_t {d : D} {tg : List Nat} {env1 : En} {z : D × Own × List Nat} (h : bindTg tg d (shAll env) = .ok env1) (hc : evE P c env1 = .ok (.bl true, o, u)) (he : evE P e env1 = .ok z) : elem P e c tg env d = .ok (some z) := by
  unfold elem
  rw [h, b_ok, hc, b_ok, he]; rfl
theorem el_k {d : D} {tg : List Nat} {env1 : En} {z : D × Own × List Nat} (env2 : En) (h : bindTg tg d (shAll env) = .ok env1) (h2 : env1 = env2) (he : evE P e env2 = .ok z) : elem P e (.k (.bl true)) tg env d = .ok (some z) := by
  subst h2
  exact el_t h rfl he
theorem el_q {d : D} {tg : List Nat} {env1 : En} {z : D × Own × List Nat} {q : Bool} (env2 : En) (h : bindTg tg d (shAll env) = .ok env1) (h2 : env1 = env2) (hc : EvF P c env2 q) (he : q = true → evE P e env2 = .ok z) : elem P e c tg env d = .ok (if q then some z else none) := by
  subst h2
  cases q with
  | true => exact el_t h hc (he rfl)
  | false =>
    unfold elem
    rw [h, b_ok, hc]; rfl
theorem lcL_map {ι : Type} (f : D → R (Option (D × Own × List Nat))) (t : ι → D) (g : ι → D) : ∀ xs : List ι, (∀ x ∈ xs, f (t x) = .ok (some (g x, .deep, []))) → lcL f (xs.map t) = .ok (xs.map g, true, [])
  | [], _ => rfl
  | x :: xs, h => by
    rw [List.map_cons, lcL, h x (by simp), b_ok, lcL_map f t g xs fun y hy => h y (by simp [hy])]
    rfl
theorem lcL_fil {ι : Type} (f : D → R (Option (D × Own × List Nat))) (t : ι → D) (q : ι → Bool) (g : ι → D) : ∀ xs : List ι, (∀ x ∈ xs, f (t x) = .ok (if q x then some (g x, .deep, []) else none)) → lcL f (xs.map t) = .ok ((xs.filter q).map g, true, [])
  | [], _ => rfl
  | x :: xs, h => by
    rw [List.map_cons, lcL, h x (by simp), b_ok, lcL_fil f t q g xs fun y hy => h y (by simp [hy]), b_ok, List.filter_cons]
    cases q x <;> rfl
theorem lcL_mapS {ι : Type} (f : D → R (Option (D × Own × List Nat))) (t : ι → D) (g : ι → D) (w : List Nat) : ∀ xs : List ι, (∀ x ∈ xs, f (t x) = .ok (some (g x, .sh, w))) → lcL f (xs.map t) = .ok (xs.map g, xs.isEmpty, (xs.map fun _ => w).flatten)
  | [], _ => rfl
  | x :: xs, h => by
    rw [List.map_cons, lcL, h x (by simp), b_ok, lcL_mapS f t g w xs fun y hy => h y (by simp [hy])]
    rfl
theorem lcL_filS {ι : Type} (f : D → R (Option (D × Own × List Nat))) (t : ι → D) (q : ι → Bool) (g : ι → D) (w : List Nat) : ∀ xs : List ι, (∀ x ∈ xs, f (t x) = .ok (if q x then some (g x, .sh, w) else none)) → lcL f (xs.map t) = .ok ((xs.filter q).map g, (xs.filter q).isEmpty, ((xs.filter q).map fun _ => w).flatten)
  | [], _ => rfl
  | x :: xs, h => by
    rw [List.map_cons, lcL, h x (by simp), b_ok, lcL_filS f t q g w xs fun y hy => h y (by simp [hy]), b_ok, List.filter_cons]
    cases q x <;> rfl
/-- the items that an iteration goes over -/
def Its {ι : Type} (P : Prog) (env : En) (ik : IK) (a b : CE) (xs : List ι) (t : ι → D) (w : List Nat) : Prop := ∃ x o u y o' u', evE P a env = .ok (x, o, u) ∧ evE P b env = .ok (y, o', u') ∧ itD ik x y = .ok (xs.map t) ∧ u ++ u' = w
theorem it_lst {xs : List α} (ha : evE P a env = .ok (dd xs, o, u)) : Its P env .lst a .nil xs dd u := ⟨_, _, _, _, _, _, ha, e_nil, rfl, List.append_nil u⟩
theorem it_tup {ds : List D} (ha : evE P a env = .ok (.node .tup ds, o, u)) : Its P env .lst a .nil ds id u := ⟨_, _, _, _, _, _, ha, e_nil, by rw [List.map_id]; rfl, List.append_nil u⟩
theorem it_lstd {ds : List D} (ha : evE P a env = .ok (.node .lst ds, o, u)) : Its P env .lst a .nil ds id u := ⟨_, _, _, _, _, _, ha, e_nil, by rw [List.map_id]; rfl, List.append_nil u⟩
theorem rangeD_map : ∀ (n : Nat) (lo : Int), rangeD lo n = (List.range n).map fun (k : Nat) => dd (lo + (k : Int))
  | 0, _ => rfl
  | n + 1, lo => by
    rw [rangeD, rangeD_map n (lo + 1), List.range_succ_eq_map, List.map_cons, List.map_map]
    congr 1
    · show D.int lo = D.int (lo + ((0 : Nat) : Int))
      rw [Int.natCast_zero, Int.add_zero]
    · apply List.map_congr_left
      intro k _
      show D.int (lo + 1 + (k : Int)) = D.int (lo + ((k + 1 : Nat) : Int))
      congr 1
      omega
theorem it_rng1 (ha : EvF P a env i) (h : -16777216 < i ∧ i < 16777216) : Its P env .rng1 a .nil (List.range i.toNat) (fun (k : Nat) => dd (k : Int)) [] := by
  refine ⟨_, _, _, _, _, _, ha, e_nil, ?_, rfl⟩
  show (if (decide (i < 16777216) && decide (-16777216 < i)) = true then R.ok (rangeD 0 i.toNat) else .no) = _
  rw [if_pos (by simp [h.1, h.2]), rangeD_map]
  simp
theorem it_rng2 (ha : EvF P a env i) (hb : EvF P b env j) (h : -16777216 < j ∧ j < 16777216 ∧ -16777216 < i ∧ i < 16777216 ∧ j - i < 16777216) : Its P env .rng2 a b (List.range (j - i).toNat) (fun (k : Nat) => dd (i + (k : Int))) [] := by
  refine ⟨_, _, _, _, _, _, ha, hb, ?_, rfl⟩
  show (if (decide (j < 16777216) && decide (-16777216 < j) && decide (i < 16777216) && decide (-16777216 < i) && decide (j - i < 16777216)) = true then R.ok (rangeD i (j - i).toNat) else .no) = _
  rw [if_pos (by simp [h.1, h.2]), rangeD_map]
theorem enumD_map : ∀ (xs : List α) (lo : Nat), enumD (lo : Int) (xs.map dd) = (xs.zipIdx lo).map fun z => dd ((z.2 : Int), z.1)
  | [], _ => rfl
  | x :: xs, lo => by
    rw [List.map_cons, enumD, List.zipIdx_cons, List.map_cons]
    have := enumD_map xs (lo + 1)
    rw [show ((lo + 1 : Nat) : Int) = (lo : Int) + 1 by omega] at this
    rw [this]; rfl
theorem it_enm {xs : List α} (ha : evE P a env = .ok (dd xs, o, u)) : Its P env .enm a .nil xs.zipIdx (fun z => dd ((z.2 : Int), z.1)) u :=
  ⟨_, _, _, _, _, _, ha, e_nil, congrArg R.ok (enumD_map xs 0), List.append_nil u⟩
theorem zipD_map : ∀ (xs : List α) (ys : List β), zipD (xs.map dd) (ys.map dd) = (xs.zip ys).map dd
  | [], ys => by cases ys <;> rfl
  | x :: xs, [] => rfl
  | x :: xs, y :: ys => by
    rw [List.map_cons, List.map_cons, zipD, zipD_map xs ys]; rfl
theorem it_zip {xs : List α} {ys : List β} (ha : evE P a env = .ok (dd xs, o, u)) (hb : evE P b env = .ok (dd ys, o', u')) : Its P env .zip a b (xs.zip ys) dd (u ++ u') :=
  ⟨_, _, _, _, _, _, ha, hb, congrArg R.ok (zipD_map xs ys), rfl⟩
variable {ι : Type} {xs : List ι} {t : ι → D} {ik : IK} {tg w : List Nat}
theorem e_lc {g : ι → α} (hi : Its P env ik a b xs t w) (hl : xs.length ≤ LIM) (h : ∀ x ∈ xs, elem P e c tg env (t x) = .ok (some (dd (g x), .deep, []))) : evE P (.lc e tg ik a b c) env = .ok (dd (xs.map g), .deep, []) := by
  obtain ⟨x, o, u, y, o', u', h1, h2, h3, h4⟩ := hi
  rw [evE, h1, b_ok, h2, b_ok, h3, b_ok, if_neg (by rw [List.length_map]; omega)]
  show (lcL (elem P e c tg env) (xs.map t)).b _ = _
  rw [lcL_map (elem P e c tg env) t (fun x => dd (g x)) xs h]
  rw [b_ok]
  dsimp only
  rw [if_pos rfl]
  rw [show dd (xs.map g) = D.node .lst ((xs.map g).map dd) from rfl, List.map_map]; rfl
theorem e_lcq {g : ι → α} {q : ι → Bool} (hi : Its P env ik a b xs t w) (hl : xs.length ≤ LIM) (h : ∀ x ∈ xs, elem P e c tg env (t x) = .ok (if q x then some (dd (g x), .deep, []) else none)) : evE P (.lc e tg ik a b c) env = .ok (dd ((xs.filter q).map g), .deep, []) := by
  obtain ⟨x, o, u, y, o', u', h1, h2, h3, h4⟩ := hi
  rw [evE, h1, b_ok, h2, b_ok, h3, b_ok, if_neg (by rw [List.length_map]; omega)]
  show (lcL (elem P e c tg env) (xs.map t)).b _ = _
  rw [lcL_fil (elem P e c tg env) t q (fun x => dd (g x)) xs h]
  rw [b_ok]
  dsimp only
  rw [if_pos rfl]
  rw [show dd ((xs.filter q).map g) = D.node .lst (((xs.filter q).map g).map dd) from rfl, List.map_map]; rfl
/-- .. of things that are shared -/
theorem e_lcs [Nf α] {g : ι → α} {v : List Nat} (hi : Its P env ik a b xs t w) (hl : xs.length ≤ LIM) (h : ∀ x ∈ xs, elem P e c tg env (t x) = .ok (some (dd (g x), .sh, v))) :
    evE P (.lc e tg ik a b c) env = .ok (dd (xs.map g), if xs.isEmpty then .deep else .top, if xs.isEmpty then [] else ((xs.map fun _ => v).flatten.filter (fun i => !tg.contains i)) ++ w) := by
  obtain ⟨x, o, u, y, o', u', h1, h2, h3, h4⟩ := hi
  rw [evE, h1, b_ok, h2, b_ok, h3, b_ok, if_neg (by rw [List.length_map]; omega)]
  show (lcL (elem P e c tg env) (xs.map t)).b _ = _
  rw [lcL_mapS (elem P e c tg env) t (fun x => dd (g x)) v xs h, b_ok]
  show (if xs.isEmpty = true then _ else R.ok (newL .lst (xs.map fun x => dd (g x)) .sh _)) = _
  rw [show (xs.map fun x => dd (g x)) = (xs.map g).map dd by rw [List.map_map]; rfl, newL_n, ← h4]
  cases xs <;> rfl
theorem e_lcqs [Nf α] {g : ι → α} {q : ι → Bool} {v : List Nat} (hi : Its P env ik a b xs t w) (hl : xs.length ≤ LIM) (h : ∀ x ∈ xs, elem P e c tg env (t x) = .ok (if q x then some (dd (g x), .sh, v) else none)) :
    evE P (.lc e tg ik a b c) env = .ok (dd ((xs.filter q).map g), if (xs.filter q).isEmpty then .deep else .top, if (xs.filter q).isEmpty then [] else (((xs.filter q).map fun _ => v).flatten.filter (fun i => !tg.contains i)) ++ w) := by
  obtain ⟨x, o, u, y, o', u', h1, h2, h3, h4⟩ := hi
  rw [evE, h1, b_ok, h2, b_ok, h3, b_ok, if_neg (by rw [List.length_map]; omega)]
  show (lcL (elem P e c tg env) (xs.map t)).b _ = _
  rw [lcL_filS (elem P e c tg env) t q (fun x => dd (g x)) v xs h, b_ok]
  show (if (xs.filter q).isEmpty = true then _ else R.ok (newL .lst ((xs.filter q).map fun x => dd (g x)) .sh _)) = _
  rw [show ((xs.filter q).map fun x => dd (g x)) = ((xs.filter q).map g).map dd by rw [List.map_map]; rfl, newL_n, ← h4]
  cases xs.filter q <;> rfl
end
/-! ### statements -/
section
variable {P : Prog} {N : Nat} {env : En} {α β : Type} [Da α] [Da β] {a b c e : CE} {ss : List CS} {r : R Out} {i j : Int} {o o' : Own} {u u' : List Nat}
theorem ss_nil : evSs P N [] env = .ok (.nx env) := by rw [evSs]
theorem ss_set {x : α} {s : Nat} (E : α → En) (h : evE P e env = .ok (dd x, o, u)) (he : ∀ y : α, stoA s (dd y) o u env = E y) (k : ∀ y : α, y = x → evSs P N ss (E y) = r) : evSs P N (.set s e :: ss) env = r := by
  rw [evSs, evS, h, b_ok, b_ok]
  dsimp only
  rw [he]
  exact k x rfl
/-- .. of a thing that shares what others hold in common already -/
theorem ss_setw {x : α} {s : Nat} (E : Own → α → En) (h : evE P e env = .ok (dd x, o, u)) (ho : o = .deep → u = []) (he : ∀ (o : Own) (y : α), setS s (.val (dd y) o) env = E o y) (hd : dem u env = env) (k : ∀ (o : Own) (y : α), y = x → evSs P N ss (E o y) = r) : evSs P N (.set s e :: ss) env = r := by
  rw [evSs, evS, h, b_ok, b_ok]
  dsimp only
  have ha : after o u env = env := by
    cases o with
    | deep => rw [ho rfl]; rfl
    | top => exact hd
    | sh => exact hd
    | bor => exact hd
  have : stoA s (dd x) o u env = E o.nb x := by
    unfold stoA
    rw [ha, ← he]
  rw [this]
  exact k o.nb x rfl
/-- .. where a value may be known in two ways -/
theorem ss_setd {d : D} {s : Nat} (env' : En) (h : evE P e env = .ok (d, o, u)) (he : stoA s d o u env = env') (k : evSs P N ss env' = r) : evSs P N (.set s e :: ss) env = r := by
  rw [evSs, evS, h, b_ok, b_ok]
  dsimp only
  rw [he]
  exact k
theorem ss_ret {d : D} (h : evE P e env = .ok (d, o, u)) : evSs P N (.ret e :: ss) env = .ok (.rt d (decide (o = .deep))) := by
  rw [evSs, evS, h]; rfl
theorem ss_retS {d : D} (h : evE P e env = .ok (d, o, u)) : evSs P N (.retS e :: ss) env = .ok (.rt d false) := by
  rw [evSs, evS, h]; rfl
theorem ss_retN : evSs P N (.retN :: ss) env = .ok (.rt .non true) := by
  rw [evSs, evS]; rfl
theorem ss_ex {d : D} (h : evE P e env = .ok (d, o, u)) (k : evSs P N ss env = r) : evSs P N (.ex e :: ss) env = r := by
  rw [evSs, evS, h, b_ok, b_ok]
  exact k
theorem ss_pass (k : evSs P N ss env = r) : evSs P N (.pass :: ss) env = r := by
  rw [evSs, evS, b_ok]; exact k
theorem ss_brk : evSs P N (.brk :: ss) env = .ok (.bk env) := by
  rw [evSs, evS]; rfl
theorem ss_cnt : evSs P N (.cnt :: ss) env = .ok (.ct env) := by
  rw [evSs, evS]; rfl
theorem ss_rse {k : Nat} : evSs P N (.rse k :: ss) env = .ex k := by
  rw [evSs, evS]; rfl
theorem ss_app : ∀ (A : List CS) (env : En), evSs P N (A ++ ss) env = (evSs P N A env).b fun o => match o with
    | .nx e => evSs P N ss e
    | o => .ok o
  | [], env => by
    rw [evSs]; rfl
  | s :: A, env => by
    rw [List.cons_append, evSs, evSs]
    cases evS P N s env with
    | no => rfl
    | ex c => rfl
    | ok o =>
      cases o with
      | nx e =>
        rw [b_ok, b_ok]
        exact ss_app A e
      | bk e => rfl
      | ct e => rfl
      | rt d f => rfl
theorem ss_ift {A B : List CS} {x : Bool} (h : EvF P c env x) (hx : x = true) (k : evSs P N (A ++ ss) env = r) : evSs P N (.if_ c A B :: ss) env = r := by
  subst hx
  rw [evSs, evS, h, b_ok, ← k, ss_app] <;> rfl
theorem ss_iff {A B : List CS} {x : Bool} (h : EvF P c env x) (hx : x = false) (k : evSs P N (B ++ ss) env = r) : evSs P N (.if_ c A B :: ss) env = r := by
  subst hx
  rw [evSs, evS, h, b_ok, ← k, ss_app] <;> rfl
theorem ss_if {A B : List CS} {x : Bool} (h : EvF P c env x) (kt : x = true → evSs P N (A ++ ss) env = r) (kf : x = false → evSs P N (B ++ ss) env = r) : evSs P N (.if_ c A B :: ss) env = r := by
  cases q : x with
  | true => exact ss_ift h q (kt q)
  | false => exact ss_iff h q (kf q)
theorem ss_aug {op : BO} {s : Nat} {x y z : Int} {ow : Own} (E : Int → En) (h1 : env[s]? = some (some (.val (dd x) ow))) (h : EvF P e env y) (hz : binI op x y = some z) (he : ∀ z : Int, setS s (.val (dd z) .deep) env = E z) (k : ∀ w : Int, w = z → evSs P N ss (E w) = r) : evSs P N (.aug s op e :: ss) env = r := by
  rw [evSs, evS, h1]
  show (((evE P e env).b _).b _) = _
  rw [h, b_ok]
  show ((((R.of (binI op x y)).b _)).b _) = _
  rw [hz]
  show evSs P N ss (setS s (.val (dd z) .deep) env) = r
  rw [he]; exact k z rfl
/-- append to a list of one's own -/
theorem ss_apd {xs : List α} {x : α} {s : Nat} {ow : Own} (E : List α → En) (h1 : env[s]? = some (some (.val (dd xs) ow))) (h : evE P e env = .ok (dd x, o, u)) (hw : ow ≠ .sh ∧ ow ≠ .bor) (hl : xs.length < LIM) (hu : u.contains s = false)
    (he : ∀ ys : List α, setS s (.val (dd ys) (if decide (ow = .deep) && decide (o = .deep) then .deep else .top)) (after o u env) = E ys) (k : ∀ ys : List α, ys = xs ++ [x] → evSs P N ss (E ys) = r) : evSs P N (.app s e :: ss) env = r := by
  rw [evSs, evS, h1]
  show (((evE P e env).b fun z => if (decide (ow ≠ .sh ∧ ow ≠ .bor) && decide ((xs.map dd).length < LIM) && !z.2.2.contains s) = true then R.ok (Out.nx (setS s (.val (.node .lst (xs.map dd ++ [z.1])) (if decide (ow = .deep) && decide (z.2.1 = .deep) then .deep else .top)) (after z.2.1 z.2.2 env))) else .no).b _) = _
  rw [h, b_ok]
  dsimp only
  rw [if_pos (by rw [hu]; simp [hw, hl])]
  rw [show (xs.map dd ++ [dd x] : List D) = (xs ++ [x]).map dd by simp]
  rw [b_ok]
  dsimp only
  rw [show (D.node .lst ((xs ++ [x]).map dd)) = dd (xs ++ [x]) from rfl, he]
  exact k _ rfl
/-- a place of a list set anew -/
theorem ss_seti {xs : List α} {x : α} {s : Nat} {ow : Own} (E : List α → En) (h : evE P e env = .ok (dd x, o, u)) (h1 : env[s]? = some (some (.val (dd xs) ow))) (h2 : EvF P a env i) (hw : ow ≠ .sh ∧ ow ≠ .bor) (hu : u.contains s = false) (hi : -(xs.length : Int) ≤ i ∧ i < xs.length)
    (he : ∀ ys : List α, setS s (.val (dd ys) (if decide (ow = .deep) && decide (o = .deep) then .deep else .top)) (after o u env) = E ys) (k : ∀ ys : List α, ys = xs.set (pix xs.length i) x → evSs P N ss (E ys) = r) : evSs P N (.seti s a e :: ss) env = r := by
  rw [evSs, evS, h, b_ok, h1]
  show (((evE P a env).b _).b _) = _
  rw [h2, b_ok]
  dsimp only
  show ((if (decide (ow ≠ Own.sh ∧ ow ≠ Own.bor) && !u.contains s) = true then (match L2.ixN (xs.map (dd : α → D)).length i with
    | some j => R.ok (Out.nx (setS s (.val (.node .lst ((xs.map dd).set j (dd x))) (if decide (ow = Own.deep) && decide (o = Own.deep) then Own.deep else Own.top)) (after o u env)))
    | none => .no) else .no).b _) = _
  rw [if_pos (by rw [hu]; simp [hw]), List.length_map, (ixN_pix hi).1]
  dsimp only
  rw [b_ok]
  dsimp only
  rw [← List.map_set, show (D.node .lst ((xs.set (pix xs.length i) x).map dd)) = dd (xs.set (pix xs.length i) x) from rfl, he]
  exact k _ rfl
theorem ss_ext {xs ys : List α} {s : Nat} {ow : Own} (E : List α → En) (h1 : env[s]? = some (some (.val (dd xs) ow))) (h : evE P e env = .ok (dd ys, o, u)) (hw : ow ≠ .sh ∧ ow ≠ .bor) (ho : o ≠ .sh ∧ o ≠ .bor) (hl : xs.length + ys.length ≤ LIM) (hu : u.contains s = false)
    (he : ∀ ys : List α, setS s (.val (dd ys) (if decide (ow = .deep) && decide (o = .deep) then .deep else .top)) (after o u env) = E ys) (k : ∀ zs : List α, zs = xs ++ ys → evSs P N ss (E zs) = r) : evSs P N (.ext s e :: ss) env = r := by
  rw [evSs, evS, h1]
  show (((evE P e env).b _).b _) = _
  rw [h, b_ok]
  show ((if (decide (ow ≠ Own.sh ∧ ow ≠ Own.bor) && decide (o ≠ Own.sh ∧ o ≠ Own.bor) && decide ((xs.map (dd : α → D)).length + (ys.map (dd : α → D)).length ≤ LIM) && !u.contains s) = true then R.ok (Out.nx (setS s (Sl.val (D.node .lst (xs.map dd ++ ys.map dd)) (if decide (ow = Own.deep) && decide (o = Own.deep) then Own.deep else Own.top)) (after o u env))) else R.no).b _) = _
  rw [if_pos (by rw [hu]; simp [hw, ho, hl]), ← List.map_append, b_ok]
  dsimp only
  rw [show (D.node .lst ((xs ++ ys).map dd)) = dd (xs ++ ys) from rfl, he]
  exact k _ rfl
theorem ss_popT {xs : List α} {x : α} {s t : Nat} {ow : Own} (E : α → List α → En) (h1 : env[s]? = some (some (.val (dd xs) ow))) (h : EvF P e env i) (hw : ow ≠ .sh ∧ ow ≠ .bor) (hi : 0 ≤ i ∧ i < 16777216) (hst : s ≠ t) (hx : xs[i.toNat]? = some x)
    (he : ∀ (y : α) (ys : List α), setS t (.val (dd y) (if (dd y).flat then .deep else if ow = .deep then .deep else .sh)) (setS s (.val (dd ys) ow) env) = E y ys) (k : ∀ (y : α) (ys : List α), y = x → ys = xs.eraseIdx i.toNat → evSs P N ss (E y ys) = r) : evSs P N (.popT t s e :: ss) env = r := by
  rw [evSs, evS, h1]
  show (((evE P e env).b _).b _) = _
  rw [h, b_ok]
  show ((if (decide (ow ≠ Own.sh ∧ ow ≠ Own.bor) && decide (0 ≤ i) && decide (i < 16777216) && decide (s ≠ t)) = true then (match (xs.map (dd : α → D))[i.toNat]? with
    | some d => R.ok (Out.nx (setS t (Sl.val d (if d.flat then Own.deep else if ow = Own.deep then Own.deep else Own.sh)) (setS s (Sl.val (D.node .lst ((xs.map dd).eraseIdx i.toNat)) ow) env)))
    | none => R.no) else R.no).b _) = _
  rw [if_pos (by simp [hw, hi, hst]), List.getElem?_map, hx]
  dsimp only [Option.map]
  rw [b_ok]
  dsimp only
  rw [show (xs.map (dd : α → D)).eraseIdx i.toNat = (xs.eraseIdx i.toNat).map dd from map_erase.symm]
  rw [show (D.node .lst ((xs.eraseIdx i.toNat).map dd)) = dd (xs.eraseIdx i.toNat) from rfl, he]
  exact k _ _ rfl rfl
theorem ss_par2 {x : α} {y : β} {s t : Nat} {es : List CE} (E : α → β → En) (h : evEs P es env = .ok ([dd x, dd y], o, u)) (he : ∀ (x : α) (y : β), seqO (decide (o = .deep)) [s, t] [dd x, dd y] (after o u env) = .ok (E x y)) (k : ∀ (x' : α) (y' : β), x' = x → y' = y → evSs P N ss (E x' y') = r) : evSs P N (.par [s, t] es :: ss) env = r := by
  rw [evSs, evS, h, b_ok]
  dsimp only
  rw [he x y, b_ok, b_ok]
  exact k x y rfl rfl
theorem ss_unp2 {x : α} {y : β} {s t : Nat} (E : α → β → En) (h : evE P e env = .ok (dd (x, y), o, u)) (he : ∀ (x : α) (y : β), seqO (decide (o = .deep)) [s, t] [dd x, dd y] (after o u env) = .ok (E x y)) (k : ∀ (x' : α) (y' : β), x' = x → y' = y → evSs P N ss (E x' y') = r) : evSs P N (.unp [s, t] e :: ss) env = r := by
  rw [evSs, evS, h, b_ok]
  show ((seqO (decide (o = .deep)) [s, t] [dd x, dd y] (after o u env)).b _).b _ = _
  rw [he x y, b_ok, b_ok]
  exact k x y rfl rfl
theorem ss_setT {x : α} {s : Nat} (E : α → En) (h : evE P e env = .ok (dd x, .deep, [])) (he : ∀ y : α, setS s (.val (dd y) .top) env = E y) (k : ∀ y : α, y = x → evSs P N ss (E y) = r) : evSs P N (.setT s e :: ss) env = r := by
  rw [evSs, evS, h, b_ok]
  show (R.ok (Out.nx (setS s (.val (dd x) .top) env))).b _ = r
  rw [b_ok]
  dsimp only
  rw [he]
  exact k x rfl
/-- each of a list's own lists gets one thing more -/
theorem appAll_app (dv : D) : ∀ (l m : List (Nat × Nat)) (env : En), appAll dv (l ++ m) env = (appAll dv l env).bind (appAll dv m)
  | [], m, env => rfl
  | s :: l, m, env => by
    rw [List.cons_append, appAll, appAll]
    cases appSpot dv env s with
    | none => rfl
    | some e => exact appAll_app dv l m e
theorem appAll_go {v : α} {j : Nat} (E : List (List α) → En) (hg : ∀ ys, (E ys)[j]? = some (some (.val (dd ys) .deep))) (he : ∀ ys zs, setS j (.val (dd zs) .deep) (E ys) = E zs) : ∀ (post pre : List (List α)), (∀ x ∈ post, x.length < LIM) →
    appAll (dd v) ((List.range' pre.length post.length).map fun k => (j, k)) (E (pre ++ post)) = some (E (pre ++ post.map (· ++ [v])))
  | [], pre, _ => rfl
  | x :: post, pre, hl => by
    rw [List.length_cons, List.range'_succ, List.map_cons, appAll]
    have e1 : appSpot (dd v) (E (pre ++ x :: post)) (j, pre.length) = some (E (pre ++ (x ++ [v]) :: post)) := by
      unfold appSpot
      rw [hg]
      show (match ((pre ++ x :: post).map (dd : List α → D))[pre.length]? with
        | some (.node .lst ys) => if ys.length < LIM then some (setS j (.val (.node .lst (((pre ++ x :: post).map dd).set pre.length (.node .lst (ys ++ [dd v])))) .deep) (E (pre ++ x :: post))) else none
        | _ => none) = _
      have e2 : ((pre ++ x :: post).map (dd : List α → D))[pre.length]? = some (.node .lst (x.map dd)) := by
        rw [List.getElem?_map, List.getElem?_append_right (Nat.le_refl _), Nat.sub_self]; rfl
      rw [e2]
      show (if (x.map (dd : α → D)).length < LIM then _ else _) = _
      rw [if_pos (by rw [List.length_map]; exact hl x (by simp))]
      have e3 : ((pre ++ x :: post).map (dd : List α → D)).set pre.length (.node .lst (x.map dd ++ [dd v])) = (pre ++ (x ++ [v]) :: post).map dd := by
        rw [show (D.node .lst (x.map dd ++ [dd v]) : D) = dd (x ++ [v]) by
          show _ = D.node .lst ((x ++ [v]).map dd)
          rw [List.map_append]; rfl]
        rw [List.map_append, List.map_append, List.set_append_right _ _ (by rw [List.length_map]; exact Nat.le_refl _), List.length_map, Nat.sub_self]; rfl
      rw [e3]
      exact congrArg some (he _ _)
    rw [e1, Option.bind_some]
    have := appAll_go (v := v) E hg he post (pre ++ [x ++ [v]]) fun y hy => hl y (by simp [hy])
    rw [List.length_append, List.length_singleton, List.append_assoc, List.singleton_append, List.append_assoc, List.singleton_append] at this
    exact this
theorem ss_appAll1 {xs : List (List α)} {v : α} {j tg : Nat} (E : List (List α) → En) (hc : constE e = some (dd v)) (h0 : kil [tg] env = E xs) (hg : ∀ ys, (E ys)[j]? = some (some (.val (dd ys) .deep))) (he : ∀ ys zs, setS j (.val (dd zs) .deep) (E ys) = E zs) (ht : tg < env.length) (hx : xs.length ≤ LIM) (hl : ∀ x ∈ xs, x.length < LIM)
    (k : ∀ ys, ys = xs.map (· ++ [v]) → evSs P N ss (E ys) = r) : evSs P N (.appAll [j] tg e :: ss) env = r := by
  rw [evSs, evS, hc]
  dsimp only
  have ln : lenAt (E xs) j = xs.length := by
    unfold lenAt
    rw [hg]
    show (xs.map dd).length = _
    rw [List.length_map]
  have dl : deepL (E xs) j = true := by
    unfold deepL
    rw [hg]
    show (xs.map dd).all _ = true
    rw [List.all_map]
    exact List.all_eq_true.mpr fun _ _ => rfl
  have sp : spots (E xs) [j] = (List.range' 0 xs.length).map fun k => (j, k) := by
    unfold spots
    rw [List.flatMap_cons, List.flatMap_nil, List.append_nil, ln, List.range_eq_range']
  have go := appAll_go (v := v) E hg he xs [] hl
  rw [List.nil_append, List.nil_append, List.length_nil] at go
  rw [h0, sp, go]
  rw [if_pos (by
    simp only [List.all_cons, List.all_nil, dl, Bool.and_true, Bool.true_and, Bool.and_eq_true, decide_eq_true_eq, List.length_map, List.length_range']
    exact ⟨ht, hx⟩)]
  show (R.ok (Out.nx (E (xs.map (· ++ [v]))))).b _ = r
  rw [b_ok]
  exact k _ rfl
theorem ss_appAll2 {xs ys : List (List α)} {v : α} {j j' tg : Nat} (E : List (List α) → List (List α) → En) (hc : constE e = some (dd v)) (h0 : kil [tg] env = E xs ys) (hg : ∀ ys zs, (E ys zs)[j]? = some (some (.val (dd ys) .deep))) (hg' : ∀ ys zs, (E ys zs)[j']? = some (some (.val (dd zs) .deep)))
    (he : ∀ ys zs ws, setS j (.val (dd ws) .deep) (E ys zs) = E ws zs) (he' : ∀ ys zs ws, setS j' (.val (dd ws) .deep) (E ys zs) = E ys ws) (ht : tg < env.length) (hx : xs.length + ys.length ≤ LIM) (hl : ∀ x ∈ xs, x.length < LIM) (hl' : ∀ x ∈ ys, x.length < LIM)
    (k : ∀ zs ws, zs = xs.map (· ++ [v]) → ws = ys.map (· ++ [v]) → evSs P N ss (E zs ws) = r) : evSs P N (.appAll [j, j'] tg e :: ss) env = r := by
  rw [evSs, evS, hc]
  dsimp only
  have ln : lenAt (E xs ys) j = xs.length := by
    unfold lenAt
    rw [hg]
    show (xs.map dd).length = _
    rw [List.length_map]
  have ln' : lenAt (E xs ys) j' = ys.length := by
    unfold lenAt
    rw [hg']
    show (ys.map dd).length = _
    rw [List.length_map]
  have dl : deepL (E xs ys) j = true := by
    unfold deepL
    rw [hg]
    show (xs.map dd).all _ = true
    rw [List.all_map]
    exact List.all_eq_true.mpr fun _ _ => rfl
  have dl' : deepL (E xs ys) j' = true := by
    unfold deepL
    rw [hg']
    show (ys.map dd).all _ = true
    rw [List.all_map]
    exact List.all_eq_true.mpr fun _ _ => rfl
  have sp : spots (E xs ys) [j, j'] = ((List.range' 0 xs.length).map fun k => (j, k)) ++ ((List.range' 0 ys.length).map fun k => (j', k)) := by
    unfold spots
    rw [List.flatMap_cons, List.flatMap_cons, List.flatMap_nil, List.append_nil, ln, ln', List.range_eq_range', List.range_eq_range']
  have go := appAll_go (v := v) (fun xs => E xs ys) (fun zs => hg zs ys) (fun zs ws => he zs ys ws) xs [] hl
  have go' := appAll_go (v := v) (fun ys => E (xs.map (· ++ [v])) ys) (fun zs => hg' _ zs) (fun zs ws => he' _ zs ws) ys [] hl'
  rw [List.nil_append, List.nil_append, List.length_nil] at go go'
  rw [h0, sp, appAll_app, go, Option.bind_some, go']
  rw [if_pos (by
    simp only [List.all_cons, List.all_nil, dl, dl', Bool.and_true, Bool.true_and, Bool.and_eq_true, decide_eq_true_eq, List.length_append, List.length_map, List.length_range']
    exact ⟨ht, hx⟩)]
  show (R.ok (Out.nx (E (xs.map (· ++ [v])) (ys.map (· ++ [v]))))).b _ = r
  rw [b_ok]
  exact k _ _ rfl rfl
/-! loops -/
def bodyF (P : Prog) (N : Nat) (tg : List Nat) (body : List CS) (kl : List Nat) (d : D) (env : En) : R Out := (bindTg tg d env).b fun env => (evSs P N body env).b fun o => .ok (o.kil kl)
theorem bd {tg kl : List Nat} {body : List CS} {d : D} {env1 : En} {o o' : Out} (env2 : En) (h : bindTg tg d env = .ok env1) (h2 : env1 = env2) (hs : evSs P N body env2 = .ok o) (hk : o.kil kl = o') : bodyF P N tg body kl d env = .ok o' := by
  subst h2
  unfold bodyF
  rw [h, b_ok, hs, b_ok, hk]
/-- .. that goes on -/
theorem bdn {tg kl : List Nat} {body : List CS} {d : D} {env1 env4 : En} (env2 env3 : En) (h : bindTg tg d env = .ok env1) (h2 : env1 = env2) (hs : evSs P N body env2 = .ok (.nx env3)) (hk : kil kl env3 = env4) : bodyF P N tg body kl d env = .ok (.nx env4) := bd env2 h h2 hs (by rw [← hk]; rfl)
variable {ι : Type} {xs : List ι} {t : ι → D} {ik : IK} {tg w kl : List Nat} {body : List CS}
theorem dem_app (u u' : List Nat) (env : En) : dem u' (dem u env) = dem (u ++ u') env := by
  unfold dem
  cases u with
  | nil => rfl
  | cons x u =>
    cases u' with
    | nil => simp
    | cons y u' =>
      simp only [List.isEmpty_cons, Bool.false_eq_true, if_false, List.cons_append]
      have : ∀ (env : En) (n : Nat), demF (y :: u') n (demF (x :: u) n env) = demF (x :: (u ++ y :: u')) n env := by
        intro env
        induction env with
        | nil => intro n; rfl
        | cons s env ih =>
          intro n
          simp only [demF, ih (n + 1)]
          congr 1
          cases s with
          | none => rfl
          | some s =>
            cases s with
            | al j p => rfl
            | val d o =>
              simp only
              by_cases h1 : (x :: u).contains n = true
              · simp only [h1, if_true]
                have : (x :: (u ++ y :: u')).contains n = true := by
                  rw [show x :: (u ++ y :: u') = (x :: u) ++ y :: u' from rfl]
                  simp only [List.contains_eq_mem, List.mem_append, decide_eq_true_eq] at h1 ⊢
                  exact .inl h1
                simp only [this, if_true]
                cases o <;> split <;> rfl
              · simp only [Bool.not_eq_true] at h1
                simp only [h1, Bool.false_eq_true, if_false]
                have : (x :: (u ++ y :: u')).contains n = (y :: u').contains n := by
                  rw [show x :: (u ++ y :: u') = (x :: u) ++ y :: u' from rfl]
                  rw [Bool.eq_iff_iff]
                  simp only [List.contains_eq_mem, List.mem_append, decide_eq_true_eq, decide_eq_false_iff_not] at h1 ⊢
                  exact ⟨fun z => z.elim (fun z => absurd z h1) id, .inr⟩
                rw [this]
      exact this env 0
/-- what is shared is shared -/
def shB (us : List Nat) : Nat → En → Bool
  | _, [] => true
  | n, s :: r => (match s with
    | some (.val _ o) => decide (o = .sh) || decide (o = .bor) || !us.contains n
    | _ => true) && shB us (n + 1) r
theorem dem_stay {us u : List Nat} {env : En} (h : shB us 0 env = true) (hu : ∀ i ∈ u, i ∈ us) : dem u env = env := by
  unfold dem
  split
  · rfl
  · have key : ∀ (env : En) (n : Nat), shB us n env = true → demF u n env = env := by
      intro env
      induction env with
      | nil => intro n _; rfl
      | cons s env ih =>
        intro n h
        cases s with
        | none =>
          have h2 : shB us (n + 1) env = true := (Bool.and_eq_true_iff.mp h).2
          show none :: demF u (n + 1) env = _
          rw [ih _ h2]
        | some s =>
          cases s with
          | al j p =>
            have h2 : shB us (n + 1) env = true := (Bool.and_eq_true_iff.mp h).2
            show some (Sl.al j p) :: demF u (n + 1) env = _
            rw [ih _ h2]
          | val d o =>
            obtain ⟨h1, h2⟩ := Bool.and_eq_true_iff.mp h
            have h1 : (decide (o = .sh) || decide (o = .bor) || !us.contains n) = true := h1
            show (if u.contains n then some (Sl.val d o.dm) else some (Sl.val d o)) :: demF u (n + 1) env = _
            rw [ih _ h2]
            congr 1
            split
            · rename_i hn
              simp only [Bool.or_eq_true, decide_eq_true_eq, Bool.not_eq_true'] at h1
              rcases h1 with (rfl | rfl) | h1
              · rfl
              · rfl
              · rw [List.contains_iff_mem.mpr (hu n (List.contains_iff_mem.mp hn))] at h1
                cases h1
            · rfl
    exact key env 0 h
theorem ss_for (env1 : En) {env2 : En} (hi : Its P env ik a b xs t w) (hd : dem w env = env1) (hl : forL (bodyF P N tg body kl) (xs.map t) env1 = .ok (.nx env2)) (k : evSs P N ss env2 = r) : evSs P N (.for_ tg ik a b body kl :: ss) env = r := by
  obtain ⟨x, o, u, y, o', u', h1, h2, h3, h4⟩ := hi
  rw [evSs, evS, h1, b_ok, h2, b_ok, h3, b_ok]
  show ((forL (bodyF P N tg body kl) (xs.map t) (dem u' (dem u env))).b _) = _
  rw [dem_app, h4, hd, hl, b_ok]
  exact k
theorem ss_forR (env1 : En) {d : D} {fr : Bool} (hi : Its P env ik a b xs t w) (hd : dem w env = env1) (hl : forL (bodyF P N tg body kl) (xs.map t) env1 = .ok (.rt d fr)) : evSs P N (.for_ tg ik a b body kl :: ss) env = .ok (.rt d fr) := by
  obtain ⟨x, o, u, y, o', u', h1, h2, h3, h4⟩ := hi
  rw [evSs, evS, h1, b_ok, h2, b_ok, h3, b_ok]
  show ((forL (bodyF P N tg body kl) (xs.map t) (dem u' (dem u env))).b _) = _
  rw [dem_app, h4, hd, hl, b_ok]
/-- a loop that keeps a state -/
theorem for_st {σ : Type} {f : D → En → R Out} (E : σ → En) (g : σ → ι → σ) (I : σ → Prop) : ∀ (xs : List ι) (s : σ), I s → (∀ s, I s → ∀ x ∈ xs, f (t x) (E s) = .ok (.nx (E (g s x))) ∧ I (g s x)) → forL f (xs.map t) (E s) = .ok (.nx (E (xs.foldl g s))) ∧ I (xs.foldl g s)
  | [], s, h0, _ => ⟨rfl, h0⟩
  | x :: xs, s, h0, h => by
    obtain ⟨h1, h2⟩ := h s h0 x (by simp)
    rw [List.map_cons, forL, h1, b_ok]
    exact for_st E g I xs (g s x) h2 fun s hs y hy => h s hs y (by simp [hy])
/-- .. that puts one thing more to a list -/
theorem for_app {β : Type} {f : D → En → R Out} (E : List β → En) (g : ι → β) (n : Nat) : ∀ (xs : List ι) (acc : List β), acc.length + xs.length ≤ n → (∀ acc : List β, acc.length < n → ∀ x ∈ xs, f (t x) (E acc) = .ok (.nx (E (acc ++ [g x])))) → forL f (xs.map t) (E acc) = .ok (.nx (E (acc ++ xs.map g)))
  | [], acc, _, _ => by rw [List.map_nil, List.map_nil, List.append_nil, forL]
  | x :: xs, acc, hl, h => by
    rw [List.length_cons] at hl
    rw [List.map_cons, forL, h acc (by omega) x (by simp), b_ok]
    have := for_app E g n xs (acc ++ [g x]) (by rw [List.length_append, List.length_singleton]; omega) fun a ha y hy => h a ha y (by simp [hy])
    rw [show acc ++ (x :: xs).map g = acc ++ [g x] ++ xs.map g by simp]
    exact this
/-- .. that may end with a told thing, or keep all as it is -/
theorem for_rt {f : D → En → R Out} {env : En} {q : ι → Bool} {d : D} {fr : Bool} : ∀ xs : List ι, (∀ x ∈ xs, f (t x) env = if q x then .ok (.rt d fr) else .ok (.nx env)) → forL f (xs.map t) env = if xs.any q then .ok (.rt d fr) else .ok (.nx env)
  | [], _ => rfl
  | x :: xs, h => by
    have h1 := h x (by simp)
    rw [List.map_cons, forL, h1, List.any_cons]
    cases q x with
    | true => rfl
    | false =>
      rw [if_neg (by simp), b_ok]
      exact for_rt xs fun y hy => h y (by simp [hy])
theorem for_stay {f : D → En → R Out} {env : En} (xs : List ι) (h : ∀ x ∈ xs, f (t x) env = .ok (.nx env)) : forL f (xs.map t) env = .ok (.nx env) := by
  have := for_rt (t := t) (f := f) (env := env) (q := fun _ => false) (d := .non) (fr := true) xs fun x hx => h x hx
  rw [this, show (xs.any fun _ => false) = false by simp]; rfl
/-! ### a walk that leaves the slots alone -/
def bodyB (P : Prog) (N : Nat) (tg : List Nat) (body : List CS) (e0 : En) (d : D) : R Out := (bindTg tg d e0).b fun env => evSs P N body env
theorem ss_forB (env0 : En) {env2 : En} (hi : Its P env ik a b xs t w) (h0 : (kil kl env).map borF = env0) (hl : forB (bodyB P N tg body env0) env0 (xs.map t) = .ok none) (h2 : (kil kl env).map noF = env2) (k : evSs P N ss env2 = r) : evSs P N (.forB tg ik a b body kl :: ss) env = r := by
  obtain ⟨x, o, u, y, o', u', h1, h3, h4, h5⟩ := hi
  rw [evSs, evS, h1, b_ok, h3, b_ok, h4, b_ok, h0, h2]
  show (((forB (bodyB P N tg body env0) env0 (xs.map t)).b _).b _) = _
  rw [hl, b_ok]
  exact k
theorem forB_stay {f : D → R Out} {e0 : En} : ∀ (xs : List ι), (∀ x ∈ xs, ∃ e, f (t x) = .ok (.nx e) ∧ okB e0 e = true) → forB f e0 (xs.map t) = .ok none
  | [], _ => rfl
  | x :: xs, h => by
    obtain ⟨e, h1, h2⟩ := h x (by simp)
    rw [List.map_cons, forB, h1, b_ok]
    dsimp only
    rw [if_pos h2]
    exact forB_stay xs fun y hy => h y (by simp [hy])
theorem bdB {tg : List Nat} {body : List CS} {d : D} {e0 env1 : En} (env2 env3 : En) (h : bindTg tg d e0 = .ok env1) (h2 : env1 = env2) (hs : evSs P N body env2 = .ok (.nx env3)) (hk : okB e0 env3 = true) : ∃ e, bodyB P N tg body e0 d = .ok (.nx e) ∧ okB e0 e = true := by
  refine ⟨env3, ?_, hk⟩
  show (bindTg tg d e0).b _ = _
  rw [h, b_ok, h2, hs]
end
end FR

namespace FR
open PySem
open Da (dd)
/-! ### answers: their data, the rules of walking -/
inductive Ans where
  | wi (s : List Int) | ba (c : List Int) | tu (t : List (List Int)) | un (i : Int) | al (b : List (List Int)) (o : List Int)
def Ans.c : Ans → Nat
  | .wi _ => 11
  | .ba _ => 12
  | .tu _ => 13
  | .un _ => 14
  | .al _ _ => 15
def Ans.fd : Ans → List D
  | .wi s => [dd s]
  | .ba s => [dd s]
  | .tu s => [dd s]
  | .un s => [dd s]
  | .al b o => [dd b, dd o]
@[reducible] instance : Da Ans := ⟨fun a => .node (.ins a.c) a.fd⟩
instance : Nf Ans := ⟨fun _ => rfl⟩
section
variable {P : Prog} {env : En} {a : CE} {es : List CE} {o o' : Own} {u u' : List Nat} {ds : List D}
theorem e_new {c : Nat} {xs : List D} (h : evEs P es env = .ok (ds, o, u)) (hi : P.ini c ds = .ok xs) : evE P (.new c es) env = .ok (.node (.ins c) xs, .deep, []) := by
  rw [evE, h]
  show ((P.ini c ds).nx.b _) = _
  rw [hi]; rfl
theorem e_newa (x : Ans) (h : evEs P es env = .ok (ds, o, u)) (hi : P.ini x.c ds = .ok x.fd) : evE P (.new x.c es) env = .ok (dd x, .deep, []) := e_new h hi
theorem e_nwi {s : List Int} (h : evEs P es env = .ok (ds, o, u)) (hi : P.ini 11 ds = .ok [dd s]) : evE P (.new 11 es) env = .ok (dd (Ans.wi s), .deep, []) := e_new h hi
theorem e_nba {s : List Int} (h : evEs P es env = .ok (ds, o, u)) (hi : P.ini 12 ds = .ok [dd s]) : evE P (.new 12 es) env = .ok (dd (Ans.ba s), .deep, []) := e_new h hi
theorem e_ntu {s : List (List Int)} (h : evEs P es env = .ok (ds, o, u)) (hi : P.ini 13 ds = .ok [dd s]) : evE P (.new 13 es) env = .ok (dd (Ans.tu s), .deep, []) := e_new h hi
theorem e_nun {s : Int} (h : evEs P es env = .ok (ds, o, u)) (hi : P.ini 14 ds = .ok [dd s]) : evE P (.new 14 es) env = .ok (dd (Ans.un s), .deep, []) := e_new h hi
theorem e_nal {b : List (List Int)} {r : List Int} (h : evEs P es env = .ok (ds, o, u)) (hi : P.ini 15 ds = .ok [dd b, dd r]) : evE P (.new 15 es) env = .ok (dd (Ans.al b r), .deep, []) := e_new h hi
theorem e_attr {c f : Nat} {xs : List D} {d : D} (h : evE P a env = .ok (.node (.ins c) xs, o, u)) (hf : ((fldK c f).bind fun k => xs[k]?) = some d) : evE P (.attr a f) env = .ok (fin d .sh u) := by
  rw [evE, h, b_ok]
  show (R.of ((fldK c f).bind fun k => xs[k]?)).b _ = _
  rw [hf]; rfl
theorem e_shares {s : List Int} (h : evE P a env = .ok (dd (Ans.wi s), o, u)) : evE P (.attr a 0) env = .ok (dd s, .sh, u) := e_attr (c := 11) (f := 0) (d := dd s) h rfl
theorem e_cross {s : List Int} (h : evE P a env = .ok (dd (Ans.ba s), o, u)) : evE P (.attr a 1) env = .ok (dd s, .sh, u) := e_attr (c := 12) (f := 1) (d := dd s) h rfl
theorem e_table {s : List (List Int)} (h : evE P a env = .ok (dd (Ans.tu s), o, u)) : evE P (.attr a 2) env = .ok (dd s, .sh, u) := e_attr (c := 13) (f := 2) (d := dd s) h rfl
theorem e_at {s : Int} (h : evE P a env = .ok (dd (Ans.un s), o, u)) : evE P (.attr a 3) env = .ok (dd s, .deep, []) := e_attr (c := 14) (f := 3) (d := dd s) h rfl
theorem e_base {b : List (List Int)} {r : List Int} (h : evE P a env = .ok (dd (Ans.al b r), o, u)) : evE P (.attr a 4) env = .ok (dd b, .sh, u) := e_attr (c := 15) (f := 4) (d := dd b) h rfl
theorem e_order {b : List (List Int)} {r : List Int} (h : evE P a env = .ok (dd (Ans.al b r), o, u)) : evE P (.attr a 5) env = .ok (dd r, .sh, u) := e_attr (c := 15) (f := 5) (d := dd r) h rfl
theorem e_meth {β : Type} [Da β] [Fl β] {x : Ans} {r : β} {fr : Bool} (h : evE P a env = .ok (dd x, o, u)) (hs : evEs P es env = .ok (ds, o', u')) (hf : P.fn (methT x.c) (dd x :: ds) = .ok (dd r, fr)) : evE P (.meth 0 a es) env = .ok (dd r, .deep, []) := by
  rw [evE, h, b_ok]
  show (if 0 = 0 then (evEs P es env).b _ else _) = _
  rw [if_pos rfl, hs, b_ok]
  show (P.fn (methT x.c) (dd x :: ds)).b _ = _
  rw [hf, b_ok]
  simp [fin, Fl.fl]
theorem e_isc {x : Ans} {c : Nat} (h : evE P a env = .ok (dd x, o, u)) : evE P (.isin a (.cls c)) env = .ok (dd (subT x.c c), .deep, []) := e_isin h rfl
end
/-! ### made -/
theorem ini_rt {fs : List FI} {c np nn N d : Nat} {b : List CS} {l : List (Nat × CE)} {args xs : List D} (h : HasF fs (iniT c) np nn b) (hl : args.length + 1 = np) (hb : iniB b = some l)
    (hx : iniL noP c (none :: args.map (fun d => some (.val d (if d.flat then .deep else .sh))) ++ List.replicate (nn - args.length - 1) none) l [] = .ok xs) : (pgOf fs N (d + 2)).ini c args = .ok xs := by
  obtain ⟨f, h1, h2, h3, h4⟩ := h.h
  show (match fs[iniT c]? with | some f => tabIni noP c f args | none => .no) = _
  rw [h1]
  show tabIni noP c f args = _
  unfold tabIni
  rw [if_pos (by rw [h2]; exact hl)]
  unfold evIni
  rw [h3, h4, hb]
  exact hx
theorem il_cons {P : Prog} {c f : Nat} {env : En} {e : CE} {r : List (Nat × CE)} {acc : List D} {d : D} {xs : List D} (hf : (fldT c)[acc.length]? = some f) (he : evE P e env = .ok (d, .deep, [])) (h : iniL P c env r (acc ++ [d]) = .ok xs) : iniL P c env ((f, e) :: r) acc = .ok xs := by
  rw [iniL_cons, if_pos (by simpa using hf), he]
  exact h
section
variable {fs : List FI} {N d : Nat}
theorem within_sp [hf : H_Within___init__ fs] {s : List Int} : (pgOf fs N (d + 2)).ini 11 [dd s] = .ok [dd s] :=
  ini_rt (c := 11) hf rfl rfl (il_cons rfl (e_listf (e_vn (x := s) (i := 1) rfl)) rfl)
theorem barred_sp [hf : H_Barred___init__ fs] {s : List Int} : (pgOf fs N (d + 2)).ini 12 [dd s] = .ok [dd s] :=
  ini_rt (c := 12) hf rfl rfl (il_cons rfl (e_listf (e_vn (x := s) (i := 1) rfl)) rfl)
theorem turned_sp [hf : H_Turned___init__ fs] {t : List (List Int)} (hl : t.length ≤ LIM) : (pgOf fs N (d + 2)).ini 13 [dd t] = .ok [dd t] := by
  refine ini_rt (c := 13) hf rfl rfl (il_cons rfl (e_lc (g := id) (it_lst (e_vn (x := t) (i := 1) rfl)) hl fun z hz => el_k [none, sv t, sv z] rfl rfl (e_listf (e_vn (x := z) rfl))) ?_)
  rw [List.map_id]; rfl
theorem unlike_sp [hf : H_Unlike___init__ fs] {i : Int} : (pgOf fs N (d + 2)).ini 14 [dd i] = .ok [dd i] :=
  ini_rt (c := 14) hf rfl rfl (il_cons rfl (e_vf (x := i) (i := 1) rfl) rfl)
theorem along_sp [hf : H_Along___init__ fs] {b : List (List Int)} {r : List Int} (hl : b.length ≤ LIM) : (pgOf fs N (d + 2)).ini 15 [dd b, dd r] = .ok [dd b, dd r] := by
  refine ini_rt (c := 15) hf rfl rfl (il_cons rfl (e_lc (g := id) (it_lst (e_vn (x := b) (i := 1) rfl)) hl fun z hz => el_k [none, sv b, sv r, sv z] rfl rfl (e_listf (e_vn (x := z) rfl))) (il_cons ?_ (e_listf (e_vn (x := r) (i := 2) rfl)) ?_))
  · rfl
  · rw [List.map_id]; rfl
end
end FR
namespace FR
open PySem
open Da (dd)
section
variable {P : Prog} {N : Nat} {env : En} {ι : Type} {xs : List ι} {t : ι → D} {ik : IK} {tg w kl : List Nat} {body ss A : List CS} {a b c : CE} {r : R Out} {d : D} {fr : Bool}
/-- a loop that may end the def with one told thing, or keeps all as it is -/
theorem ss_forq (env1 : En) (q : ι → Bool) (hi : Its P env ik a b xs t w) (hd : dem w env = env1) (hb : ∀ x ∈ xs, bodyF P N tg body kl (t x) env1 = if q x then .ok (.rt d fr) else .ok (.nx env1))
    (hr : xs.any q = true → .ok (.rt d fr) = r) (k : xs.any q = false → evSs P N ss env1 = r) : evSs P N (.for_ tg ik a b body kl :: ss) env = r := by
  have hl := for_rt (f := bodyF P N tg body kl) (q := q) (d := d) (fr := fr) xs hb
  cases e : xs.any q with
  | true =>
    rw [e, if_pos rfl] at hl
    rw [ss_forR env1 hi hd hl]
    exact hr e
  | false =>
    rw [e, if_neg (by simp)] at hl
    exact ss_for env1 hi hd hl (k e)
theorem bdq {d0 : D} {env0 env1 env4 : En} {q : Bool} (env2 env3 : En) (h : bindTg tg d0 env0 = .ok env1) (h2 : env1 = env2) (hs : evSs P N body env2 = if q then .ok (.rt d fr) else .ok (.nx env3)) (hk : kil kl env3 = env4) : bodyF P N tg body kl d0 env0 = if q then .ok (.rt d fr) else .ok (.nx env4) := by
  subst h2
  cases q with
  | true => exact bd _ h rfl (by simpa using hs) rfl
  | false => exact bdn _ env3 h rfl (by simpa using hs) hk
theorem ss_ifr {x : Bool} (h : EvF P c env x) (ht : evSs P N A env = .ok (.rt d fr)) (k : x = false → evSs P N ss env = r) : evSs P N (.if_ c A [] :: ss) env = if x then .ok (.rt d fr) else r := by
  cases x with
  | true =>
    rw [evSs, evS, h, b_ok]
    show (evSs P N A env).b _ = _
    rw [ht]; rfl
  | false =>
    refine ss_iff h rfl ?_
    rw [if_neg (by simp)]
    exact k rfl
theorem ifif {α : Type} {x y : Bool} {u v : α} : (if x then u else if y then u else v) = if x || y then u else v := by cases x <;> rfl
theorem ss_setx {α : Type} [Da α] {x : α} {s : Nat} {e : CE} {o : Own} {u : List Nat} {env' : En} (h : evE P e env = .ok (dd x, o, u)) (hx : stoA s (dd x) o u env = env') (k : evSs P N ss env' = r) : evSs P N (.set s e :: ss) env = r := by
  rw [evSs, evS, h, b_ok, b_ok]
  dsimp only
  rw [hx]
  exact k
/-- a new list kept: what it leans on is shared already -/
theorem sto_new {s : Nat} {d : D} {q : Bool} {u us : List Nat} {env env' : En} (h1 : shB us 0 env = true) (h2 : ∀ i ∈ u, i ∈ us) (h3 : setS s (.val d (if q then .deep else .top)) env = env') : stoA s d (if q then .deep else .top) (if q then [] else u) env = env' := by
  unfold stoA
  cases q with
  | true => exact h3
  | false =>
    show setS s (.val d .top) (dem u env) = _
    rw [dem_stay h1 h2]; exact h3
def optR (fr : Bool) (e : R Out) : Option D → R Out
  | some d => .ok (.rt d fr)
  | none => e
theorem for_find {f : D → En → R Out} {q : ι → Option D} : ∀ xs : List ι, (∀ x ∈ xs, f (t x) env = optR fr (.ok (.nx env)) (q x)) → forL f (xs.map t) env = optR fr (.ok (.nx env)) (xs.findSome? q)
  | [], _ => rfl
  | x :: xs, h => by
    have h1 := h x (by simp)
    rw [List.map_cons, forL, h1, List.findSome?_cons]
    cases q x with
    | some d => rfl
    | none =>
      show (R.ok (Out.nx env)).b _ = _
      rw [b_ok]
      exact for_find xs fun y hy => h y (by simp [hy])
/-- a loop that may end the def with a thing told by the item -/
theorem ss_forf (env1 : En) (q : ι → Option D) (hi : Its P env ik a b xs t w) (hd : dem w env = env1) (hb : ∀ x ∈ xs, bodyF P N tg body kl (t x) env1 = optR fr (.ok (.nx env1)) (q x))
    (hr : ∀ d, xs.findSome? q = some d → .ok (.rt d fr) = r) (k : xs.findSome? q = none → evSs P N ss env1 = r) : evSs P N (.for_ tg ik a b body kl :: ss) env = r := by
  have hl := for_find (f := bodyF P N tg body kl) (q := q) (fr := fr) xs hb
  cases e : xs.findSome? q with
  | some d =>
    rw [e] at hl
    rw [ss_forR env1 hi hd hl]
    exact hr d e
  | none =>
    rw [e] at hl
    exact ss_for env1 hi hd hl (k e)
theorem bdf {d0 : D} {env0 env1 env4 : En} {q : Option D} (env2 env3 : En) (h : bindTg tg d0 env0 = .ok env1) (h2 : env1 = env2) (hs : evSs P N body env2 = optR fr (.ok (.nx env3)) q) (hk : kil kl env3 = env4) : bodyF P N tg body kl d0 env0 = optR fr (.ok (.nx env4)) q := by
  subst h2
  cases q with
  | some d => exact bd _ h rfl hs rfl
  | none => exact bdn _ env3 h rfl hs hk
/-- a turn that goes on, its last slots told behind -/
theorem bdne {d0 : D} {env0 env1 env4 : En} (env2 : En) (h : bindTg tg d0 env0 = .ok env1) (h2 : env1 = env2) (hs : ∃ env3, evSs P N body env2 = .ok (.nx env3) ∧ kil kl env3 = env4) : bodyF P N tg body kl d0 env0 = .ok (.nx env4) := by
  obtain ⟨env3, h3, h4⟩ := hs
  exact bdn env2 env3 h h2 h3 h4
end
end FR

namespace LA
/-! ### spans over a field, leading places, widths -/
section
variable {F : Type} [Lean.Grind.Field F]
abbrev V (F : Type) := Nat → F
def Sp : List (V F) → V F → Prop
  | [], v => ∀ i, v i = 0
  | r :: rs, v => ∃ c : F, Sp rs (fun i => v i + c * r i)
structure Sbs (U : V F → Prop) : Prop where
  z : U (fun _ => 0)
  lin : ∀ {u v : V F} (a b : F), U u → U v → U (fun i => a * u i + b * v i)
theorem Sbs.of {U : V F → Prop} (h : Sbs U) {u v w : V F} (a b : F) (hu : U u) (hv : U v) (e : ∀ i, w i = a * u i + b * v i) : U w := by
  have := h.lin a b hu hv
  rwa [show w = fun i => a * u i + b * v i from funext e]
theorem Sbs.sm {U : V F → Prop} (h : Sbs U) {u w : V F} (a : F) (hu : U u) (e : ∀ i, w i = a * u i) : U w :=
  h.of a 0 hu h.z fun i => by rw [e i]; grind
theorem Sp.congr {rs : List (V F)} {u v : V F} (h : Sp rs u) (e : ∀ i, v i = u i) : Sp rs v := by
  rwa [show v = u from funext e]
theorem Sp.z : ∀ rs : List (V F), Sp rs (fun _ => 0)
  | [] => fun _ => rfl
  | r :: rs => ⟨0, (Sp.z rs).congr fun i => by grind⟩
theorem Sp.lin : ∀ {rs : List (V F)} {u v : V F} (a b : F), Sp rs u → Sp rs v → Sp rs (fun i => a * u i + b * v i)
  | [], u, v, a, b, hu, hv => fun i => by
    show a * u i + b * v i = 0
    rw [hu i, hv i]; grind
  | r :: rs, u, v, a, b, ⟨c, hu⟩, ⟨d, hv⟩ => ⟨a * c + b * d, (Sp.lin a b hu hv).congr fun i => by grind⟩
theorem Sp.sbs (rs : List (V F)) : Sbs (Sp rs) := ⟨Sp.z rs, Sp.lin⟩
theorem Sp.cons {r : V F} {rs : List (V F)} {v : V F} (h : Sp rs v) : Sp (r :: rs) v := ⟨0, h.congr fun i => by grind⟩
theorem Sp.head {r : V F} {rs : List (V F)} : Sp (r :: rs) r := ⟨-1, (Sp.z rs).congr fun i => by grind⟩
theorem Sp.mem {r : V F} : ∀ {rs : List (V F)}, r ∈ rs → Sp rs r
  | s :: rs, h => by
    rcases List.mem_cons.mp h with rfl | h
    · exact Sp.head
    · exact (Sp.mem h).cons
theorem Sp.sub {U : V F → Prop} (hU : Sbs U) : ∀ {rs : List (V F)} {v : V F}, (∀ r ∈ rs, U r) → Sp rs v → U v
  | [], v, _, hv => by rw [show v = fun _ => 0 from funext hv]; exact hU.z
  | r :: rs, v, h, ⟨c, hv⟩ => hU.of 1 (-c) (Sp.sub hU (fun s hs => h s (by simp [hs])) hv) (h r (by simp)) fun i => by grind
theorem Sp.mono {rs ss : List (V F)} {v : V F} (h : ∀ r ∈ rs, r ∈ ss) (hv : Sp rs v) : Sp ss v := Sp.sub (Sp.sbs ss) (fun r hr => Sp.mem (h r hr)) hv
theorem Sp.trans {rs ss : List (V F)} {v : V F} (h : ∀ r ∈ rs, Sp ss r) (hv : Sp rs v) : Sp ss v := Sp.sub (Sp.sbs ss) h hv
/-- one span -/
def Same (rs ss : List (V F)) : Prop := ∀ v, Sp rs v ↔ Sp ss v
theorem Same.of {rs ss : List (V F)} (h : ∀ r ∈ rs, Sp ss r) (h' : ∀ s ∈ ss, Sp rs s) : Same rs ss := fun v => ⟨Sp.trans h, Sp.trans h'⟩
theorem Same.rfl {rs : List (V F)} : Same rs rs := fun _ => Iff.rfl
theorem Same.symm {rs ss : List (V F)} (h : Same rs ss) : Same ss rs := fun v => (h v).symm
theorem Same.trans {rs ss ts : List (V F)} (h : Same rs ss) (h' : Same ss ts) : Same rs ts := fun v => (h v).trans (h' v)
theorem Same.perm {rs ss : List (V F)} (h : ∀ r, r ∈ rs ↔ r ∈ ss) : Same rs ss := Same.of (fun r hr => Sp.mem ((h r).mp hr)) fun r hr => Sp.mem ((h r).mpr hr)
theorem Sp.app {rs ss : List (V F)} {v : V F} : Sp (rs ++ ss) v ↔ ∃ u w, Sp rs u ∧ Sp ss w ∧ ∀ i, v i = u i + w i := by
  constructor
  · intro h
    have hU : Sbs (fun v : V F => ∃ u w, Sp rs u ∧ Sp ss w ∧ ∀ i, v i = u i + w i) := by
      refine ⟨⟨_, _, Sp.z rs, Sp.z ss, fun i => by grind⟩, ?_⟩
      rintro x y a b ⟨u, w, h1, h2, h3⟩ ⟨u', w', h1', h2', h3'⟩
      exact ⟨_, _, Sp.lin a b h1 h1', Sp.lin a b h2 h2', fun i => by
        show a * x i + b * y i = _
        rw [h3, h3']; grind⟩
    refine Sp.sub hU (fun r hr => ?_) h
    rcases List.mem_append.mp hr with hr | hr
    · exact ⟨r, _, Sp.mem hr, Sp.z ss, fun i => by grind⟩
    · exact ⟨_, r, Sp.z rs, Sp.mem hr, fun i => by grind⟩
  · rintro ⟨u, w, h1, h2, h3⟩
    exact (Sp.sbs (rs ++ ss)).of 1 1 (h1.mono fun r hr => by simp [hr]) (h2.mono fun r hr => by simp [hr]) fun i => by rw [h3]; grind
theorem Same.app {rs ss rs' ss' : List (V F)} (h : Same rs rs') (h' : Same ss ss') : Same (rs ++ ss) (rs' ++ ss') := fun v => by
  rw [Sp.app, Sp.app]
  constructor
  · rintro ⟨u, w, h1, h2, h3⟩
    exact ⟨u, w, (h u).mp h1, (h' w).mp h2, h3⟩
  · rintro ⟨u, w, h1, h2, h3⟩
    exact ⟨u, w, (h u).mpr h1, (h' w).mpr h2, h3⟩
/-! leading places -/
def Lead (U : V F → Prop) (k : Nat) : Prop := ∃ v, U v ∧ (∀ i < k, v i = 0) ∧ v k ≠ 0
def Su (n : Nat) (U : V F → Prop) : Prop := ∀ v, U v → ∀ i, n ≤ i → v i = 0
theorem Su.sp {n : Nat} {rs : List (V F)} (h : ∀ r ∈ rs, ∀ i, n ≤ i → r i = 0) : Su n (Sp rs) := fun v hv => by
  have hU : Sbs (fun v : V F => ∀ i, n ≤ i → v i = 0) := ⟨fun _ _ => by rfl, fun {u v} a b hu hv i hi => by
    show a * u i + b * v i = 0
    rw [hu i hi, hv i hi]; grind⟩
  exact Sp.sub hU h hv
open Classical
noncomputable def wd (n : Nat) (U : V F → Prop) : Nat := ((List.range n).filter fun k => decide (Lead U k)).length
theorem wd_mono {n : Nat} {U W : V F → Prop} (h : ∀ v, U v → W v) : wd n U ≤ wd n W := by
  unfold wd
  rw [← List.countP_eq_length_filter, ← List.countP_eq_length_filter]
  apply List.countP_mono_left
  intro k _ hk
  obtain ⟨v, h1, h2, h3⟩ := of_decide_eq_true hk
  exact decide_eq_true ⟨v, h v h1, h2, h3⟩
theorem wd_same {n : Nat} {U W : V F → Prop} (h : ∀ v, U v ↔ W v) : wd n U = wd n W := Nat.le_antisymm (wd_mono fun v => (h v).mp) (wd_mono fun v => (h v).mpr)
theorem wd_le {n : Nat} {U : V F → Prop} : wd n U ≤ n := by
  unfold wd
  have := List.length_filter_le (fun k => decide (Lead U k)) (List.range n)
  simpa using this
theorem count_eq {p q : Nat → Bool} : ∀ {l : List Nat}, (∀ k ∈ l, p k = true → q k = true) → (l.filter q).length ≤ (l.filter p).length → ∀ k ∈ l, q k = true → p k = true
  | x :: l, h, hl, k, hk, hq => by
    have ih := count_eq (p := p) (q := q) (l := l) (fun k hk => h k (by simp [hk]))
    have le : (l.filter p).length ≤ (l.filter q).length := by
      rw [← List.countP_eq_length_filter, ← List.countP_eq_length_filter]
      exact List.countP_mono_left fun k hk => h k (by simp [hk])
    have hx := h x (by simp)
    rw [List.filter_cons, List.filter_cons] at hl
    cases e1 : p x with
    | true =>
      rw [e1, hx e1] at hl
      simp only [if_true, List.length_cons] at hl
      rcases List.mem_cons.mp hk with rfl | hk
      · exact e1
      · exact ih (by omega) k hk hq
    | false =>
      cases e2 : q x with
      | true =>
        rw [e1, e2] at hl
        simp at hl
        omega
      | false =>
        rw [e1, e2] at hl
        simp at hl
        rcases List.mem_cons.mp hk with rfl | hk
        · rw [e2] at hq; cases hq
        · exact ih hl k hk hq
/-- inside, and no less wide: the same -/
theorem eq_of_wd {n : Nat} {U W : V F → Prop} (hU : Sbs U) (hW : Sbs W) (sW : Su n W) (h : ∀ v, U v → W v) (hd : wd n W ≤ wd n U) : ∀ v, W v → U v := by
  have lead : ∀ k < n, Lead W k → Lead U k := fun k hk hl => by
    unfold wd at hd
    have := count_eq (l := List.range n) (fun k _ hk => by
      obtain ⟨v, h1, h2, h3⟩ := of_decide_eq_true hk
      exact decide_eq_true ⟨v, h v h1, h2, h3⟩) hd k (by simpa using hk) (decide_eq_true hl)
    exact of_decide_eq_true this
  have main : ∀ m, m ≤ n → ∀ w, W w → (∀ i < n - m, w i = 0) → U w := by
    intro m
    induction m with
    | zero =>
      intro _ w hw h0
      rw [show w = fun _ => 0 from funext fun i => by
        by_cases hi : i < n
        · exact h0 i (by omega)
        · exact sW w hw i (by omega)]
      exact hU.z
    | succ m ih =>
      intro hm w hw h0
      by_cases hz : w (n - (m + 1)) = 0
      · exact ih (by omega) w hw fun i hi => by
          by_cases e : i = n - (m + 1)
          · rw [e]; exact hz
          · exact h0 i (by omega)
      · obtain ⟨u, h1, h2, h3⟩ := lead (n - (m + 1)) (by omega) ⟨w, hw, h0, hz⟩
        have h4 : U (fun i => w i + (-(w (n - (m + 1)) / u (n - (m + 1)))) * u i) := by
          refine ih (by omega) _ (hW.of 1 (-(w (n - (m + 1)) / u (n - (m + 1)))) hw (h u h1) fun i => by grind) fun i hi => ?_
          by_cases e : i = n - (m + 1)
          · subst e
            show w _ + _ * u _ = 0
            grind
          · show w i + _ * u i = 0
            rw [h0 i (by omega), h2 i (by omega)]; grind
        exact hU.of 1 (w (n - (m + 1)) / u (n - (m + 1))) h4 h1 fun i => by grind
  intro w hw
  exact main n (Nat.le_refl n) w hw fun i hi => by omega
/-- a flat with one row more -/
def Add (U : V F → Prop) (r : V F) : V F → Prop := fun v => ∃ c : F, U (fun i => v i + c * r i)
theorem Add.sbs {U : V F → Prop} (hU : Sbs U) (r : V F) : Sbs (Add U r) :=
  ⟨⟨0, hU.of 0 0 hU.z hU.z fun i => by grind⟩, fun {u v} a b ⟨c, hu⟩ ⟨d, hv⟩ => ⟨a * c + b * d, hU.of a b hu hv fun i => by grind⟩⟩
theorem Add.sub {U : V F → Prop} (hU : Sbs U) {r : V F} {v : V F} (h : U v) : Add U r v := ⟨0, hU.of 1 0 h hU.z fun i => by grind⟩
theorem Add.self {U : V F → Prop} (hU : Sbs U) {r : V F} : Add U r r := ⟨-1, hU.of 0 0 hU.z hU.z fun i => by grind⟩
theorem Add.su {n : Nat} {U : V F → Prop} (h : Su n U) {r : V F} (hr : ∀ i, n ≤ i → r i = 0) : Su n (Add U r) := fun v ⟨c, hv⟩ i hi => by
  have := h _ hv i hi
  have h2 := hr i hi
  rw [h2] at this
  grind
theorem Add.le {U W : V F → Prop} (hW : Sbs W) (h : ∀ v, U v → W v) {r : V F} (hr : W r) {v : V F} (hv : Add U r v) : W v := by
  obtain ⟨c, hv⟩ := hv
  exact hW.of 1 (-c) (h _ hv) hr fun i => by grind
theorem wd_add0 {n : Nat} {U : V F → Prop} (hU : Sbs U) {r : V F} (hr : U r) : wd n (Add U r) = wd n U :=
  wd_same fun v => ⟨Add.le hU (fun _ h => h) hr, Add.sub hU⟩
theorem filter_one {p q : Nat → Bool} {c : Nat} : ∀ {l : List Nat}, l.Nodup → (∀ k ∈ l, q k = (p k || decide (k = c))) → p c = false → (l.filter q).length = (l.filter p).length + (if c ∈ l then 1 else 0)
  | [], _, _, _ => rfl
  | x :: l, nd, h, hc => by
    have ih := filter_one (p := p) (q := q) (c := c) (l := l) (List.nodup_cons.mp nd).2 (fun k hk => h k (by simp [hk])) hc
    have nx := (List.nodup_cons.mp nd).1
    rw [List.filter_cons, List.filter_cons, h x (by simp)]
    by_cases e : x = c
    · subst e
      rw [hc]
      simp [ih, nx]
    · have e' : ¬ c = x := fun z => e z.symm
      cases p x <;> simp [e, e', ih]
      omega
theorem wd_add1 {n : Nat} {U : V F → Prop} (hU : Sbs U) (sU : Su n U) {r : V F} (sr : ∀ i, n ≤ i → r i = 0) (hr : ¬ U r) : wd n (Add U r) = wd n U + 1 := by
  -- a row with a new leading place
  have red : ∀ m, m ≤ n → ∀ s : V F, ¬ U s → (∀ i, n ≤ i → s i = 0) → (∀ i < n - m, s i = 0) → ∃ u c, U u ∧ c < n ∧ (∀ i < c, s i + u i = 0) ∧ s c + u c ≠ 0 ∧ ¬ Lead U c := by
    intro m
    induction m with
    | zero =>
      intro _ s hs s0 h0
      exact absurd (by
        rw [show s = fun _ => 0 from funext fun i => by
          by_cases hi : i < n
          · exact h0 i (by omega)
          · exact s0 i (by omega)]
        exact hU.z) hs
    | succ m ih =>
      intro hm s hs s0 h0
      by_cases hz : s (n - (m + 1)) = 0
      · exact ih (by omega) s hs s0 fun i hi => by
          by_cases e : i = n - (m + 1)
          · rw [e]; exact hz
          · exact h0 i (by omega)
      · by_cases hl : Lead U (n - (m + 1))
        · obtain ⟨u, h1, h2, h3⟩ := hl
          have key : ∃ c : F, c = -(s (n - (m + 1)) / u (n - (m + 1))) := ⟨_, rfl⟩
          obtain ⟨c, hc⟩ := key
          have hcu : s (n - (m + 1)) + c * u (n - (m + 1)) = 0 := by rw [hc]; grind
          obtain ⟨u', k, g1, g2, g3, g4, g5⟩ := ih (by omega) (fun i => s i + c * u i) (fun z => hs (hU.of 1 (-c) z h1 fun i => by grind)) (fun i hi => by
            show s i + c * u i = 0
            rw [s0 i hi, sU u h1 i hi]; grind) (fun i hi => by
            show s i + c * u i = 0
            by_cases e : i = n - (m + 1)
            · rw [e]; exact hcu
            · rw [h0 i (by omega), h2 i (by omega)]; grind)
          exact ⟨fun i => c * u i + 1 * u' i, k, hU.lin c 1 h1 g1, g2, fun i hi => by have := g3 i hi; grind, by
            intro z; apply g4; grind, g5⟩
        · exact ⟨fun _ => 0, n - (m + 1), hU.z, by omega, fun i hi => by rw [h0 i hi]; grind, by
            intro z; apply hz; grind, hl⟩
  obtain ⟨u, c, h1, h2, h3, h4, h5⟩ := red n (Nat.le_refl n) r hr sr fun i hi => by omega
  have hlead : ∀ k, Lead (Add U r) k ↔ Lead U k ∨ k = c := by
    intro k
    constructor
    · rintro ⟨v, ⟨a, hv⟩, g2, g3⟩
      by_cases ha : a = 0
      · subst ha
        refine .inl ⟨v, hU.of 1 0 hv hU.z fun i => by grind, g2, g3⟩
      · -- w = v + a (r + u) lies in U
        have hw : U (fun i => v i + a * (r i + u i)) := hU.of 1 a hv h1 fun i => by grind
        rcases Nat.lt_trichotomy k c with hk | hk | hk
        · refine .inl ⟨_, hw, fun i hi => ?_, ?_⟩
          · show v i + a * (r i + u i) = 0
            rw [g2 i hi, h3 i (by omega)]; grind
          · show v k + a * (r k + u k) ≠ 0
            rw [h3 k hk]; intro z; apply g3; grind
        · exact .inr hk
        · refine absurd ⟨_, hw, fun i hi => ?_, ?_⟩ h5
          · show v i + a * (r i + u i) = 0
            rw [g2 i (by omega), h3 i hi]; grind
          · show v c + a * (r c + u c) ≠ 0
            rw [g2 c hk]; intro z; apply h4
            have : a * (r c + u c) = 0 := by grind
            grind
    · rintro (⟨v, g1, g2, g3⟩ | rfl)
      · exact ⟨v, Add.sub hU g1, g2, g3⟩
      · exact ⟨fun i => r i + u i, ⟨-1, hU.of 1 0 h1 hU.z fun i => by grind⟩, h3, h4⟩
  unfold wd
  have := filter_one (p := fun k => decide (Lead U k)) (q := fun k => decide (Lead (Add U r) k)) (c := c) (l := List.range n) List.nodup_range (fun k _ => by
    rw [Bool.eq_iff_iff]
    simp only [decide_eq_true_eq, Bool.or_eq_true]
    exact hlead k) (decide_eq_false h5)
  rw [this, if_pos (by simpa using h2)]
theorem wd_zero {n : Nat} {U : V F → Prop} (h : ∀ v, U v → ∀ i, v i = 0) : wd n U = 0 := by
  unfold wd
  rw [List.length_eq_zero_iff, List.filter_eq_nil_iff]
  intro k _ hk
  obtain ⟨v, h1, _, h3⟩ := of_decide_eq_true hk
  exact h3 (h v h1 k)
theorem sp_add {r : V F} {rs : List (V F)} : Sp (r :: rs) = Add (Sp rs) r := rfl
/-- widths of spans: rows that go on -/
theorem wd_cons0 {n : Nat} {r : V F} {rs : List (V F)} (h : Sp rs r) : wd n (Sp (r :: rs)) = wd n (Sp rs) := wd_add0 (Sp.sbs rs) h
theorem wd_cons1 {n : Nat} {r : V F} {rs : List (V F)} (s : ∀ x ∈ r :: rs, ∀ i, n ≤ i → x i = 0) (h : ¬ Sp rs r) : wd n (Sp (r :: rs)) = wd n (Sp rs) + 1 :=
  wd_add1 (Sp.sbs rs) (Su.sp fun x hx => s x (by simp [hx])) (s r (by simp)) h
theorem wd_len {n : Nat} : ∀ {rs : List (V F)}, (∀ x ∈ rs, ∀ i, n ≤ i → x i = 0) → wd n (Sp rs) ≤ rs.length
  | [], _ => by rw [wd_zero (U := Sp []) fun v hv => hv]; exact Nat.le_refl 0
  | r :: rs, s => by
    have ih := wd_len (n := n) (rs := rs) fun x hx => s x (by simp [hx])
    by_cases h : Sp rs r
    · rw [wd_cons0 h]; simp; omega
    · rw [wd_cons1 s h]; simp; omega
/-- rows with places of their own -/
theorem wd_dual {n : Nat} {x : Nat → V F} : ∀ {ks : List Nat}, (∀ k ∈ ks, ∀ i, n ≤ i → x k i = 0) → ks.Nodup → (∀ k ∈ ks, ∀ l ∈ ks, x k l = if k = l then 1 else 0) → wd n (Sp (ks.map x)) = ks.length
  | [], _, _, _ => wd_zero (U := Sp []) fun v hv => hv
  | k :: ks, s, nd, h => by
    have ih := wd_dual (n := n) (x := x) (ks := ks) (fun l hl => s l (by simp [hl])) (List.nodup_cons.mp nd).2 fun a ha b hb => h a (by simp [ha]) b (by simp [hb])
    have nk := (List.nodup_cons.mp nd).1
    rw [List.map_cons, wd_cons1, ih]
    · rfl
    · intro y hy
      rcases List.mem_cons.mp hy with rfl | hy
      · exact s k (by simp)
      · obtain ⟨l, hl, rfl⟩ := List.mem_map.mp hy
        exact s l (by simp [hl])
    · intro z
      have hU : Sbs (fun v : V F => v k = 0) := ⟨rfl, fun a b hu hv => by
        show a * _ + b * _ = 0
        rw [hu, hv]; grind⟩
      have : x k k = 0 := Sp.sub hU (fun y hy => by
        obtain ⟨l, hl, rfl⟩ := List.mem_map.mp hy
        show x l k = 0
        rw [h l (by simp [hl]) k (by simp), if_neg]
        rintro rfl
        exact nk hl) z
      rw [h k (by simp) k (by simp), if_pos rfl] at this
      exact Lean.Grind.Field.zero_ne_one this.symm
/-! sums and meets -/
def Sum (U W : V F → Prop) : V F → Prop := fun v => ∃ u w, U u ∧ W w ∧ ∀ i, v i = u i + w i
def Cap (U W : V F → Prop) : V F → Prop := fun v => U v ∧ W v
theorem Cap.sbs {U W : V F → Prop} (hU : Sbs U) (hW : Sbs W) : Sbs (Cap U W) := ⟨⟨hU.z, hW.z⟩, fun a b h h' => ⟨hU.lin a b h.1 h'.1, hW.lin a b h.2 h'.2⟩⟩
theorem Sum.sbs {U W : V F → Prop} (hU : Sbs U) (hW : Sbs W) : Sbs (Sum U W) := by
  refine ⟨⟨_, _, hU.z, hW.z, fun i => by grind⟩, ?_⟩
  rintro x y a b ⟨u, w, h1, h2, h3⟩ ⟨u', w', h1', h2', h3'⟩
  exact ⟨_, _, hU.lin a b h1 h1', hW.lin a b h2 h2', fun i => by
    show a * x i + b * y i = _
    rw [h3, h3']; grind⟩
theorem Sum.su {n : Nat} {U W : V F → Prop} (hU : Su n U) (hW : Su n W) : Su n (Sum U W) := fun v ⟨u, w, h1, h2, h3⟩ i hi => by
  rw [h3, hU u h1 i hi, hW w h2 i hi]; grind
theorem Sum.l {U W : V F → Prop} (hW : Sbs W) {v : V F} (h : U v) : Sum U W v := ⟨v, _, h, hW.z, fun i => by grind⟩
theorem Sum.r {U W : V F → Prop} (hU : Sbs U) {v : V F} (h : W v) : Sum U W v := ⟨_, v, hU.z, h, fun i => by grind⟩
theorem Sum.le {U W X : V F → Prop} (hX : Sbs X) (h1 : ∀ v, U v → X v) (h2 : ∀ v, W v → X v) {v : V F} (h : Sum U W v) : X v := by
  obtain ⟨u, w, a, b, e⟩ := h
  exact hX.of 1 1 (h1 u a) (h2 w b) fun i => by rw [e]; grind
theorem sum_sp {rs ss : List (V F)} {v : V F} : Sum (Sp rs) (Sp ss) v ↔ Sp (rs ++ ss) v := Sp.app.symm
theorem sum_cap {n : Nat} {U : V F → Prop} {rs : List (V F)} (hU : Sbs U) (sU : Su n U) (sr : ∀ x ∈ rs, ∀ i, n ≤ i → x i = 0) : wd n (Sum U (Sp rs)) + wd n (Cap U (Sp rs)) = wd n U + wd n (Sp rs) := by
  have hW := Sp.sbs rs
  have hC := Cap.sbs hU hW
  have sC : Su n (Cap U (Sp rs)) := fun v hv => sU v hv.1
  -- one row after another
  have main : ∀ ss : List (V F), (∀ s ∈ ss, s ∈ rs) → wd n (Sum U (Sum (Cap U (Sp rs)) (Sp ss))) + wd n (Cap U (Sp rs)) = wd n U + wd n (Sum (Cap U (Sp rs)) (Sp ss)) := by
    intro ss
    induction ss with
    | nil =>
      intro _
      have e1 : ∀ v, Sum (Cap U (Sp rs)) (Sp []) v ↔ Cap U (Sp rs) v := fun v => ⟨Sum.le hC (fun _ h => h) (fun w hw => by rw [show w = fun _ => 0 from funext hw]; exact hC.z), Sum.l (Sp.sbs [])⟩
      have e2 : ∀ v, Sum U (Sum (Cap U (Sp rs)) (Sp [])) v ↔ U v := fun v => ⟨Sum.le hU (fun _ h => h) fun w hw => ((e1 w).mp hw).1, Sum.l (Sum.sbs hC (Sp.sbs []))⟩
      rw [wd_same e1, wd_same e2]
    | cons s ss ih =>
      intro hs
      have ih := ih fun x hx => hs x (by simp [hx])
      have hA := Sum.sbs hC (Sp.sbs ss)
      have sA : Su n (Sum (Cap U (Sp rs)) (Sp ss)) := Sum.su sC (Su.sp fun x hx => sr x (hs x (by simp [hx])))
      have hB := Sum.sbs hU hA
      have ss0 := sr s (hs s (by simp))
      have AW : ∀ v, Sum (Cap U (Sp rs)) (Sp ss) v → Sp rs v := fun v => Sum.le hW (fun w hw => hw.2) fun w hw => hw.mono fun x hx => hs x (by simp [hx])
      have e1 : ∀ v, Sum (Cap U (Sp rs)) (Sp (s :: ss)) v ↔ Add (Sum (Cap U (Sp rs)) (Sp ss)) s v := by
        intro v
        constructor
        · refine Sum.le (Add.sbs hA s) (fun w hw => Add.sub hA (Sum.l (Sp.sbs ss) hw)) fun w hw => ?_
          obtain ⟨c, hw⟩ := hw
          exact ⟨c, Sum.r hC hw⟩
        · exact Add.le (Sum.sbs hC (Sp.sbs (s :: ss))) (fun w hw => Sum.le (Sum.sbs hC (Sp.sbs (s :: ss))) (fun x hx => Sum.l (Sp.sbs _) hx) (fun x hx => Sum.r hC hx.cons) hw) (Sum.r hC Sp.head)
      have e2 : ∀ v, Sum U (Sum (Cap U (Sp rs)) (Sp (s :: ss))) v ↔ Add (Sum U (Sum (Cap U (Sp rs)) (Sp ss))) s v := by
        intro v
        constructor
        · refine Sum.le (Add.sbs hB s) (fun w hw => Add.sub hB (Sum.l hA hw)) fun w hw => ?_
          obtain ⟨c, hw⟩ := (e1 w).mp hw
          exact ⟨c, Sum.r hU hw⟩
        · have hX := Sum.sbs hU (Sum.sbs hC (Sp.sbs (s :: ss)))
          refine Add.le hX (fun w hw => Sum.le hX (fun x hx => Sum.l (Sum.sbs hC (Sp.sbs _)) hx) (fun x hx => Sum.r hU ((e1 x).mpr (Add.sub hA hx))) hw) (Sum.r hU (Sum.r hC Sp.head))
      rw [wd_same e1, wd_same e2]
      by_cases h : Sum (Cap U (Sp rs)) (Sp ss) s
      · rw [wd_add0 hA h, wd_add0 hB (Sum.r hU h), ih]
      · have h' : ¬ Sum U (Sum (Cap U (Sp rs)) (Sp ss)) s := by
          rintro ⟨u, a, g1, g2, g3⟩
          apply h
          have : Cap U (Sp rs) u := ⟨g1, hW.of 1 (-1) (Sp.mem (hs s (by simp))) (AW a g2) fun i => by rw [g3]; grind⟩
          exact hA.of 1 1 (Sum.l (Sp.sbs ss) this) g2 fun i => by rw [g3]; grind
        rw [wd_add1 hA sA ss0 h, wd_add1 hB (Sum.su sU sA) ss0 h']
        omega
  have m := main rs fun _ h => h
  have e1 : ∀ v, Sum (Cap U (Sp rs)) (Sp rs) v ↔ Sp rs v := fun v => ⟨Sum.le hW (fun w hw => hw.2) fun w hw => hw, Sum.r hC⟩
  have e2 : ∀ v, Sum U (Sum (Cap U (Sp rs)) (Sp rs)) v ↔ Sum U (Sp rs) v := by
    intro v
    constructor
    · rintro ⟨u, w, h1, h2, h3⟩
      exact ⟨u, w, h1, (e1 w).mp h2, h3⟩
    · rintro ⟨u, w, h1, h2, h3⟩
      exact ⟨u, w, h1, (e1 w).mpr h2, h3⟩
  rw [wd_same e1, wd_same e2] at m
  exact m
end
end LA

namespace LA
section
variable {F : Type} [Lean.Grind.Field F]
/-! ### sums -/
def sum : Nat → (Nat → F) → F
  | 0, _ => 0
  | n + 1, f => sum n f + f n
theorem sum_congr {f g : Nat → F} : ∀ {n : Nat}, (∀ i < n, f i = g i) → sum n f = sum n g
  | 0, _ => rfl
  | n + 1, h => by
    show sum n f + f n = sum n g + g n
    rw [sum_congr fun i hi => h i (by omega), h n (by omega)]
theorem sum_lin {f g : Nat → F} (a b : F) : ∀ n : Nat, sum n (fun i => a * f i + b * g i) = a * sum n f + b * sum n g
  | 0 => by show (0 : F) = a * 0 + b * 0; grind
  | n + 1 => by
    show sum n _ + (a * f n + b * g n) = a * (sum n f + f n) + b * (sum n g + g n)
    rw [sum_lin a b n]; grind
theorem sum_add {f g : Nat → F} (n : Nat) : sum n (fun i => f i + g i) = sum n f + sum n g := by
  have := sum_lin (f := f) (g := g) 1 1 n
  rw [sum_congr (g := fun i => 1 * f i + 1 * g i) fun i _ => by grind, this]; grind
theorem sum_sm {f : Nat → F} (a : F) (n : Nat) : sum n (fun i => a * f i) = a * sum n f := by
  have := sum_lin (f := f) (g := f) a 0 n
  rw [sum_congr (g := fun i => a * f i + 0 * f i) fun i _ => by grind, this]; grind
theorem sum_zero {f : Nat → F} : ∀ {n : Nat}, (∀ i < n, f i = 0) → sum n f = 0
  | 0, _ => rfl
  | n + 1, h => by
    show sum n f + f n = 0
    rw [sum_zero fun i hi => h i (by omega), h n (by omega)]; grind
theorem sum_one {f : Nat → F} {k : Nat} : ∀ {n : Nat}, k < n → (∀ i < n, i ≠ k → f i = 0) → sum n f = f k
  | n + 1, hk, h => by
    show sum n f + f n = f k
    by_cases e : k = n
    · subst e
      rw [sum_zero fun i hi => h i (by omega) (by omega)]; grind
    · rw [sum_one (k := k) (n := n) (by omega) fun i hi => h i (by omega), h n (by omega) fun z => e z.symm]; grind
theorem sum_swap {f : Nat → Nat → F} (m : Nat) : ∀ n : Nat, sum n (fun i => sum m (fun j => f i j)) = sum m (fun j => sum n (fun i => f i j))
  | 0 => (sum_zero fun _ _ => rfl).symm
  | n + 1 => by
    show sum n (fun i => sum m (fun j => f i j)) + sum m (fun j => f n j) = _
    rw [sum_swap m n, ← sum_add]; rfl
def dot (n : Nat) (u v : V F) : F := sum n (fun i => u i * v i)
theorem dot_comm (n : Nat) (u v : V F) : dot n u v = dot n v u := sum_congr fun i _ => by grind
theorem dot_lin (n : Nat) (w u v : V F) (a b : F) : dot n w (fun i => a * u i + b * v i) = a * dot n w u + b * dot n w v := by
  unfold dot
  rw [← sum_lin]
  exact sum_congr fun i _ => by grind
theorem dot_lin' (n : Nat) (w u v : V F) (a b : F) : dot n (fun i => a * u i + b * v i) w = a * dot n u w + b * dot n v w := by
  rw [dot_comm, dot_lin, dot_comm n w u, dot_comm n w v]
/-! ### rows with places of their own -/
structure Dual (n : Nat) (ks : List Nat) (x : Nat → V F) : Prop where
  nd : ks.Nodup
  lt : ∀ k ∈ ks, k < n
  su : ∀ k ∈ ks, ∀ i, n ≤ i → x k i = 0
  one : ∀ k ∈ ks, ∀ l ∈ ks, x k l = if k = l then 1 else 0
/-- rows put together by what stands at their places -/
def lay (ks : List Nat) (x : Nat → V F) (a : Nat → F) : V F := match ks with
  | [] => fun _ => 0
  | k :: ks => fun i => a k * x k i + lay ks x a i
theorem lay_sp {x : Nat → V F} {a : Nat → F} : ∀ {ks : List Nat}, Sp (ks.map x) (lay ks x a)
  | [] => fun _ => rfl
  | k :: ks => ⟨-(a k), (lay_sp (ks := ks) (a := a)).congr fun i => by
    show a k * x k i + lay ks x a i + _ = _
    grind⟩
theorem lay_at {x : Nat → V F} {a : Nat → F} {l : Nat} : ∀ {ks : List Nat}, ks.Nodup → (∀ k ∈ ks, x k l = if k = l then 1 else 0) → lay ks x a l = if l ∈ ks then a l else 0
  | [], _, _ => rfl
  | k :: ks, nd, h => by
    show a k * x k l + lay ks x a l = _
    rw [lay_at (List.nodup_cons.mp nd).2 fun m hm => h m (by simp [hm]), h k (by simp)]
    by_cases e : k = l
    · subst e
      rw [if_pos rfl, if_neg (List.nodup_cons.mp nd).1, if_pos (by simp)]; grind
    · rw [if_neg e]
      by_cases m : l ∈ ks
      · rw [if_pos m, if_pos (by simp [m])]; grind
      · rw [if_neg m, if_neg (by simp [m]; exact fun z => e z.symm)]; grind
theorem lay_out {x : Nat → V F} {a : Nat → F} {i : Nat} : ∀ {ks : List Nat}, (∀ k ∈ ks, x k i = 0) → lay ks x a i = 0
  | [], _ => rfl
  | k :: ks, h => by
    show a k * x k i + lay ks x a i = 0
    rw [lay_out fun m hm => h m (by simp [hm]), h k (by simp)]; grind
theorem lay_congr {x y : Nat → V F} {a b : Nat → F} : ∀ {ks : List Nat}, (∀ k ∈ ks, x k = y k ∧ a k = b k) → lay ks x a = lay ks y b
  | [], _ => rfl
  | k :: ks, h => by
    unfold lay
    rw [lay_congr fun m hm => h m (by simp [hm]), (h k (by simp)).1, (h k (by simp)).2]
section
variable {n : Nat} {ks : List Nat} {x : Nat → V F} (D : Dual n ks x)
include D
theorem Dual.sp_su : Su n (Sp (ks.map x)) := Su.sp fun r hr => by
  obtain ⟨k, hk, rfl⟩ := List.mem_map.mp hr
  exact D.su k hk
theorem Dual.wd : wd n (Sp (ks.map x)) = ks.length := wd_dual D.su D.nd D.one
/-- a flat that holds the rows, and nothing but 0 that is 0 at all their places, is theirs -/
theorem Dual.all {U : V F → Prop} (hU : Sbs U) (h : ∀ k ∈ ks, U (x k)) (h0 : ∀ v, U v → (∀ k ∈ ks, v k = 0) → ∀ i, v i = 0) {v : V F} (hv : U v) : ∀ i, v i = lay ks x v i := by
  have hl : U (lay ks x v) := Sp.sub hU (fun r hr => by
    obtain ⟨k, hk, rfl⟩ := List.mem_map.mp hr
    exact h k hk) (lay_sp (ks := ks))
  have := h0 (fun i => 1 * v i + (-1) * lay ks x v i) (hU.lin 1 (-1) hv hl) fun k hk => by
    show 1 * v k + (-1) * lay ks x v k = 0
    rw [lay_at D.nd fun m hm => D.one m hm k hk, if_pos hk]; grind
  intro i
  have := this i
  grind
theorem Dual.zero {v : V F} (hv : Sp (ks.map x) v) (h : ∀ k ∈ ks, v k = 0) : ∀ i, v i = 0 := by
  have key : ∀ ls : List Nat, (∀ l ∈ ls, l ∈ ks) → ls.Nodup → ∀ v, Sp (ls.map x) v → (∀ k ∈ ls, v k = 0) → ∀ i, v i = 0 := by
    intro ls
    induction ls with
    | nil => intro _ _ v hv _; exact hv
    | cons l ls ih =>
      intro hs nd v ⟨c, hv⟩ h0
      have hU : Sbs (fun v : V F => v l = 0) := ⟨rfl, fun {u v} a b hu hv => by
        show a * u l + b * v l = 0
        rw [hu, hv]; grind⟩
      have h1 : v l + c * x l l = 0 := Sp.sub hU (fun r hr => by
        obtain ⟨m, hm, rfl⟩ := List.mem_map.mp hr
        show x m l = 0
        rw [D.one m (hs m (by simp [hm])) l (hs l (by simp)), if_neg]
        rintro rfl
        exact (List.nodup_cons.mp nd).1 hm) hv
      rw [h0 l (by simp), D.one l (hs l (by simp)) l (hs l (by simp)), if_pos rfl] at h1
      have hc : c = 0 := by grind
      subst hc
      exact ih (fun m hm => hs m (by simp [hm])) (List.nodup_cons.mp nd).2 v (hv.congr fun i => by grind) fun m hm => h0 m (by simp [hm])
  exact key ks (fun _ h => h) D.nd v hv h
theorem Dual.lay_eq {v : V F} (hv : Sp (ks.map x) v) : ∀ i, v i = lay ks x v i :=
  D.all (Sp.sbs _) (fun k hk => Sp.mem (List.mem_map_of_mem hk)) (fun v hv => D.zero hv) hv
theorem Dual.iff {v : V F} : Sp (ks.map x) v ↔ ∀ i, v i = lay ks x v i := ⟨D.lay_eq, fun h => (lay_sp (ks := ks)).congr h⟩
end
/-! ### forms -/
structure Frm (n : Nat) (cs : List Nat) (x : Nat → V F) : Prop where
  up : cs.Pairwise (· < ·)
  lt : ∀ c ∈ cs, c < n
  su : ∀ c ∈ cs, ∀ i, n ≤ i → x c i = 0
  one : ∀ c ∈ cs, ∀ l ∈ cs, x c l = if c = l then 1 else 0
  pre : ∀ c ∈ cs, ∀ i < c, x c i = 0
theorem Frm.dual {n : Nat} {cs : List Nat} {x : Nat → V F} (h : Frm n cs x) : Dual n cs x := ⟨h.up.imp fun z => Nat.ne_of_lt z, h.lt, h.su, h.one⟩
theorem lay_pre {n : Nat} {cs : List Nat} {x : Nat → V F} (h : Frm n cs x) {a : Nat → F} {k : Nat} (h0 : ∀ c ∈ cs, c ≤ k → a c = 0) : lay cs x a k = 0 := by
  have key : ∀ ls : List Nat, (∀ l ∈ ls, l ∈ cs) → lay ls x a k = 0 := by
    intro ls
    induction ls with
    | nil => intro _; rfl
    | cons l ls ih =>
      intro hs
      show a l * x l k + lay ls x a k = 0
      rw [ih fun m hm => hs m (by simp [hm])]
      by_cases e : l ≤ k
      · rw [h0 l (hs l (by simp)) e]; grind
      · rw [h.pre l (hs l (by simp)) k (by omega)]; grind
  exact key cs fun _ h => h
theorem Frm.lead {n : Nat} {cs : List Nat} {x : Nat → V F} (h : Frm n cs x) {k : Nat} : Lead (Sp (cs.map x)) k ↔ k ∈ cs := by
  constructor
  · rintro ⟨v, h1, h2, h3⟩
    refine Classical.byContradiction fun hk => h3 ?_
    rw [h.dual.lay_eq h1 k]
    exact lay_pre h fun c hc hck => h2 c (by
      have : c ≠ k := fun e => hk (e ▸ hc)
      omega)
  · intro hk
    refine ⟨x k, Sp.mem (List.mem_map_of_mem hk), h.pre k hk, ?_⟩
    rw [h.one k hk k hk, if_pos rfl]
    exact fun z => Lean.Grind.Field.zero_ne_one z.symm
theorem sorted_ext : ∀ {l m : List Nat}, l.Pairwise (· < ·) → m.Pairwise (· < ·) → (∀ k, k ∈ l ↔ k ∈ m) → l = m
  | [], [], _, _, _ => rfl
  | [], b :: m, _, _, h => absurd ((h b).mpr (by simp)) (by simp)
  | a :: l, [], _, _, h => absurd ((h a).mp (by simp)) (by simp)
  | a :: l, b :: m, h1, h2, h => by
    have h1' := List.pairwise_cons.mp h1
    have h2' := List.pairwise_cons.mp h2
    have e : a = b := by
      rcases List.mem_cons.mp ((h a).mp (by simp)) with e | e
      · exact e
      · rcases List.mem_cons.mp ((h b).mpr (by simp)) with e' | e'
        · exact e'.symm
        · have := h1'.1 b e'
          have := h2'.1 a e
          omega
    subst e
    rw [sorted_ext h1'.2 h2'.2 fun k => ?_]
    constructor
    · intro hk
      rcases List.mem_cons.mp ((h k).mp (by simp [hk])) with e | e
      · have := h1'.1 k hk; omega
      · exact e
    · intro hk
      rcases List.mem_cons.mp ((h k).mpr (by simp [hk])) with e | e
      · have := h2'.1 k hk; omega
      · exact e
/-- one form for one flat -/
theorem Frm.unique {n : Nat} {cs ds : List Nat} {x y : Nat → V F} (h : Frm n cs x) (h' : Frm n ds y) (s : Same (cs.map x) (ds.map y)) : cs = ds ∧ ∀ c ∈ cs, x c = y c := by
  have e : cs = ds := sorted_ext h.up h'.up fun k => by
    rw [← h.lead, ← h'.lead]
    constructor
    · rintro ⟨v, h1, h2⟩
      exact ⟨v, (s v).mp h1, h2⟩
    · rintro ⟨v, h1, h2⟩
      exact ⟨v, (s v).mpr h1, h2⟩
  subst e
  refine ⟨rfl, fun c hc => funext fun i => ?_⟩
  have := h.dual.zero ((Sp.sbs (cs.map x)).lin 1 (-1) (Sp.mem (List.mem_map_of_mem hc)) ((s (y c)).mpr (Sp.mem (List.mem_map_of_mem hc)))) (fun k hk => by
    show 1 * x c k + (-1) * y c k = 0
    rw [h.one c hc k hk, h'.one c hc k hk]; grind) i
  have this : 1 * x c i + (-1) * y c i = 0 := this
  grind
/-! ### what lies across -/
def Perp (n : Nat) (U : V F → Prop) (v : V F) : Prop := (∀ i, n ≤ i → v i = 0) ∧ ∀ u, U u → dot n u v = 0
theorem Perp.sbs (n : Nat) (U : V F → Prop) : Sbs (Perp n U) :=
  ⟨⟨fun _ _ => rfl, fun u _ => sum_zero fun i _ => by grind⟩, fun {u v} a b h h' => ⟨fun i hi => by
    show a * u i + b * v i = 0
    rw [h.1 i hi, h'.1 i hi]; grind, fun w hw => by rw [dot_lin, h.2 w hw, h'.2 w hw]; grind⟩⟩
theorem Perp.su (n : Nat) (U : V F → Prop) : Su n (Perp n U) := fun v h => h.1
theorem Perp.anti {n : Nat} {U W : V F → Prop} (h : ∀ v, U v → W v) {v : V F} (hv : Perp n W v) : Perp n U v := ⟨hv.1, fun u hu => hv.2 u (h u hu)⟩
theorem perp_sp {n : Nat} {rs : List (V F)} {v : V F} : Perp n (Sp rs) v ↔ (∀ i, n ≤ i → v i = 0) ∧ ∀ r ∈ rs, dot n r v = 0 := by
  constructor
  · exact fun h => ⟨h.1, fun r hr => h.2 r (Sp.mem hr)⟩
  · intro h
    refine ⟨h.1, fun u hu => ?_⟩
    have hU : Sbs (fun u : V F => dot n u v = 0) := ⟨sum_zero fun i _ => by grind, fun {x y} a b hx hy => by
      show dot n _ v = 0
      rw [dot_lin', hx, hy]; grind⟩
    exact Sp.sub hU h.2 hu
theorem perp_app {n : Nat} {rs ss : List (V F)} {v : V F} : Perp n (Sp (rs ++ ss)) v ↔ Perp n (Sp rs) v ∧ Perp n (Sp ss) v := by
  rw [perp_sp, perp_sp, perp_sp]
  constructor
  · exact fun h => ⟨⟨h.1, fun r hr => h.2 r (by simp [hr])⟩, ⟨h.1, fun r hr => h.2 r (by simp [hr])⟩⟩
  · rintro ⟨⟨h1, h2⟩, ⟨_, h3⟩⟩
    exact ⟨h1, fun r hr => (List.mem_append.mp hr).elim (h2 r) (h3 r)⟩
def rest (n : Nat) (ks : List Nat) : List Nat := (List.range n).filter fun i => !ks.contains i
theorem mem_rest {n : Nat} {ks : List Nat} {i : Nat} : i ∈ rest n ks ↔ i < n ∧ i ∉ ks := by simp [rest]
def crs (ks : List Nat) (x : Nat → V F) (k : Nat) : V F := fun j => if j = k then 1 else if j ∈ ks then -(x j k) else 0
section
variable {n : Nat} {ks : List Nat} {x : Nat → V F} (D : Dual n ks x)
include D
theorem Dual.crs : Dual n (rest n ks) (crs ks x) := by
  refine ⟨List.nodup_range.filter _, fun k hk => (mem_rest.mp hk).1, fun k hk i hi => ?_, fun k hk l hl => ?_⟩
  · have h1 := (mem_rest.mp hk).1
    have h2 : i ∉ ks := fun z => by have := D.lt i z; omega
    unfold LA.crs
    rw [if_neg (by omega), if_neg h2]
  · have h2 := (mem_rest.mp hl).2
    unfold LA.crs
    by_cases e : l = k
    · rw [if_pos e, if_pos e.symm]
    · rw [if_neg e, if_neg h2, if_neg fun z => e z.symm]
theorem Dual.dot_crs {c k : Nat} (hc : c ∈ ks) (hk : k ∈ rest n ks) : dot n (x c) (LA.crs ks x k) = 0 := by
  have hk1 := mem_rest.mp hk
  have hck : c ≠ k := fun e => hk1.2 (e ▸ hc)
  unfold dot
  rw [sum_congr (g := fun i => (if i = k then x c k else 0) + (if i = c then -(x c k) else 0)) fun i hi => ?_]
  · rw [sum_add, sum_one (k := k) hk1.1 fun i _ h => by simp [h], sum_one (k := c) (D.lt c hc) fun i _ h => by simp [h]]
    simp only [if_true]
    grind
  · unfold LA.crs
    by_cases e : i = k
    · subst e
      rw [if_pos rfl, if_pos rfl, if_neg fun z => hck z.symm]; grind
    · rw [if_neg e, if_neg e]
      by_cases m : i ∈ ks
      · rw [if_pos m, D.one c hc i m]
        by_cases e2 : i = c
        · subst e2
          rw [if_pos rfl, if_pos rfl]; grind
        · rw [if_neg fun z => e2 z.symm, if_neg e2]; grind
      · rw [if_neg m, if_neg (show ¬ i = c from fun z => m (by rw [z]; exact hc))]; grind
theorem Dual.perp {v : V F} : Perp n (Sp (ks.map x)) v ↔ Sp ((rest n ks).map (LA.crs ks x)) v := by
  constructor
  · intro h
    have e := (D.crs).all (Perp.sbs n (Sp (ks.map x))) (fun k hk => perp_sp.mpr ⟨D.crs.su k hk, fun r hr => by
      obtain ⟨c, hc, rfl⟩ := List.mem_map.mp hr
      exact D.dot_crs hc hk⟩) (fun v hv h0 i => ?_) h
    · exact lay_sp.congr e
    · by_cases hi : i < n
      · by_cases m : i ∈ ks
        · have := hv.2 (x i) (Sp.mem (List.mem_map_of_mem m))
          unfold dot at this
          rw [sum_one hi fun j hj ne => ?_, D.one i m i m, if_pos rfl] at this
          · grind
          · by_cases m' : j ∈ ks
            · rw [D.one i m j m', if_neg fun z => ne z.symm]; grind
            · rw [h0 j (mem_rest.mpr ⟨hj, m'⟩)]; grind
        · exact h0 i (mem_rest.mpr ⟨hi, m⟩)
      · exact hv.1 i (by omega)
  · intro h
    exact Sp.sub (Perp.sbs n _) (fun r hr => by
      obtain ⟨k, hk, rfl⟩ := List.mem_map.mp hr
      exact perp_sp.mpr ⟨D.crs.su k hk, fun r hr => by
        obtain ⟨c, hc, rfl⟩ := List.mem_map.mp hr
        exact D.dot_crs hc hk⟩) h
theorem Dual.rest_len : (rest n ks).length + ks.length = n := by
  have h : ∀ l : List Nat, (l.filter fun i => !ks.contains i).length + (l.filter fun i => ks.contains i).length = l.length := by
    intro l
    induction l with
    | nil => rfl
    | cons a l ih =>
      rw [List.filter_cons, List.filter_cons]
      cases ks.contains a
      · simp only [Bool.not_false, if_true, Bool.false_eq_true, if_false, List.length_cons]; omega
      · simp only [Bool.not_true, if_true, Bool.false_eq_true, if_false, List.length_cons]; omega
  have h1 := h (List.range n)
  have h2 : ((List.range n).filter fun i => ks.contains i).length = ks.length := by
    apply List.Perm.length_eq
    rw [List.perm_ext_iff_of_nodup (List.nodup_range.filter _) D.nd]
    intro a
    simp only [List.mem_filter, List.mem_range, List.contains_iff_mem]
    exact ⟨fun h => h.2, fun h => ⟨D.lt a h, h⟩⟩
  unfold rest
  rw [List.length_range] at h1
  omega
theorem Dual.wd_perp : LA.wd n (Perp n (Sp (ks.map x))) + ks.length = n := by
  rw [wd_same fun v => D.perp, D.crs.wd]
  exact D.rest_len
/-- across twice -/
theorem Dual.perp2 {v : V F} : Perp n (Perp n (Sp (ks.map x))) v ↔ Sp (ks.map x) v := by
  have e : Perp n (Sp (ks.map x)) = Sp ((rest n ks).map (LA.crs ks x)) := funext fun v => propext D.perp
  rw [e]
  constructor
  · intro h
    refine eq_of_wd (n := n) (Sp.sbs (ks.map x)) (Perp.sbs n (Sp ((rest n ks).map (LA.crs ks x)))) (Perp.su n _) (fun u hu => ?_) ?_ v h
    · refine perp_sp.mpr ⟨D.sp_su u hu, fun r hr => ?_⟩
      rw [dot_comm]
      exact (e ▸ Sp.mem hr : Perp n (Sp (ks.map x)) r).2 u hu
    · have h1 := D.crs.wd_perp
      have h2 := D.rest_len
      rw [D.wd]
      omega
  · intro hv
    refine perp_sp.mpr ⟨D.sp_su v hv, fun r hr => ?_⟩
    rw [dot_comm]
    exact (e ▸ Sp.mem hr : Perp n (Sp (ks.map x)) r).2 v hv
end
/-- each span has rows with places of their own -/
theorem dual_ex {n : Nat} : ∀ {rs : List (V F)}, (∀ r ∈ rs, ∀ i, n ≤ i → r i = 0) → ∃ ks x, Dual n ks x ∧ Same rs (ks.map x)
  | [], _ => ⟨[], fun _ _ => 0, ⟨List.nodup_nil, by simp, by simp, by simp⟩, Same.rfl⟩
  | r :: rs, h => by
    obtain ⟨ks, x, D, s⟩ := dual_ex (n := n) (rs := rs) fun y hy => h y (by simp [hy])
    by_cases hr : Sp rs r
    · exact ⟨ks, x, D, Same.trans (Same.of (fun y hy => by
        rcases List.mem_cons.mp hy with rfl | hy
        · exact hr
        · exact Sp.mem hy) fun y hy => (Sp.mem hy).cons) s⟩
    · -- r less what stands at the places
      have key : ∃ w : V F, w = fun i => r i + (-1) * lay ks x r i := ⟨_, rfl⟩
      obtain ⟨w, hw⟩ := key
      have w0 : ∀ k ∈ ks, w k = 0 := fun k hk => by
        rw [hw]
        show r k + (-1) * lay ks x r k = 0
        rw [lay_at D.nd fun m hm => D.one m hm k hk, if_pos hk]; grind
      have ws : ∀ i, n ≤ i → w i = 0 := fun i hi => by
        rw [hw]
        show r i + (-1) * lay ks x r i = 0
        rw [h r (by simp) i hi, lay_out fun k hk => D.su k hk i hi]; grind
      have wr : Sp (r :: rs) w := by
        rw [hw]
        exact (Sp.sbs (r :: rs)).of 1 (-1) Sp.head (((s _).mpr (lay_sp (ks := ks) (x := x) (a := r))).cons) fun i => by grind
      have wn : ∃ l, w l ≠ 0 := by
        refine Classical.byContradiction fun z => hr ?_
        have z : ∀ l, w l = 0 := fun l => Classical.byContradiction fun q => z ⟨l, q⟩
        refine (s r).mpr (lay_sp (ks := ks) (x := x) (a := r) |>.congr fun i => ?_)
        have := z i
        rw [hw] at this
        have this : r i + (-1) * lay ks x r i = 0 := this
        grind
      obtain ⟨l, hl⟩ := wn
      have ln : l < n := Classical.byContradiction fun z => hl (ws l (by omega))
      have lk : l ∉ ks := fun z => hl (w0 l z)
      refine ⟨l :: ks, fun k => if k = l then fun i => (w l)⁻¹ * w i else fun i => x k i + (-(x k l * (w l)⁻¹)) * w i, ⟨List.nodup_cons.mpr ⟨lk, D.nd⟩, ?_, ?_, ?_⟩, ?_⟩
      · intro k hk
        rcases List.mem_cons.mp hk with rfl | hk
        · exact ln
        · exact D.lt k hk
      · intro k hk i hi
        by_cases e : k = l
        · simp only [e, if_true]
          rw [ws i hi]; grind
        · simp only [e, if_false]
          rw [ws i hi, D.su k ((List.mem_cons.mp hk).resolve_left e) i hi]; grind
      · intro k hk m hm
        by_cases e : k = l
        · subst e
          simp only [if_true]
          by_cases e2 : k = m
          · subst e2
            rw [if_pos rfl]; grind
          · rw [if_neg e2, w0 m ((List.mem_cons.mp hm).resolve_left fun z => e2 z.symm)]; grind
        · have hk' := (List.mem_cons.mp hk).resolve_left e
          simp only [e, if_false]
          by_cases e2 : m = l
          · subst e2
            rw [if_neg e]; grind
          · have hm' := (List.mem_cons.mp hm).resolve_left e2
            rw [w0 m hm', D.one k hk' m hm']; grind
      · have hx : ∀ k ∈ ks, Sp (r :: rs) (x k) := fun k hk => ((s _).mpr (Sp.mem (List.mem_map_of_mem hk))).cons
        refine Same.of (fun y hy => ?_) fun y hy => ?_
        · -- the new rows hold w, the old rows, r
          have nw : Sp ((l :: ks).map fun k => if k = l then fun i => (w l)⁻¹ * w i else fun i => x k i + (-(x k l * (w l)⁻¹)) * w i) w := by
            refine (Sp.sbs _).sm (w l) (Sp.mem (List.mem_map.mpr ⟨l, by simp, rfl⟩)) fun i => ?_
            simp only [if_true]
            grind
          have no : ∀ k ∈ ks, Sp ((l :: ks).map fun k => if k = l then fun i => (w l)⁻¹ * w i else fun i => x k i + (-(x k l * (w l)⁻¹)) * w i) (x k) := fun k hk => by
            have ne : k ≠ l := fun z => lk (z ▸ hk)
            refine (Sp.sbs _).of 1 (x k l * (w l)⁻¹) (Sp.mem (List.mem_map.mpr ⟨k, by simp [hk], rfl⟩)) nw fun i => ?_
            simp only [ne, if_false]
            grind
          have nl : ∀ v, Sp (ks.map x) v → Sp ((l :: ks).map fun k => if k = l then fun i => (w l)⁻¹ * w i else fun i => x k i + (-(x k l * (w l)⁻¹)) * w i) v := fun v hv => Sp.trans (fun q hq => by
            obtain ⟨k, hk, rfl⟩ := List.mem_map.mp hq
            exact no k hk) hv
          rcases List.mem_cons.mp hy with rfl | hy
          · refine (Sp.sbs _).of 1 1 nw (nl _ (lay_sp (ks := ks) (x := x) (a := y))) fun i => ?_
            rw [hw]; grind
          · exact nl y ((s y).mp (Sp.mem hy))
        · obtain ⟨k, hk, rfl⟩ := List.mem_map.mp hy
          by_cases e : k = l
          · simp only [e, if_true]
            exact (Sp.sbs _).sm _ wr fun i => rfl
          · have hk' := (List.mem_cons.mp hk).resolve_left e
            simp only [e, if_false]
            exact (Sp.sbs _).of 1 (-(x k l * (w l)⁻¹)) (hx k hk') wr fun i => by
              show x k i + _ = _
              clear hy
              grind
section
variable {n : Nat} {rs ss : List (V F)} (hs : ∀ r ∈ rs, ∀ i, n ≤ i → r i = 0)
include hs
theorem perp2 {v : V F} : Perp n (Perp n (Sp rs)) v ↔ Sp rs v := by
  obtain ⟨ks, x, D, s⟩ := dual_ex hs
  have e : Sp rs = Sp (ks.map x) := funext fun v => propext (s v)
  rw [e]
  exact D.perp2
theorem wd_perp : wd n (Perp n (Sp rs)) + wd n (Sp rs) = n := by
  obtain ⟨ks, x, D, s⟩ := dual_ex hs
  have e : Sp rs = Sp (ks.map x) := funext fun v => propext (s v)
  rw [e, D.wd]
  exact D.wd_perp
theorem perp_le (hs' : ∀ r ∈ ss, ∀ i, n ≤ i → r i = 0) (h : ∀ v, Perp n (Sp rs) v → Perp n (Sp ss) v) : ∀ v, Sp ss v → Sp rs v := fun v hv => by
  rw [← perp2 hs]
  exact Perp.anti h ((perp2 hs').mpr hv)
end
end
end LA

namespace LA
open Lean.Grind
/-! ### the field of a prime -/
class Pm (p : Nat) : Prop where
  lt : 1 < p
  inv : ∀ a : Fin p, a.val ≠ 0 → ∃ b : Fin p, (a.val * b.val) % p = 1
section
variable (p : Nat) [hp : Pm p]
instance Pm.nz : NeZero p := ⟨by have := hp.lt; omega⟩
theorem finone : ((1 : Fin p) : Nat) = 1 := by
  have := hp.lt
  show 1 % p = 1
  exact Nat.mod_eq_of_lt this
open Classical in
noncomputable def finv (a : Fin p) : Fin p := if h : ∃ b : Fin p, a * b = 1 then h.choose else 0
theorem finv_mul {a : Fin p} (h : a ≠ 0) : a * finv p a = 1 := by
  have e : ∃ b : Fin p, a * b = 1 := by
    obtain ⟨b, hb⟩ := hp.inv a (fun z => h (Fin.ext (by rw [z]; rfl)))
    refine ⟨b, Fin.ext ?_⟩
    rw [Fin.val_mul, hb, finone]
  unfold finv
  rw [dif_pos e]
  exact e.choose_spec
theorem fin01 : (0 : Fin p) ≠ 1 := fun z => by
  have := congrArg Fin.val z
  rw [finone] at this
  cases this
theorem finv_zero : finv p 0 = 0 := by
  unfold finv
  rw [dif_neg]
  rintro ⟨b, hb⟩
  apply fin01 p
  rw [← hb]
  grind
noncomputable def fpow (a : Fin p) : Int → Fin p
  | .ofNat n => a ^ n
  | .negSucc n => finv p (a ^ (n + 1))
theorem finv_finv (a : Fin p) : finv p (finv p a) = a := by
  by_cases h : a = 0
  · rw [h, finv_zero, finv_zero]
  · have h1 := finv_mul p h
    have h2 : finv p a ≠ 0 := fun z => by
      rw [z] at h1
      apply fin01 p
      rw [← h1]; grind
    have h3 := finv_mul p h2
    calc finv p (finv p a) = (a * finv p a) * finv p (finv p a) := by rw [h1]; grind
      _ = a * (finv p a * finv p (finv p a)) := by grind
      _ = a := by rw [h3]; grind
noncomputable instance : Field (Fin p) where
  inv := finv p
  div a b := a * finv p b
  zpow := ⟨fpow p⟩
  div_eq_mul_inv _ _ := rfl
  zero_ne_one := fin01 p
  inv_zero := finv_zero p
  mul_inv_cancel h := finv_mul p h
  zpow_zero a := Semiring.pow_zero a
  zpow_succ a n := Semiring.pow_succ a n
  zpow_neg a n := by
    show fpow p a (-n) = finv p (fpow p a n)
    cases n with
    | ofNat n =>
      cases n with
      | zero =>
        show a ^ 0 = finv p (a ^ 0)
        rw [Semiring.pow_zero]
        have := finv_mul p (a := 1) (fun z => fin01 p z.symm)
        calc (1 : Fin p) = 1 * finv p 1 := this.symm
          _ = finv p 1 := by grind
      | succ n => rfl
    | negSucc n =>
      show a ^ (n + 1) = finv p (finv p (a ^ (n + 1)))
      rw [finv_finv]
/-- a whole number in the field -/
noncomputable def ph (x : Int) : Fin p := Lean.Grind.Ring.intCast.intCast x
theorem ph_add (x y : Int) : ph p (x + y) = ph p x + ph p y := Ring.intCast_add x y
theorem ph_mul (x y : Int) : ph p (x * y) = ph p x * ph p y := Ring.intCast_mul x y
theorem ph_neg (x : Int) : ph p (-x) = -ph p x := Ring.intCast_neg x
theorem ph_mod (x : Int) : ph p (x % p) = ph p x := IsCharP.intCast_emod p x
theorem ph_eq {x y : Int} : ph p x = ph p y ↔ x % p = y % p := IsCharP.intCast_ext_iff p
theorem ph_0 : ph p 0 = 0 := by
  unfold ph
  have := Ring.intCast_ofNat (α := Fin p) 0
  exact this
theorem ph_1 : ph p 1 = 1 := by
  unfold ph
  have := Ring.intCast_ofNat (α := Fin p) 1
  exact this
theorem ph_nz {x : Int} (h : 0 ≤ x ∧ x < p) : ph p x = 0 ↔ x = 0 := by
  rw [← ph_0, ph_eq, Int.emod_eq_of_lt h.1 h.2]; simp
theorem ph_inj {x y : Int} (hx : 0 ≤ x ∧ x < p) (hy : 0 ≤ y ∧ y < p) (h : ph p x = ph p y) : x = y := by
  rw [ph_eq, Int.emod_eq_of_lt hx.1 hx.2, Int.emod_eq_of_lt hy.1 hy.2] at h
  exact h
end
/-! ### rows -/
def Rw (p n : Nat) (r : List Int) : Prop := r.length = n ∧ ∀ x ∈ r, 0 ≤ x ∧ x < p
def Rws (p n : Nat) (rs : List (List Int)) : Prop := ∀ r ∈ rs, Rw p n r
theorem Rw.get {p n : Nat} {r : List Int} (h : Rw p n r) (hp : 0 < p) (i : Nat) : 0 ≤ r.getD i 0 ∧ r.getD i 0 < p := by
  by_cases hi : i < r.length
  · rw [List.getD_eq_getElem?_getD, List.getElem?_eq_getElem hi]
    exact h.2 _ (List.getElem_mem hi)
  · rw [List.getD_eq_getElem?_getD, List.getElem?_eq_none (by omega)]
    exact ⟨Int.le_refl 0, by simpa using hp⟩
def addN (p : Nat) (a b : List Int) (k : Int) : List Int := (a.zip b).map fun z => (z.1 + k * z.2) % p
def oftN (p : Nat) (a : List Int) (k : Int) : List Int := a.map fun z => z * k % p
def invN (p : Nat) (x : Int) : Int := (((List.range (p - 1)).filter fun (z : Nat) => decide ((1 + (z : Int)) * x % p = 1)).map fun (z : Nat) => 1 + (z : Int)).getD 0 0
theorem mod_rng {p : Nat} (hp : 0 < p) (x : Int) : 0 ≤ x % p ∧ x % p < p := ⟨Int.emod_nonneg _ (by omega), Int.emod_lt_of_pos _ (by omega)⟩
theorem Rw.add {p n : Nat} {a b : List Int} (hp : 0 < p) (ha : a.length = n) (hb : b.length = n) (k : Int) : Rw p n (addN p a b k) := by
  refine ⟨by simp [addN, ha, hb], fun x hx => ?_⟩
  obtain ⟨z, _, rfl⟩ := List.mem_map.mp hx
  exact mod_rng hp _
theorem Rw.oft {p n : Nat} {a : List Int} (hp : 0 < p) (ha : a.length = n) (k : Int) : Rw p n (oftN p a k) := by
  refine ⟨by simp [oftN, ha], fun x hx => ?_⟩
  obtain ⟨z, _, rfl⟩ := List.mem_map.mp hx
  exact mod_rng hp _
theorem addN_get {p : Nat} {a b : List Int} (h : a.length = b.length) (k : Int) (i : Nat) (hi : i < a.length) : (addN p a b k).getD i 0 = (a.getD i 0 + k * b.getD i 0) % p := by
  unfold addN
  simp only [List.getD_eq_getElem?_getD, List.getElem?_map]
  rw [List.getElem?_eq_getElem (by rw [List.length_zip]; omega), List.getElem_zip, List.getElem?_eq_getElem hi, List.getElem?_eq_getElem (by omega)]
  rfl
theorem oftN_get {p : Nat} {a : List Int} (k : Int) (i : Nat) (hi : i < a.length) : (oftN p a k).getD i 0 = (a.getD i 0 * k) % p := by
  unfold oftN
  simp only [List.getD_eq_getElem?_getD, List.getElem?_map]
  rw [List.getElem?_eq_getElem hi]
  rfl
theorem getD_out {a : List Int} {i : Nat} (h : a.length ≤ i) : a.getD i 0 = 0 := by
  rw [List.getD_eq_getElem?_getD, List.getElem?_eq_none h]; rfl
section
variable {p : Nat} [hp : Pm p]
theorem Pm.pos (p : Nat) [hp : Pm p] : 0 < p := by have := hp.lt; omega
noncomputable def vec (p : Nat) [Pm p] (r : List Int) : V (Fin p) := fun i => ph p (r.getD i 0)
theorem vec_add {a b : List Int} (h : a.length = b.length) (k : Int) (i : Nat) : vec p (addN p a b k) i = vec p a i + ph p k * vec p b i := by
  unfold vec
  by_cases hi : i < a.length
  · rw [addN_get h k i hi, ph_mod, ph_add, ph_mul]
  · rw [getD_out (by simp [addN]; omega), getD_out (by omega), getD_out (by omega), ph_0]; grind
theorem vec_oft {a : List Int} (k : Int) (i : Nat) : vec p (oftN p a k) i = ph p k * vec p a i := by
  unfold vec
  by_cases hi : i < a.length
  · rw [oftN_get k i hi, ph_mod, ph_mul]; grind
  · rw [getD_out (by simp [oftN]; omega), getD_out (by omega), ph_0]; grind
theorem vec_su {n : Nat} {r : List Int} (h : Rw p n r) {i : Nat} (hi : n ≤ i) : vec p r i = 0 := by
  unfold vec
  rw [getD_out (by rw [h.1]; exact hi), ph_0]
theorem vec_su' {n : Nat} {rs : List (List Int)} (h : Rws p n rs) : ∀ r ∈ rs.map (vec p), ∀ i, n ≤ i → r i = 0 := fun r hr i hi => by
  obtain ⟨s, hs, rfl⟩ := List.mem_map.mp hr
  exact vec_su (h s hs) hi
theorem vec_inj {n : Nat} {a b : List Int} (ha : Rw p n a) (hb : Rw p n b) (h : ∀ i < n, vec p a i = vec p b i) : a = b := by
  apply List.ext_getElem (by rw [ha.1, hb.1])
  intro i h1 h2
  have := ph_inj p (ha.get (Pm.pos p) i) (hb.get (Pm.pos p) i) (h i (by rw [← ha.1]; exact h1))
  rw [List.getD_eq_getElem?_getD, List.getElem?_eq_getElem h1, List.getD_eq_getElem?_getD, List.getElem?_eq_getElem h2] at this
  exact this
theorem vec_zero {n : Nat} {r : List Int} (h : Rw p n r) {i : Nat} : vec p r i = 0 ↔ r.getD i 0 = 0 := ph_nz p (h.get (Pm.pos p) i)
theorem invN_ok {x : Int} (h : ph p x ≠ 0) : (0 < invN p x ∧ invN p x < p) ∧ ph p (invN p x) * ph p x = 1 ∧ ((List.range (p - 1)).filter fun (z : Nat) => decide ((1 + (z : Int)) * x % p = 1)) ≠ [] := by
  have hlt := hp.lt
  -- there is one
  have ex : ∃ z : Nat, z ∈ List.range (p - 1) ∧ decide ((1 + (z : Int)) * x % p = 1) = true := by
    have h0 : (ph p x).val ≠ 0 := fun z => h (Fin.ext z)
    obtain ⟨b, hb⟩ := hp.inv (ph p x) h0
    have hx : ph p ((ph p x).val : Int) = ph p x := by
      apply Fin.ext
      have : ph p ((ph p x).val : Int) = Fin.ofNat p (ph p x).val := by
        unfold ph
        exact Ring.intCast_natCast (α := Fin p) _
      rw [this]
      exact Nat.mod_eq_of_lt (ph p x).isLt
    have hxe := (ph_eq p).mp hx
    have hb0 : b.val ≠ 0 := fun z => by rw [z] at hb; simp at hb
    refine ⟨b.val - 1, by simp; have := b.isLt; omega, _root_.decide_eq_true ?_⟩
    have e : (1 + ((b.val - 1 : Nat) : Int)) = (b.val : Int) := by omega
    rw [e, Int.mul_emod, ← hxe, ← Int.mul_emod, Int.mul_comm]
    have : (((ph p x).val * b.val : Nat) : Int) % (p : Int) = 1 := by
      rw [← Int.natCast_emod, hb]; rfl
    rw [← this]; simp
  have ne : ((List.range (p - 1)).filter fun (z : Nat) => decide ((1 + (z : Int)) * x % p = 1)) ≠ [] := by
    obtain ⟨z, h1, h2⟩ := ex
    exact List.ne_nil_of_mem (List.mem_filter.mpr ⟨h1, h2⟩)
  have key : ∃ z : Nat, z ∈ List.range (p - 1) ∧ ((1 + (z : Int)) * x % p = 1) ∧ invN p x = 1 + (z : Int) := by
    unfold invN
    cases e : ((List.range (p - 1)).filter fun (z : Nat) => decide ((1 + (z : Int)) * x % p = 1)) with
    | nil => exact absurd e ne
    | cons z t =>
      have : z ∈ (List.range (p - 1)).filter fun (z : Nat) => decide ((1 + (z : Int)) * x % p = 1) := by rw [e]; simp
      obtain ⟨h1, h2⟩ := List.mem_filter.mp this
      exact ⟨z, h1, of_decide_eq_true h2, rfl⟩
  obtain ⟨z, h1, h2, h3⟩ := key
  have h1 : z < p - 1 := by simpa using h1
  refine ⟨by rw [h3]; omega, ?_, ne⟩
  rw [← ph_mul, h3, ← ph_1, ph_eq, h2, Int.emod_eq_of_lt (by omega) (by omega)]
end
end LA

namespace LA
open Lean.Grind
instance : Pm 2 := ⟨by decide, by decide +kernel⟩
instance : Pm 3 := ⟨by decide, by decide +kernel⟩
instance : Pm 5 := ⟨by decide, by decide +kernel⟩
instance : Pm 7 := ⟨by decide, by decide +kernel⟩
instance : Pm 11 := ⟨by decide, by decide +kernel⟩
instance : Pm 13 := ⟨by decide, by decide +kernel⟩
instance : Pm 17 := ⟨by decide, by decide +kernel⟩
instance : Pm 19 := ⟨by decide, by decide +kernel⟩
instance : Pm 23 := ⟨by decide, by decide +kernel⟩
instance : Pm 29 := ⟨by decide, by decide +kernel⟩
instance : Pm 31 := ⟨by decide, by decide +kernel⟩
def prms : List Nat := [2, 3, 5, 7, 11, 13, 17, 19, 23, 29, 31]
theorem pm_of {p : Nat} (h : p ∈ prms) : Pm p ∧ p ≤ 31 := by
  simp only [prms, List.mem_cons, List.not_mem_nil, or_false] at h
  rcases h with rfl | rfl | rfl | rfl | rfl | rfl | rfl | rfl | rfl | rfl | rfl <;> exact ⟨inferInstance, by decide⟩
/-! ### forms of whole numbers -/
structure IForm (p n : Nat) (f : List (List Int)) (cs : List Nat) (x : Nat → List Int) : Prop where
  eq : f = cs.map x
  up : cs.Pairwise (· < ·)
  lt : ∀ c ∈ cs, c < n
  rw : ∀ c ∈ cs, Rw p n (x c)
  one : ∀ c ∈ cs, ∀ l ∈ cs, (x c).getD l 0 = if c = l then 1 else 0
  pre : ∀ c ∈ cs, ∀ i < c, (x c).getD i 0 = 0
def IsF (p n : Nat) (f : List (List Int)) : Prop := ∃ cs x, IForm p n f cs x
theorem IsF.rws {p n : Nat} {f : List (List Int)} (h : IsF p n f) : Rws p n f := by
  obtain ⟨cs, x, h⟩ := h
  rw [h.eq]
  intro r hr
  obtain ⟨c, hc, rfl⟩ := List.mem_map.mp hr
  exact h.rw c hc
section
variable {p : Nat} [hp : Pm p] {n : Nat}
/-- the span of rows of whole numbers -/
def SpI (p : Nat) [Pm p] (rs : List (List Int)) : V (Fin p) → Prop := Sp (rs.map (vec p))
def SameI (p : Nat) [Pm p] (rs ss : List (List Int)) : Prop := Same (rs.map (vec p)) (ss.map (vec p))
theorem IForm.frm {f : List (List Int)} {cs : List Nat} {x : Nat → List Int} (h : IForm p n f cs x) : Frm n cs (fun c => vec p (x c)) := by
  refine ⟨h.up, h.lt, fun c hc i hi => vec_su (h.rw c hc) hi, fun c hc l hl => ?_, fun c hc i hi => ?_⟩
  · show ph p _ = _
    rw [h.one c hc l hl]
    split
    · exact ph_1 p
    · exact ph_0 p
  · show ph p _ = _
    rw [h.pre c hc i hi, ph_0]
theorem IForm.vecs {f : List (List Int)} {cs : List Nat} {x : Nat → List Int} (h : IForm p n f cs x) : f.map (vec p) = cs.map (fun c => vec p (x c)) := by
  rw [h.eq, List.map_map]; rfl
theorem IsF.uniq {f g : List (List Int)} (hf : IsF p n f) (hg : IsF p n g) (s : SameI p f g) : f = g := by
  obtain ⟨cs, x, h⟩ := hf
  obtain ⟨ds, y, h'⟩ := hg
  unfold SameI at s
  rw [h.vecs, h'.vecs] at s
  obtain ⟨rfl, e⟩ := h.frm.unique h'.frm s
  rw [h.eq, h'.eq]
  apply List.map_congr_left
  intro c hc
  exact vec_inj (h.rw c hc) (h'.rw c hc) fun i _ => congrFun (e c hc) i
theorem IForm.len {f : List (List Int)} {cs : List Nat} {x : Nat → List Int} (h : IForm p n f cs x) : f.length = cs.length := by rw [h.eq, List.length_map]
/-- the width of what some rows make -/
noncomputable def wI (p : Nat) [Pm p] (n : Nat) (rs : List (List Int)) : Nat := wd n (SpI p rs)
theorem IsF.wd {f : List (List Int)} (h : IsF p n f) : wI p n f = f.length := by
  obtain ⟨cs, x, h⟩ := h
  unfold wI SpI
  rw [h.vecs, h.frm.dual.wd, h.len]
theorem wI_same {rs ss : List (List Int)} (h : SameI p rs ss) : wI p n rs = wI p n ss := wd_same h
/-! ### the form as the program makes it -/
def somN (left : List (List Int)) (k : Nat) : List Int := (left.zipIdx.filter fun z => !decide (z.1.getD k 0 = 0)).map fun z => (z.2 : Int)
def clrN (p : Nat) (k : Nat) (row : List Int) (o : List Int) : List Int := addN p o row (-(o.getD k 0))
def rowN (p : Nat) (left : List (List Int)) (k : Nat) (a : Int) : List Int := oftN p (left.getD a.toNat []) (invN p ((left.getD a.toNat []).getD k 0))
def stepN (p : Nat) (st : List (List Int) × List (List Int)) (k : Nat) : List (List Int) × List (List Int) := match somN st.1 k with
  | [] => st
  | a :: _ => ((st.1.eraseIdx a.toNat).map (clrN p k (rowN p st.1 k a)), st.2.map (clrN p k (rowN p st.1 k a)) ++ [rowN p st.1 k a])
def formN (p n : Nat) (rows : List (List Int)) : List (List Int) := ((List.range n).foldl (stepN p) (rows, [])).2
theorem som_nil {left : List (List Int)} {k : Nat} (h : somN left k = []) : ∀ r ∈ left, r.getD k 0 = 0 := by
  intro r hr
  unfold somN at h
  rw [List.map_eq_nil_iff, List.filter_eq_nil_iff] at h
  obtain ⟨i, hi, rfl⟩ := List.mem_iff_getElem.mp hr
  have := h (left[i], i) (by
    rw [List.mem_iff_getElem?]
    exact ⟨i, by simp [List.getElem?_zipIdx, List.getElem?_eq_getElem hi]⟩)
  simpa using this
theorem som_cons {left : List (List Int)} {k : Nat} {a : Int} {t : List Int} (h : somN left k = a :: t) : 0 ≤ a ∧ a.toNat < left.length ∧ (left.getD a.toNat []).getD k 0 ≠ 0 := by
  have : a ∈ somN left k := by rw [h]; simp
  unfold somN at this
  obtain ⟨z, hz, rfl⟩ := List.mem_map.mp this
  obtain ⟨h1, h2⟩ := List.mem_filter.mp hz
  have h3 := List.mem_zipIdx h1
  have h4 : z.2 < left.length := by have := h3.2.1; simpa using this
  have h5 : left.getD z.2 [] = z.1 := by
    rw [List.getD_eq_getElem?_getD, List.getElem?_eq_getElem h4]
    have := h3.2.2
    simp at this
    simp [this]
  refine ⟨by omega, by simpa using h4, ?_⟩
  simp only [Int.toNat_natCast, h5]
  simpa using h2
/-- what holds between two places -/
structure Mid (p : Nat) [Pm p] (n : Nat) (rows : List (List Int)) (k : Nat) (st : List (List Int) × List (List Int)) : Prop where
  rws : Rws p n st.1
  same : SameI p (st.2 ++ st.1) rows
  zero : ∀ r ∈ st.1, ∀ i < k, r.getD i 0 = 0
  frm : ∃ cs x, IForm p n st.2 cs x ∧ ∀ c ∈ cs, c < k
theorem getD_mem {left : List (List Int)} {i : Nat} (h : i < left.length) : left.getD i [] ∈ left := by
  rw [List.getD_eq_getElem?_getD, List.getElem?_eq_getElem h]
  exact List.getElem_mem h
theorem mem_erase {α : Type} : ∀ {l : List α} {i : Nat} {r : α}, r ∈ l.eraseIdx i → r ∈ l
  | [], i, r, h => by simp at h
  | a :: l, 0, r, h => by simp at h; simp [h]
  | a :: l, i + 1, r, h => by
    rw [List.eraseIdx_cons_succ, List.mem_cons] at h
    rcases h with rfl | h
    · simp
    · simp [mem_erase h]
theorem mem_erase' {l : List (List Int)} {i : Nat} {r : List Int} (h : r ∈ l) : r = l.getD i [] ∨ r ∈ l.eraseIdx i := by
  induction l generalizing i with
  | nil => simp at h
  | cons a l ih =>
    cases i with
    | zero =>
      rcases List.mem_cons.mp h with rfl | h
      · exact .inl rfl
      · exact .inr (by simpa using h)
    | succ i =>
      rcases List.mem_cons.mp h with rfl | h
      · exact .inr (by simp)
      · rcases ih (i := i) h with e | e
        · exact .inl (by simpa using e)
        · exact .inr (by simp [e])
theorem vec_clr {k : Nat} {row o : List Int} (h : o.length = row.length) (i : Nat) : vec p (clrN p k row o) i = vec p o i + (-(ph p (o.getD k 0))) * vec p row i := by
  unfold clrN
  rw [vec_add h, ph_neg]
theorem Mid.step {rows : List (List Int)} {k : Nat} {st : List (List Int) × List (List Int)} (hk : k < n) (m : Mid p n rows k st) : Mid p n rows (k + 1) (stepN p st k) := by
  unfold stepN
  cases e : somN st.1 k with
  | nil =>
    refine ⟨m.rws, m.same, fun r hr i hi => ?_, ?_⟩
    · by_cases q : i = k
      · rw [q]; exact som_nil e r hr
      · exact m.zero r hr i (by omega)
    · obtain ⟨cs, x, h1, h2⟩ := m.frm
      exact ⟨cs, x, h1, fun c hc => by have := h2 c hc; omega⟩
  | cons a t =>
    obtain ⟨a0, a1, a2⟩ := som_cons e
    have mem0 := getD_mem a1
    have row : ∃ r0, r0 = st.1.getD a.toNat [] := ⟨_, rfl⟩
    obtain ⟨r0, hr0⟩ := row
    rw [← hr0] at mem0 a2
    have R0 := m.rws r0 mem0
    have pz : ph p (r0.getD k 0) ≠ 0 := fun z => a2 ((ph_nz p (R0.get (Pm.pos p) k)).mp z)
    obtain ⟨iv1, iv2, _⟩ := invN_ok pz
    have rowe : ∃ w, w = rowN p st.1 k a := ⟨_, rfl⟩
    obtain ⟨w, hw⟩ := rowe
    have hw' : w = oftN p r0 (invN p (r0.getD k 0)) := by rw [hw, hr0]; rfl
    have W : Rw p n w := by rw [hw']; exact Rw.oft (Pm.pos p) R0.1 _
    have vw : ∀ i, vec p w i = ph p (invN p (r0.getD k 0)) * vec p r0 i := fun i => by rw [hw', vec_oft]
    have vwk : vec p w k = 1 := by rw [vw]; exact iv2
    have w0 : ∀ i < k, w.getD i 0 = 0 := fun i hi => by
      rw [← vec_zero W, vw, (vec_zero R0).mpr (m.zero r0 mem0 i hi)]; grind
    have wk : w.getD k 0 = 1 := ph_inj p (W.get (Pm.pos p) k) ⟨by omega, by have := hp.lt; omega⟩ (by rw [ph_1]; exact vwk)
    obtain ⟨cs, x, h1, h2⟩ := m.frm
    have wcs : ∀ c ∈ cs, vec p w c = 0 := fun c hc => by rw [vec_zero W]; exact w0 c (h2 c hc)
    have frws : Rws p n st.2 := IsF.rws ⟨cs, x, h1⟩
    simp only
    rw [← hw]
    refine ⟨?_, ?_, ?_, ?_⟩
    · intro r hr
      obtain ⟨o, ho, rfl⟩ := List.mem_map.mp hr
      exact Rw.add (Pm.pos p) (m.rws o (mem_erase ho)).1 W.1 _
    · refine Same.trans (Same.of (fun v hv => ?_) fun v hv => ?_) m.same
      · -- new rows from old ones
        have old : ∀ o, o ∈ st.2 ++ st.1 → Sp ((st.2 ++ st.1).map (vec p)) (vec p o) := fun o ho => Sp.mem (List.mem_map_of_mem ho)
        have sw : Sp ((st.2 ++ st.1).map (vec p)) (vec p w) := (Sp.sbs _).sm _ (old r0 (by simp [mem0])) vw
        have clr : ∀ o, o ∈ st.2 ++ st.1 → o.length = n → Sp ((st.2 ++ st.1).map (vec p)) (vec p (clrN p k w o)) := fun o ho hl =>
          (Sp.sbs _).of 1 (-(ph p (o.getD k 0))) (old o ho) sw fun i => by rw [vec_clr (by rw [hl, W.1])]; grind
        obtain ⟨o, ho, rfl⟩ := List.mem_map.mp hv
        simp only [List.mem_append, List.mem_map, List.mem_singleton] at ho
        rcases ho with (⟨o, ho, rfl⟩ | rfl) | ⟨o, ho, rfl⟩
        · exact clr o (by simp [ho]) (frws o ho).1
        · exact sw
        · exact clr o (by simp [mem_erase ho]) (m.rws o (mem_erase ho)).1
      · obtain ⟨o, ho, rfl⟩ := List.mem_map.mp hv
        have nw : Sp ((st.2.map (clrN p k w) ++ [w] ++ (st.1.eraseIdx a.toNat).map (clrN p k w)).map (vec p)) (vec p w) := Sp.mem (List.mem_map_of_mem (by simp))
        have back : ∀ o, o.length = n → clrN p k w o ∈ (st.2.map (clrN p k w) ++ [w] ++ (st.1.eraseIdx a.toNat).map (clrN p k w)) → Sp ((st.2.map (clrN p k w) ++ [w] ++ (st.1.eraseIdx a.toNat).map (clrN p k w)).map (vec p)) (vec p o) := fun o hl ho =>
          (Sp.sbs _).of 1 (ph p (o.getD k 0)) (Sp.mem (List.mem_map_of_mem ho)) nw fun i => by rw [vec_clr (by rw [hl, W.1])]; grind
        rcases List.mem_append.mp ho with ho | ho
        · exact back o (frws o ho).1 (by simp only [List.mem_append, List.mem_map]; exact .inl (.inl ⟨o, ho, rfl⟩))
        · rcases mem_erase' (i := a.toNat) ho with q | q
          · rw [q, ← hr0]
            refine (Sp.sbs _).sm (vec p r0 k) nw fun i => ?_
            rw [vw]
            have : ph p (invN p (r0.getD k 0)) * vec p r0 k = 1 := iv2
            grind
          · exact back o (m.rws o ho).1 (by simp only [List.mem_append, List.mem_map]; exact .inr ⟨o, q, rfl⟩)
    · intro r hr i hi
      obtain ⟨o, ho, rfl⟩ := List.mem_map.mp hr
      have O := m.rws o (mem_erase ho)
      have C : Rw p n (clrN p k w o) := Rw.add (Pm.pos p) O.1 W.1 _
      rw [← vec_zero C, vec_clr (by rw [O.1, W.1])]
      by_cases q : i = k
      · rw [q, vwk]
        show ph p _ + _ = 0
        grind
      · rw [(vec_zero W).mpr (w0 i (by omega)), (vec_zero O).mpr (m.zero o (mem_erase ho) i (by omega))]; grind
    · refine ⟨cs ++ [k], fun c => if c = k then w else clrN p k w (x c), ⟨?_, ?_, ?_, ?_, ?_, ?_⟩, ?_⟩
      · show st.2.map (clrN p k w) ++ [w] = _
        rw [List.map_append, List.map_singleton, if_pos rfl, h1.eq, List.map_map]
        refine congrArg (· ++ [w]) (List.map_congr_left fun c hc => ?_)
        have := h2 c hc
        rw [if_neg (by omega)]; rfl
      · rw [List.pairwise_append]
        exact ⟨h1.up, by simp, fun c hc d hd => by rw [List.mem_singleton] at hd; rw [hd]; exact h2 c hc⟩
      · intro c hc
        rcases List.mem_append.mp hc with hc | hc
        · exact h1.lt c hc
        · rw [List.mem_singleton] at hc; omega
      · intro c hc
        by_cases q : c = k
        · simp only [q, if_true]; exact W
        · have hc' : c ∈ cs := (List.mem_append.mp hc).resolve_right (by simpa using q)
          simp only [q, if_false]
          exact Rw.add (Pm.pos p) (h1.rw c hc').1 W.1 _
      · intro c hc l hl
        by_cases q : c = k
        · simp only [q, if_true]
          by_cases q2 : l = k
          · subst q2
            rw [if_pos rfl, wk]
          · have hl' : l ∈ cs := (List.mem_append.mp hl).resolve_right (by simpa using q2)
            rw [if_neg fun z => q2 z.symm, w0 l (h2 l hl')]
        · have hc' : c ∈ cs := (List.mem_append.mp hc).resolve_right (by simpa using q)
          simp only [q, if_false]
          have X := h1.rw c hc'
          have C : Rw p n (clrN p k w (x c)) := Rw.add (Pm.pos p) X.1 W.1 _
          by_cases q2 : l = k
          · subst q2
            rw [if_neg q, ← vec_zero C, vec_clr (by rw [X.1, W.1]), vwk]
            show ph p _ + _ = 0
            grind
          · have hl' : l ∈ cs := (List.mem_append.mp hl).resolve_right (by simpa using q2)
            rw [← h1.one c hc' l hl']
            apply ph_inj p (C.get (Pm.pos p) l) (X.get (Pm.pos p) l)
            show vec p (clrN p k w (x c)) l = vec p (x c) l
            rw [vec_clr (by rw [X.1, W.1]), wcs l hl']; grind
      · intro c hc i hi
        by_cases q : c = k
        · subst q
          simp only [if_true]; exact w0 i hi
        · have hc' : c ∈ cs := (List.mem_append.mp hc).resolve_right (by simpa using q)
          simp only [q, if_false]
          have X := h1.rw c hc'
          have C : Rw p n (clrN p k w (x c)) := Rw.add (Pm.pos p) X.1 W.1 _
          have := h2 c hc'
          rw [← vec_zero C, vec_clr (by rw [X.1, W.1]), (vec_zero W).mpr (w0 i (by omega)), (vec_zero X).mpr (h1.pre c hc' i hi)]; grind
      · intro c hc
        rcases List.mem_append.mp hc with hc | hc
        · have := h2 c hc; omega
        · rw [List.mem_singleton] at hc; omega
theorem mid_all {rows : List (List Int)} (h : Rws p n rows) : ∀ k ≤ n, Mid p n rows k ((List.range k).foldl (stepN p) (rows, []))
  | 0, _ => ⟨h, by
    show SameI p ([] ++ rows) rows
    exact Same.rfl, fun _ _ _ hi => absurd hi (by omega), [], fun _ => [], ⟨rfl, List.Pairwise.nil, by simp, by simp, by simp, by simp⟩, by simp⟩
  | k + 1, hk => by
    rw [List.range_succ, List.foldl_append]
    exact (mid_all h k (by omega)).step (by omega)
theorem formN_ok {rows : List (List Int)} (h : Rws p n rows) : IsF p n (formN p n rows) ∧ SameI p (formN p n rows) rows := by
  have m := mid_all h n (Nat.le_refl n)
  obtain ⟨cs, x, h1, _⟩ := m.frm
  refine ⟨⟨cs, x, h1⟩, Same.trans (Same.of (fun v hv => Sp.mem ?_) fun v hv => ?_) m.same⟩
  · obtain ⟨o, ho, rfl⟩ := List.mem_map.mp hv
    exact List.mem_map_of_mem (by simp; exact .inl ho)
  · obtain ⟨o, ho, rfl⟩ := List.mem_map.mp hv
    rcases List.mem_append.mp ho with ho | ho
    · exact Sp.mem (List.mem_map_of_mem ho)
    · refine (Sp.z _).congr fun i => ?_
      by_cases hi : i < n
      · exact (vec_zero (m.rws o ho)).mpr (m.zero o ho i hi)
      · exact vec_su (m.rws o ho) (by omega)
theorem formN_isF {rows : List (List Int)} (h : Rws p n rows) : IsF p n (formN p n rows) := (formN_ok h).1
theorem formN_same {rows : List (List Int)} (h : Rws p n rows) : SameI p (formN p n rows) rows := (formN_ok h).2
theorem formN_eq {rows f : List (List Int)} (h : Rws p n rows) (hf : IsF p n f) (s : SameI p f rows) : formN p n rows = f := (formN_isF h).uniq hf ((formN_same h).trans s.symm)
theorem formN_self {f : List (List Int)} (hf : IsF p n f) : formN p n f = f := formN_eq hf.rws hf Same.rfl
theorem formN_congr {rows ss : List (List Int)} (h : Rws p n rows) (h' : Rws p n ss) (s : SameI p rows ss) : formN p n rows = formN p n ss := formN_eq h (formN_isF h') ((formN_same h').trans s.symm)
theorem formN_len {rows : List (List Int)} (h : Rws p n rows) : (formN p n rows).length = wI p n rows := by
  rw [← (formN_isF h).wd, wI_same (formN_same h)]
end
end LA

namespace LA
open Lean.Grind
/-! ### the form as the laws make it: rows put in one by one -/
structure UForm (p n : Nat) (f : List (List Int)) (cs : List Nat) (x : Nat → List Int) : Prop where
  eq : f = cs.map x
  nd : cs.Nodup
  lt : ∀ c ∈ cs, c < n
  rw : ∀ c ∈ cs, Rw p n (x c)
  one : ∀ c ∈ cs, ∀ l ∈ cs, (x c).getD l 0 = if c = l then 1 else 0
  pre : ∀ c ∈ cs, ∀ i < c, (x c).getD i 0 = 0
def lessN (p : Nat) (a b : List Int) (k : Int) : List Int := (a.zip b).map fun z => (z.1 - k * z.2) % p
theorem lessN_eq (p : Nat) (a b : List Int) (k : Int) : lessN p a b k = addN p a b (-k) := by
  unfold lessN addN
  apply List.map_congr_left
  intro z _
  congr 1
  rw [Int.neg_mul]; rfl
def idxN (r : List Int) : Nat := (r.findIdx? (· == 1)).getD 0
theorem idx_some : ∀ {r : List Int} {c : Nat}, r.getD c 0 = 1 → (∀ i < c, r.getD i 0 = 0) → r.findIdx? (· == 1) = some c
  | [], c, h, _ => by simp at h
  | a :: r, 0, h, _ => by
    have : a = 1 := by simpa using h
    subst this
    simp [List.findIdx?_cons]
  | a :: r, c + 1, h, h0 => by
    have ha : a = 0 := by simpa using h0 0 (by omega)
    subst ha
    rw [List.findIdx?_cons, idx_some (r := r) (c := c) (by simpa using h) fun i hi => by simpa using h0 (i + 1) (by omega)]
    simp
def redN (p : Nat) (found : List (List Int)) (row : List Int) : List Int := found.foldl (fun r line => lessN p r line (r.getD (idxN line) 0)) row
def nzF (r : List Int) : List Int := (r.zipIdx.filter fun z => !decide (z.1 = 0)).map fun z => (z.2 : Int)
def insN (p : Nat) (found : List (List Int)) (row : List Int) : List (List Int) := match nzF (redN p found row) with
  | [] => found
  | c :: _ => found.map (clrN p c.toNat (oftN p (redN p found row) (invN p ((redN p found row).getD c.toNat 0)))) ++ [oftN p (redN p found row) (invN p ((redN p found row).getD c.toNat 0))]
def lformN (p : Nat) (rows : List (List Int)) : List (List Int) := FR.sortRows (rows.foldl (insN p) [])
theorem nzF_aux : ∀ (r : List Int) (k : Nat) (c : Int) (t : List Int), ((r.zipIdx k).filter fun z => !decide (z.1 = 0)).map (fun z => (z.2 : Int)) = c :: t → ∃ i : Nat, c = ((k + i : Nat) : Int) ∧ i < r.length ∧ r.getD i 0 ≠ 0 ∧ ∀ j < i, r.getD j 0 = 0
  | [], k, c, t, h => by simp at h
  | a :: r, k, c, t, h => by
    rw [List.zipIdx_cons, List.filter_cons] at h
    by_cases ha : a = 0
    · rw [if_neg (by simp [ha])] at h
      obtain ⟨i, h1, h2, h3, h4⟩ := nzF_aux r (k + 1) c t h
      refine ⟨i + 1, by rw [h1]; congr 1; omega, by simp; omega, by simpa using h3, fun j hj => ?_⟩
      cases j with
      | zero => simpa using ha
      | succ j => simpa using h4 j (by omega)
    · rw [if_pos (by simp [ha])] at h
      simp only [List.map_cons, List.cons.injEq] at h
      exact ⟨0, h.1.symm, by simp, by simpa using ha, fun j hj => absurd hj (by omega)⟩
theorem nzF_cons {r : List Int} {c : Int} {t : List Int} (h : nzF r = c :: t) : 0 ≤ c ∧ c.toNat < r.length ∧ r.getD c.toNat 0 ≠ 0 ∧ ∀ j < c.toNat, r.getD j 0 = 0 := by
  obtain ⟨i, h1, h2, h3, h4⟩ := nzF_aux r 0 c t h
  have : c = (i : Int) := by rw [h1, Nat.zero_add]
  subst this
  exact ⟨by omega, by simpa using h2, by simpa using h3, by simpa using h4⟩
theorem nzF_nil {r : List Int} (h : nzF r = []) : ∀ i, r.getD i 0 = 0 := by
  intro i
  by_cases hi : i < r.length
  · unfold nzF at h
    rw [List.map_eq_nil_iff, List.filter_eq_nil_iff] at h
    have := h (r[i], i) (by rw [List.mem_iff_getElem?]; exact ⟨i, by simp [List.getElem?_zipIdx, List.getElem?_eq_getElem hi]⟩)
    rw [List.getD_eq_getElem?_getD, List.getElem?_eq_getElem hi]
    simpa using this
  · exact getD_out (by omega)
section
variable {p : Nat} [hp : Pm p] {n : Nat}
theorem red_ok {cs : List Nat} {x : Nat → List Int} (one : ∀ c ∈ cs, ∀ l ∈ cs, (x c).getD l 0 = if c = l then 1 else 0) (pre : ∀ c ∈ cs, ∀ i < c, (x c).getD i 0 = 0) (rw_ : ∀ c ∈ cs, Rw p n (x c)) :
    ∀ (ds es : List Nat) (r : List Int), es ++ ds = cs → Rw p n r → (∀ c ∈ es, r.getD c 0 = 0) → Rw p n (redN p (ds.map x) r) ∧ (∀ c ∈ cs, (redN p (ds.map x) r).getD c 0 = 0) ∧ ∃ w, Sp ((cs.map x).map (vec p)) w ∧ ∀ i, vec p (redN p (ds.map x) r) i = vec p r i + w i
  | [], es, r, e, hr, h0 => by
    rw [List.append_nil] at e
    subst e
    exact ⟨hr, h0, _, Sp.z _, fun i => by
      show vec p r i = _
      grind⟩
  | c :: ds, es, r, e, hr, h0 => by
    have hc : c ∈ cs := by rw [← e]; simp
    have X := rw_ c hc
    have ic : idxN (x c) = c := by
      unfold idxN
      rw [idx_some (c := c) (by rw [one c hc c hc, if_pos rfl]) (pre c hc)]; rfl
    have step : redN p ((c :: ds).map x) r = redN p (ds.map x) (addN p r (x c) (-(r.getD c 0))) := by
      unfold redN
      rw [List.map_cons, List.foldl_cons, ic, lessN_eq]
    have R : Rw p n (addN p r (x c) (-(r.getD c 0))) := Rw.add (Pm.pos p) hr.1 X.1 _
    have vr : ∀ i, vec p (addN p r (x c) (-(r.getD c 0))) i = vec p r i + (-(ph p (r.getD c 0))) * vec p (x c) i := fun i => by
      rw [vec_add (by rw [hr.1, X.1]), ph_neg]
    rw [step]
    obtain ⟨a1, a2, w, a3, a4⟩ := red_ok one pre rw_ ds (es ++ [c]) _ (by rw [← e]; simp) R fun l hl => by
      rw [← vec_zero R, vr]
      rcases List.mem_append.mp hl with hl | hl
      · have hl' : l ∈ cs := by rw [← e]; simp [hl]
        have e0 : vec p r l = 0 := (vec_zero hr).mpr (h0 l hl)
        by_cases q : c = l
        · subst q
          rw [h0 c hl, ph_0, e0]; grind
        · have : vec p (x c) l = 0 := (vec_zero X).mpr (by rw [one c hc l hl', if_neg q])
          rw [e0, this]; grind
      · rw [List.mem_singleton] at hl
        subst hl
        have : vec p (x l) l = 1 := by
          show ph p _ = 1
          rw [one l hc l hc, if_pos rfl, ph_1]
        rw [this]
        show ph p _ + _ = 0
        grind
    refine ⟨a1, a2, fun i => (-(ph p (r.getD c 0))) * vec p (x c) i + 1 * w i, (Sp.sbs _).lin _ _ (Sp.mem (List.mem_map_of_mem (List.mem_map_of_mem hc))) a3, fun i => ?_⟩
    rw [a4, vr]; grind
theorem ins_ok {f : List (List Int)} {cs : List Nat} {x : Nat → List Int} (h : UForm p n f cs x) {row : List Int} (hr : Rw p n row) : (∃ ds y, UForm p n (insN p f row) ds y) ∧ SameI p (insN p f row) (f ++ [row]) := by
  obtain ⟨R, z, w, hw, vr⟩ := red_ok h.one h.pre h.rw cs [] row rfl hr (by simp)
  rw [← h.eq] at R z hw vr
  unfold insN
  cases e : nzF (redN p f row) with
  | nil =>
    refine ⟨⟨cs, x, h⟩, Same.of (fun v hv => Sp.mem ?_) fun v hv => ?_⟩
    · obtain ⟨o, ho, rfl⟩ := List.mem_map.mp hv
      exact List.mem_map_of_mem (by simp [ho])
    · obtain ⟨o, ho, rfl⟩ := List.mem_map.mp hv
      rcases List.mem_append.mp ho with ho | ho
      · exact Sp.mem (List.mem_map_of_mem ho)
      · rw [List.mem_singleton] at ho
        subst ho
        refine (Sp.sbs _).sm (-1) hw fun i => ?_
        have h0 : vec p (redN p f o) i = 0 := (vec_zero R).mpr (nzF_nil e i)
        rw [vr] at h0
        grind
  | cons c t =>
    obtain ⟨c0, c1, c2, c3⟩ := nzF_cons e
    obtain ⟨k, rfl⟩ : ∃ k : Nat, c = (k : Int) := ⟨c.toNat, by omega⟩
    simp only [Int.toNat_natCast] at c1 c2 c3 ⊢
    rw [R.1] at c1
    generalize hr' : redN p f row = r' at *
    have pz : ph p (r'.getD k 0) ≠ 0 := fun q => c2 ((ph_nz p (R.get (Pm.pos p) k)).mp q)
    obtain ⟨iv1, iv2, _⟩ := invN_ok pz
    generalize hu : oftN p r' (invN p (r'.getD k 0)) = u
    have U : Rw p n u := by rw [← hu]; exact Rw.oft (Pm.pos p) R.1 _
    have vu : ∀ i, vec p u i = ph p (invN p (r'.getD k 0)) * vec p r' i := fun i => by rw [← hu, vec_oft]
    have vuk : vec p u k = 1 := by rw [vu]; exact iv2
    have u0 : ∀ i < k, u.getD i 0 = 0 := fun i hi => by
      rw [← vec_zero U, vu, (vec_zero R).mpr (c3 i hi)]; grind
    have uk : u.getD k 0 = 1 := ph_inj p (U.get (Pm.pos p) k) ⟨by omega, by have := hp.lt; omega⟩ (by rw [ph_1]; exact vuk)
    have uc : ∀ c ∈ cs, vec p u c = 0 := fun c hc => by rw [vu, (vec_zero R).mpr (z c hc)]; grind
    have uc' : ∀ c ∈ cs, u.getD c 0 = 0 := fun c hc => (vec_zero U).mp (uc c hc)
    have kc : k ∉ cs := fun q => c2 (z k q)
    have C : ∀ c ∈ cs, Rw p n (clrN p k u (x c)) := fun c hc => Rw.add (Pm.pos p) (h.rw c hc).1 U.1 _
    have vC : ∀ c ∈ cs, ∀ i, vec p (clrN p k u (x c)) i = vec p (x c) i + (-(vec p (x c) k)) * vec p u i := fun c hc i => vec_clr (by rw [(h.rw c hc).1, U.1]) i
    refine ⟨⟨cs ++ [k], fun c => if c = k then u else clrN p k u (x c), ⟨?_, ?_, ?_, ?_, ?_, ?_⟩⟩, ?_⟩
    · rw [List.map_append, List.map_singleton, if_pos rfl, h.eq, List.map_map]
      refine congrArg (· ++ [u]) (List.map_congr_left fun c hc => ?_)
      rw [if_neg (show ¬ c = k from fun q => kc (by rw [← q]; exact hc))]; rfl
    · rw [List.nodup_append]
      exact ⟨h.nd, by simp, fun a ha b hb q => by rw [List.mem_singleton] at hb; subst hb; exact kc (q ▸ ha)⟩
    · intro c hc
      rcases List.mem_append.mp hc with hc | hc
      · exact h.lt c hc
      · rw [List.mem_singleton] at hc; omega
    · intro c hc
      by_cases q : c = k
      · simp only [q, if_true]; exact U
      · simp only [q, if_false]
        exact C c ((List.mem_append.mp hc).resolve_right (by simpa using q))
    · intro c hc l hl
      by_cases q : c = k
      · simp only [q, if_true]
        by_cases q2 : l = k
        · subst q2
          rw [if_pos rfl, uk]
        · rw [if_neg fun z => q2 z.symm]
          exact uc' l ((List.mem_append.mp hl).resolve_right (by simpa using q2))
      · have hc' := (List.mem_append.mp hc).resolve_right (by simpa using q)
        simp only [q, if_false]
        by_cases q2 : l = k
        · subst q2
          rw [if_neg q, ← vec_zero (C c hc'), vC c hc', vuk]; grind
        · have hl' := (List.mem_append.mp hl).resolve_right (by simpa using q2)
          rw [← h.one c hc' l hl']
          apply ph_inj p ((C c hc').get (Pm.pos p) l) ((h.rw c hc').get (Pm.pos p) l)
          show vec p (clrN p k u (x c)) l = vec p (x c) l
          rw [vC c hc', uc l hl']; grind
    · intro c hc i hi
      by_cases q : c = k
      · subst q
        simp only [if_true]; exact u0 i hi
      · have hc' := (List.mem_append.mp hc).resolve_right (by simpa using q)
        simp only [q, if_false]
        rw [← vec_zero (C c hc'), vC c hc', (vec_zero (h.rw c hc')).mpr (h.pre c hc' i hi)]
        by_cases q3 : c < k
        · rw [(vec_zero U).mpr (u0 i (by omega))]; grind
        · rw [(vec_zero (h.rw c hc')).mpr (h.pre c hc' k (by omega))]; grind
    · have F : ∀ o ∈ f, Rw p n o := by
        rw [h.eq]
        intro o ho
        obtain ⟨c, hc, rfl⟩ := List.mem_map.mp ho
        exact h.rw c hc
      have vCo : ∀ o ∈ f, ∀ i, vec p (clrN p k u o) i = vec p o i + (-(vec p o k)) * vec p u i := fun o ho i => vec_clr (by rw [(F o ho).1, U.1]) i
      have su : Sp ((f ++ [row]).map (vec p)) (vec p u) := by
        have h1 : Sp ((f ++ [row]).map (vec p)) w := hw.mono fun v hv => by
          obtain ⟨o, ho, rfl⟩ := List.mem_map.mp hv
          exact List.mem_map_of_mem (by simp [ho])
        refine (Sp.sbs _).of (ph p (invN p (r'.getD k 0))) (ph p (invN p (r'.getD k 0))) (Sp.mem (List.mem_map_of_mem (a := row) (by simp))) h1 fun i => ?_
        rw [vu, vr]; grind
      have nu : Sp ((f.map (clrN p k u) ++ [u]).map (vec p)) (vec p u) := Sp.mem (List.mem_map_of_mem (by simp))
      have no : ∀ o ∈ f, Sp ((f.map (clrN p k u) ++ [u]).map (vec p)) (vec p o) := fun o ho =>
        (Sp.sbs _).of 1 (vec p o k) (Sp.mem (List.mem_map_of_mem (a := clrN p k u o) (by simp only [List.mem_append, List.mem_map]; exact .inl ⟨o, ho, rfl⟩))) nu fun i => by rw [vCo o ho]; grind
      refine Same.of (fun v hv => ?_) fun v hv => ?_
      · obtain ⟨o, ho, rfl⟩ := List.mem_map.mp hv
        rcases List.mem_append.mp ho with ho | ho
        · obtain ⟨q, hq, rfl⟩ := List.mem_map.mp ho
          exact (Sp.sbs _).of 1 (-(vec p q k)) (Sp.mem (List.mem_map_of_mem (a := q) (by simp [hq]))) su fun i => by rw [vCo q hq]; grind
        · rw [List.mem_singleton] at ho
          subst ho; exact su
      · obtain ⟨o, ho, rfl⟩ := List.mem_map.mp hv
        rcases List.mem_append.mp ho with ho | ho
        · exact no o ho
        · rw [List.mem_singleton] at ho
          subst ho
          have h1 : Sp ((f.map (clrN p k u) ++ [u]).map (vec p)) w := Sp.trans (fun v hv => by
            obtain ⟨o, ho, rfl⟩ := List.mem_map.mp hv
            exact no o ho) hw
          refine (Sp.sbs _).of (vec p r' k) (-1) nu h1 fun i => ?_
          rw [vu]
          have q1 : ph p (invN p (r'.getD k 0)) * vec p r' k = 1 := iv2
          have q2 := vr i
          grind
theorem fold_ok : ∀ (rows : List (List Int)) (f done : List (List Int)), Rws p n rows → (∃ cs x, UForm p n f cs x) → SameI p f done → (∃ cs x, UForm p n (rows.foldl (insN p) f) cs x) ∧ SameI p (rows.foldl (insN p) f) (done ++ rows)
  | [], f, done, _, hf, s => ⟨hf, by rw [List.append_nil]; exact s⟩
  | r :: rows, f, done, h, ⟨cs, x, hf⟩, s => by
    obtain ⟨h1, h2⟩ := ins_ok hf (h r (by simp))
    have := fold_ok rows (insN p f r) (done ++ [r]) (fun q hq => h q (by simp [hq])) h1 (by
      refine Same.trans h2 ?_
      unfold SameI at s
      rw [List.map_append, List.map_append]
      exact Same.app s Same.rfl)
    rw [List.append_assoc] at this
    exact this
/-! sorted: corners rise -/
def insC (c : Nat) : List Nat → List Nat
  | [] => [c]
  | d :: ds => if d < c then d :: insC c ds else c :: d :: ds
def srtC : List Nat → List Nat
  | [] => []
  | c :: cs => insC c (srtC cs)
theorem insC_mem {c k : Nat} : ∀ {l : List Nat}, k ∈ insC c l ↔ k = c ∨ k ∈ l
  | [] => by simp [insC]
  | d :: ds => by
    unfold insC
    split
    · simp [insC_mem (l := ds)]
      constructor
      · rintro (h | h | h) <;> simp [h]
      · rintro (h | h | h) <;> simp [h]
    · simp
theorem srtC_mem {k : Nat} : ∀ {l : List Nat}, k ∈ srtC l ↔ k ∈ l
  | [] => by simp [srtC]
  | c :: cs => by simp [srtC, insC_mem, srtC_mem (l := cs)]
theorem insC_up {c : Nat} : ∀ {l : List Nat}, l.Pairwise (· < ·) → c ∉ l → (insC c l).Pairwise (· < ·)
  | [], _, _ => by simp [insC]
  | d :: ds, h, hc => by
    have h' := List.pairwise_cons.mp h
    unfold insC
    split
    · rename_i q
      refine List.pairwise_cons.mpr ⟨fun k hk => ?_, insC_up h'.2 fun z => hc (by simp [z])⟩
      rcases insC_mem.mp hk with rfl | hk
      · exact q
      · exact h'.1 k hk
    · rename_i q
      have : c < d := by
        have : c ≠ d := fun z => hc (by simp [z])
        omega
      refine List.pairwise_cons.mpr ⟨fun k hk => ?_, h⟩
      rcases List.mem_cons.mp hk with rfl | hk
      · exact this
      · have := h'.1 k hk; omega
theorem srtC_up : ∀ {l : List Nat}, l.Nodup → (srtC l).Pairwise (· < ·)
  | [], _ => by simp [srtC]
  | c :: cs, h => insC_up (srtC_up (List.nodup_cons.mp h).2) fun z => (List.nodup_cons.mp h).1 (srtC_mem.mp z)
theorem lex_lt : ∀ {a b : List Int} {k : Nat}, k < a.length → k < b.length → (∀ i < k, a.getD i 0 = b.getD i 0) → a.getD k 0 ≠ b.getD k 0 → HT.lexLt a b = decide (a.getD k 0 < b.getD k 0)
  | [], b, k, h, _, _, _ => by simp at h
  | a :: as, [], k, _, h, _, _ => by simp at h
  | a :: as, b :: bs, 0, _, _, _, h => by
    have h : a ≠ b := by simpa using h
    rw [HT.lexLt_cons, if_neg h]; rfl
  | a :: as, b :: bs, k + 1, h1, h2, h3, h4 => by
    have h0 : a = b := by simpa using h3 0 (by omega)
    rw [HT.lexLt_cons, if_pos h0, lex_lt (a := as) (b := bs) (k := k) (by simpa using h1) (by simpa using h2) (fun i hi => by simpa using h3 (i + 1) (by omega)) (by simpa using h4)]
    simp
theorem UForm.lex {f : List (List Int)} {cs : List Nat} {x : Nat → List Int} (h : UForm p n f cs x) {c d : Nat} (hc : c ∈ cs) (hd : d ∈ cs) (ne : c ≠ d) : HT.lexLt (x c) (x d) = decide (d < c) := by
  have C := h.rw c hc
  have D := h.rw d hd
  have lc := h.lt c hc
  have ld := h.lt d hd
  rcases Nat.lt_or_gt_of_ne ne with q | q
  · have e1 : (x c).getD c 0 = 1 := by rw [h.one c hc c hc, if_pos rfl]
    have e2 : (x d).getD c 0 = 0 := by rw [h.one d hd c hc, if_neg fun z => ne z.symm]
    rw [lex_lt (k := c) (by rw [C.1]; exact lc) (by rw [D.1]; exact lc) (fun i hi => by rw [h.pre c hc i hi, h.pre d hd i (by omega)]) (by rw [e1, e2]; decide), e1, e2, decide_eq_false (by omega), decide_eq_false (by omega)]
  · have e1 : (x c).getD d 0 = 0 := by rw [h.one c hc d hd, if_neg ne]
    have e2 : (x d).getD d 0 = 1 := by rw [h.one d hd d hd, if_pos rfl]
    rw [lex_lt (k := d) (by rw [C.1]; exact ld) (by rw [D.1]; exact ld) (fun i hi => by rw [h.pre c hc i (by omega), h.pre d hd i hi]) (by rw [e1, e2]; decide), e1, e2, _root_.decide_eq_true (show (0 : Int) < 1 by decide), _root_.decide_eq_true q]
theorem UForm.ins {f : List (List Int)} {cs : List Nat} {x : Nat → List Int} (h : UForm p n f cs x) {c : Nat} (hc : c ∈ cs) : ∀ {ds : List Nat}, (∀ d ∈ ds, d ∈ cs) → c ∉ ds → FR.insRow (x c) (ds.map x) = (insC c ds).map x
  | [], _, _ => rfl
  | d :: ds, hd, nc => by
    have ne : c ≠ d := fun z => nc (by simp [z])
    rw [List.map_cons, FR.insRow, h.lex hc (hd d (by simp)) ne, insC]
    by_cases q : d < c
    · rw [_root_.decide_eq_true q, if_pos rfl, if_pos q, List.map_cons, h.ins hc (fun k hk => hd k (by simp [hk])) fun z => nc (by simp [z])]
    · rw [decide_eq_false q, if_neg (by simp), if_neg q]; rfl
theorem UForm.srt {f : List (List Int)} {cs : List Nat} {x : Nat → List Int} (h : UForm p n f cs x) : ∀ {ds : List Nat}, (∀ d ∈ ds, d ∈ cs) → ds.Nodup → FR.sortRows (ds.map x) = (srtC ds).map x
  | [], _, _ => rfl
  | d :: ds, hd, nd => by
    have nd' := List.nodup_cons.mp nd
    rw [List.map_cons, FR.sortRows, h.srt (fun k hk => hd k (by simp [hk])) nd'.2, h.ins (hd d (by simp)) (fun k hk => hd k (by simp [srtC_mem.mp hk])) fun z => nd'.1 (srtC_mem.mp z)]
    rfl
theorem UForm.isF {f : List (List Int)} {cs : List Nat} {x : Nat → List Int} (h : UForm p n f cs x) : IsF p n (FR.sortRows f) ∧ ∀ r, r ∈ FR.sortRows f ↔ r ∈ f := by
  have e := h.srt (ds := cs) (fun _ z => z) h.nd
  rw [← h.eq] at e
  refine ⟨⟨srtC cs, x, e, srtC_up h.nd, fun c hc => h.lt c (srtC_mem.mp hc), fun c hc => h.rw c (srtC_mem.mp hc), fun c hc l hl => h.one c (srtC_mem.mp hc) l (srtC_mem.mp hl), fun c hc => h.pre c (srtC_mem.mp hc)⟩, fun r => ?_⟩
  rw [e, h.eq]
  simp only [List.mem_map, srtC_mem]
/-- the laws' form is the program's -/
theorem lformN_eq {rows : List (List Int)} (h : Rws p n rows) : lformN p rows = formN p n rows := by
  obtain ⟨⟨cs, x, h1⟩, h2⟩ := fold_ok rows [] [] h ⟨[], fun _ => [], ⟨rfl, List.nodup_nil, by simp, by simp, by simp, by simp⟩⟩ Same.rfl
  obtain ⟨h3, h4⟩ := h1.isF
  refine (formN_eq h h3 ?_).symm
  refine Same.trans (Same.perm fun v => ?_) h2
  simp only [List.mem_map, h4]
end
end LA

namespace FR
open PySem LA
open Da (dd)
/-! ### rows and forms, walked -/
abbrev LI := List Int
abbrev LLI := List (List Int)
theorem mulOk_r {x y : Int} (h : 0 ≤ y ∧ y < 18446744073709551616) : mulOk x y = true := by
  unfold mulOk
  have : y.natAbs < 18446744073709551616 := by omega
  simp [this]
theorem mulOk_l {x y : Int} (h : 0 ≤ x ∧ x < 18446744073709551616) : mulOk x y = true := by
  unfold mulOk
  have : x.natAbs < 18446744073709551616 := by omega
  simp [this]
/-- a room: a prime to 31 -/
structure Ro (p : Nat) : Prop where
  pm : p ∈ prms
theorem Ro.pos {p : Nat} (h : Ro p) : 0 < p := by
  have := (pm_of h.pm).1
  exact Pm.pos p
theorem Ro.le {p : Nat} (h : Ro p) : p ≤ 31 := (pm_of h.pm).2
theorem Ro.two {p : Nat} (h : Ro p) : 2 ≤ p := by
  have := (pm_of h.pm).1
  exact this.lt
variable {fs : List FI} {N d : Nat}
theorem is_whole_sp [Base fs] {x : Int} : (pgOf fs N (d + 1)).fn i_is_whole [dd x] = .ok (dd true, true) := by
  refine fn_rt (inferInstance : H_is_whole fs) [dv x] rfl rfl ?_
  exact (ss_ret (e_and (e_isin (e_vf (x := x) rfl) rfl) fun hc => (e_not (e_isin (e_vf (x := x) rfl) rfl)))).trans rfl
theorem check_room_sp [Base fs] {p n : Nat} (hp : Ro p) (hn : 1 ≤ n ∧ n ≤ 6) :
    (pgOf fs N (d + 2)).fn i_check_room [dd (p : Int), dd (n : Int)] = .ok (.non, true) := by
  refine fn_nx (inferInstance : H_check_room fs) [dv (p : Int), dv (n : Int)] [dv (p : Int), dv (n : Int)] rfl rfl ?_
  refine ss_if (e_or (e_not (e_callf (es_cons (e_vf rfl) es_nil) is_whole_sp)) fun hc => (e_or (e_inC (e_vf rfl)) fun hc => (e_or (e_not (e_callf (es_cons (e_vf rfl) es_nil) is_whole_sp)) fun hc => (e_not (e_ch .le .le e_ki (e_vf rfl) e_gi))))) (fun hc => ?_) (fun hc => ss_nil)
  exfalso
  have h := hp.pm
  have h1 : ([2, 3, 5, 7, 11, 13, 17, 19, 23, 29, 31] : List Int).contains (p : Int) = true := by
    simp only [prms, List.mem_cons, List.not_mem_nil, or_false] at h
    rcases h with rfl | rfl | rfl | rfl | rfl | rfl | rfl | rfl | rfl | rfl | rfl <;> rfl
  have h2 : (cop .le 1 (n : Int) && cop .le (n : Int) 6) = true := by
    simp only [cop, Bool.and_eq_true, decide_eq_true_eq]
    omega
  rw [if_pos rfl, h1, h2] at hc
  cases hc
def isRowN (p n : Nat) (r : LI) : Bool := decide (r.length = n) && r.all fun x => decide (0 ≤ x) && decide (x < p)
theorem isRowN_iff {p n : Nat} {r : LI} : isRowN p n r = true ↔ Rw p n r := by
  unfold isRowN Rw
  simp
theorem is_row_sp [Base fs] {p n : Nat} {r : LI} (hl : r.length ≤ LIM) :
    (pgOf fs N (d + 2)).fn i_is_row [dd (p : Int), dd (n : Int), dd r] = .ok (dd (isRowN p n r), true) := by
  refine fn_rt (inferInstance : H_is_row fs) [dv (p : Int), dv (n : Int), sv r, none] rfl rfl ?_
  refine ss_if (e_or (e_not (e_isin (e_vn rfl) rfl)) fun hc => (e_ne (e_len (e_vn rfl)) (e_vf rfl))) (fun hc => ?_) (fun hc => ?_)
  · refine (ss_ret e_kb).trans ?_
    have : ¬ r.length = n := by simp at hc; omega
    simp [isRowN, this]
  · refine (ss_ret (e_all (e_lc (it_lst (e_vn rfl)) hl (fun z hz => el_k [sv (p : Int), sv (n : Int), sv r, dv z] rfl rfl (e_and (e_callf (es_cons (e_vf rfl) es_nil) is_whole_sp) fun hc => (e_ch .le .lt e_ki (e_vf rfl) (e_vf rfl))))))).trans ?_
    have : r.length = n := by simp at hc; omega
    simp only [isRowN, this, decide_true, Bool.true_and, List.all_map]
    rfl
theorem check_row_sp [hf : H_check_row fs] [Base fs] {p n : Nat} {r : LI} (h : Rw p n r) (hn : n ≤ 12) :
    (pgOf fs N (d + 3)).fn i_check_row [dd (p : Int), dd (n : Int), dd r] = .ok (.non, true) := by
  refine fn_nx hf [dv (p : Int), dv (n : Int), sv r] [dv (p : Int), dv (n : Int), sv r] rfl rfl ?_
  refine ss_if (e_not (e_callf (es_cons (e_vf rfl) (es_cons (e_vf rfl) (es_cons (e_vn rfl) es_nil))) (is_row_sp (by unfold LIM; have := h.1; omega)))) (fun hc => ?_) (fun hc => ss_nil)
  rw [isRowN_iff.mpr h] at hc
  cases hc
theorem inverse_sp [Base fs] {p : Nat} {x : Int} [Pm p] (hp : p ≤ 31) (hx : ph p x ≠ 0) :
    (pgOf fs N (d + 1)).fn i_inverse [dd (p : Int), dd x] = .ok (dd (invN p x), true) := by
  obtain ⟨_, _, hne⟩ := invN_ok hx
  refine fn_rt (inferInstance : H_inverse fs) [dv (p : Int), dv x, none] rfl rfl ?_
  have e1 : ((p : Int) - 1).toNat = p - 1 := by omega
  refine (ss_ret (e_ixf 0 (e_lcq (it_rng2 e_ki (e_vf rfl) ?_) ?_ (fun z hz => el_q [sv (p : Int), sv x, dv ((1 : Int) + (z : Int))] rfl rfl (e_eq (e_mod (e_mul (e_vf rfl) (e_vf rfl) ?_) (e_vf rfl) ?_) e_ki) fun hq => (e_vf rfl))) e_ki ?_)).trans ?_
  · omega
  · simp; unfold LIM; omega
  · simp at hz; exact mulOk_l (by omega)
  · have := Pm.pos p; omega
  · rw [e1]
    refine ⟨by omega, ?_⟩
    rw [List.length_map]
    have := List.length_pos_iff.mpr hne
    omega
  · rw [e1]; rfl
theorem often_sp [Base fs] {p n : Nat} {r : LI} {k : Int} (hp : 0 < p ∧ p ≤ 31) (hr : Rw p n r) (hn : n ≤ 12) :
    (pgOf fs N (d + 1)).fn i_often [dd (p : Int), dd r, dd k] = .ok (dd (oftN p r k), true) := by
  refine fn_rt (inferInstance : H_often fs) [dv (p : Int), sv r, dv k, none] rfl rfl ?_
  refine (ss_ret (e_lc (it_lst (e_vn rfl)) ?_ (fun z hz => el_k [sv (p : Int), sv r, sv k, dv z] rfl rfl (e_mod (e_mul (e_vf rfl) (e_vf rfl) ?_) (e_vf rfl) ?_)))).trans rfl
  · have := hr.1; unfold LIM; omega
  · have := hr.2 z hz; exact mulOk_l (by omega)
  · omega
theorem added_sp [Base fs] {p n : Nat} {a b : LI} {k : Int} (hp : 0 < p ∧ p ≤ 31) (hb : Rw p n b) (hn : n ≤ 12) :
    (pgOf fs N (d + 1)).fn i_added [dd (p : Int), dd a, dd b, dd k] = .ok (dd (addN p a b k), true) := by
  refine fn_rt (inferInstance : H_added fs) [dv (p : Int), sv a, sv b, dv k, none, none] rfl rfl ?_
  refine (ss_ret (e_lc (it_zip (e_vn rfl) (e_vn rfl)) ?_ (fun z hz => el_k [sv (p : Int), sv a, sv b, sv k, dv z.1, dv z.2] rfl rfl (e_mod (e_add (e_vf rfl) (e_mul (e_vf rfl) (e_vf rfl) ?_)) (e_vf rfl) ?_)))).trans rfl
  · have := hb.1; rw [List.length_zip]; unfold LIM; omega
  · have := hb.2 z.2 (List.of_mem_zip hz).2; exact mulOk_r (by omega)
  · omega
def sumN (p n : Nat) (rows : LLI) (shares : LI) : LI := (rows.zip shares).foldl (fun f z => addN p f z.1 z.2) (List.replicate n 0)
theorem summed_sp [hf : H_summed fs] [Base fs] {p n : Nat} {rows : LLI} {shares : LI} (hp : 0 < p ∧ p ≤ 31) (hr : Rws p n rows) (hn : n ≤ 12) :
    (pgOf fs N (d + 2)).fn i_summed [dd (p : Int), dd (n : Int), dd rows, dd shares] = .ok (dd (sumN p n rows shares), true) := by
  refine fn_rt hf [dv (p : Int), dv (n : Int), sv rows, sv shares, none, none, none] rfl rfl ?_
  refine ss_set (fun found : LI => [dv (p : Int), dv (n : Int), sv rows, sv shares, dv found, none, none]) (e_rep (e_lstf (α := Int) (es_cons e_ki es_nil) rfl) (e_vf rfl) (by omega)) (fun _ => rfl) fun found hfound => ?_
  refine ss_for [dv (p : Int), dv (n : Int), sv rows, sv shares, dv found, none, none] (it_zip (e_vn rfl) (e_vn rfl)) rfl
    (for_st (fun f : LI => [dv (p : Int), dv (n : Int), sv rows, sv shares, dv f, none, none]) (fun f z => addN p f z.1 z.2) (fun _ => True) _ _ trivial fun f _ z hz => ⟨?_, trivial⟩).1 ?_
  · refine bdn [dv (p : Int), dv (n : Int), sv rows, sv shares, dv f, sv z.1, dv z.2] [dv (p : Int), dv (n : Int), sv rows, sv shares, dv (addN p f z.1 z.2), sv z.1, dv z.2] rfl rfl ?_ rfl
    refine ss_set (fun f : LI => [dv (p : Int), dv (n : Int), sv rows, sv shares, dv f, sv z.1, dv z.2]) (e_calln (es_cons (e_vf rfl) (es_cons (e_vn rfl) (es_cons (e_vn rfl) (es_cons (e_vf rfl) es_nil)))) (added_sp hp (hr z.1 (List.of_mem_zip hz).1) hn)) (fun _ => rfl) fun f' hf' => ?_
    rw [hf']
    exact ss_nil
  · refine (ss_ret (e_md rfl)).trans ?_
    rw [hfound]
    simp [sumN]
def prodN (p : Nat) (a b : LI) : Int := ((a.zip b).map fun z => z.1 * z.2).sum % p
theorem product_sp [hf : H_product fs] {p n : Nat} {a b : LI} (hp : 0 < p ∧ p ≤ 31) (hb : Rw p n b) (hn : n ≤ 12) :
    (pgOf fs N (d + 1)).fn i_product [dd (p : Int), dd a, dd b] = .ok (dd (prodN p a b), true) := by
  refine fn_rt hf [dv (p : Int), sv a, sv b, none, none] rfl rfl ?_
  refine (ss_ret (e_mod (e_sum (e_lc (it_zip (e_vn rfl) (e_vn rfl)) ?_ (fun z hz => el_k [sv (p : Int), sv a, sv b, dv z.1, dv z.2] rfl rfl (e_mul (e_vf rfl) (e_vf rfl) ?_)))) (e_vf rfl) ?_)).trans rfl
  · have := hb.1; rw [List.length_zip]; unfold LIM; omega
  · have := hb.2 z.2 (List.of_mem_zip hz).2; exact mulOk_r (by omega)
  · omega
theorem pix0 {n : Nat} : pix n 0 = 0 := rfl
theorem pixn {n k : Nat} : pix n (k : Int) = k := by unfold pix; rw [if_neg (by omega)]; rfl
end FR

namespace FR
open PySem LA
open Da (dd)
variable {fs : List FI} {N d : Nat}
theorem stepN_len {p : Nat} {st : LLI × LLI} {k : Nat} : (stepN p st k).1.length + (stepN p st k).2.length ≤ st.1.length + st.2.length := by
  unfold stepN
  cases e : somN st.1 k with
  | nil => exact Nat.le_refl _
  | cons a t =>
    obtain ⟨h1, h2, h3⟩ := som_cons e
    simp [List.length_eraseIdx, h2]
    omega
theorem form_of_sp [Base fs] {p n : Nat} {rows : LLI} (hp : Ro p) (hn : n ≤ 12) (hr : Rws p n rows) (hl : rows.length ≤ 1000000) :
    (pgOf fs N (d + 2)).fn i_form_of [dd (p : Int), dd (n : Int), dd rows] = .ok (dd (formN p n rows), true) := by
  have := (pm_of hp.pm).1
  have hp1 : 0 < p ∧ p ≤ 31 := ⟨hp.pos, hp.le⟩
  refine fn_rt (inferInstance : H_form_of fs) [dv (p : Int), dv (n : Int), sv rows, none, none, none, none, none, none, none] rfl rfl ?_
  refine ss_par2 (fun (left : LLI) (found : LLI) => [dv (p : Int), dv (n : Int), sv rows, dv left, dv found, none, none, none, none, none]) (es_cons (e_lc (it_lst (e_vn rfl)) ?_ (fun z hz => el_k [sv (p : Int), sv (n : Int), sv rows, none, none, sv z, none, none, none, none] rfl rfl (e_listf (e_vn rfl)))) (es_cons (e_lst0 (α := _)) es_nil)) (fun _ _ => rfl) fun left found hleft hfound => ?_
  · unfold LIM; omega
  have hleft : left = rows := by rw [hleft]; simp
  subst hleft hfound
  have lp := for_st (t := fun k : Nat => dd (k : Int)) (f := bodyF (pgOf fs N (d + 1)) N [6] [.set 7 (.lc (.v 8) [8, 5] .enm (.v 3) (.nil) (.cmp .ne (.ix (.v 5) (.v 6)) (.k (.int 0)))), .if_ (.cmp .ne (.v 7) (.lst [])) [.popT 5 3 (.ix (.v 7) (.k (.int 0))), .set 5 (.call 5 [.v 0, .v 5, .call 4 [.v 0, .ix (.v 5) (.v 6)]]), .set 3 (.lc (.call 6 [.v 0, .v 9, .v 5, .neg (.ix (.v 9) (.v 6))]) [9] .lst (.mv 3) (.nil) (.k (.bl true))), .set 4 (.bin .add (.lc (.call 6 [.v 0, .v 9, .v 5, .neg (.ix (.v 9) (.v 6))]) [9] .lst (.mv 4) (.nil) (.k (.bl true))) (.lst [.mv 5]))] []] [5, 6, 7])
    (fun st : LLI × LLI => [dv (p : Int), dv (n : Int), sv left, dv st.1, dv st.2, none, none, none, none, none]) (fun st k => stepN p st k) (fun st => Rws p n st.1 ∧ Rws p n st.2 ∧ st.1.length + st.2.length ≤ 1000000) (List.range n) (left, []) ⟨hr, by intro r hr; simp at hr, by simpa using hl⟩
    fun st ⟨i1, i2, i3⟩ k hk => by
      have hk : k < n := by simpa using hk
      have ha1 : ∀ o row, Rw p n o → Rw p n row → Rw p n (clrN p k row o) := fun o row h1 h2 => Rw.add hp.pos h1.1 h2.1 _
      refine ⟨?_, ?_⟩
      · cases e : somN st.1 k with
        | nil =>
          have es : stepN p st k = st := by unfold stepN; rw [e]
          rw [es]
          refine bdn [dv (p : Int), dv (n : Int), sv left, dv st.1, dv st.2, none, dv (k : Int), none, none, none] [dv (p : Int), dv (n : Int), sv left, dv st.1, dv st.2, none, dv (k : Int), dv (somN st.1 k), none, none] rfl rfl ?_ rfl
          refine ss_set (fun some_ : LI => [dv (p : Int), dv (n : Int), sv left, dv st.1, dv st.2, none, dv (k : Int), dv some_, none, none]) (e_lcq (it_enm (e_vn rfl)) ?_ (fun z hz => el_q [sv (p : Int), sv (n : Int), sv left, sv st.1, sv st.2, sv z.1, sv (k : Int), none, dv (z.2 : Int), none] rfl rfl (e_ne (e_ixf 0 (e_vn rfl) (e_vf rfl) ?_) e_ki) fun hq => (e_vf rfl))) (fun _ => rfl) fun some_ hsome => ?_
          · simp; unfold LIM; omega
          · have := (i1 z.1 (List.fst_mem_of_mem_zipIdx hz)).1
            rw [this]; omega
          have hs : some_ = somN st.1 k := by
            rw [hsome]; unfold somN; simp only [pixn]
          subst hs
          refine ss_if (e_ne (e_vn rfl) (e_lst0 (α := _))) (fun hc => ?_) (fun hc => ss_nil)
          rw [e] at hc
          simp at hc
        | cons a t =>
          obtain ⟨a0, a1, a2⟩ := som_cons e
          have W0 := i1 _ (getD_mem a1)
          have RW : Rw p n (rowN p st.1 k a) := Rw.oft hp.pos W0.1 _
          have es : stepN p st k = ((st.1.eraseIdx a.toNat).map (clrN p k (rowN p st.1 k a)), st.2.map (clrN p k (rowN p st.1 k a)) ++ [rowN p st.1 k a]) := by unfold stepN; rw [e]
          rw [es]
          refine bdn [dv (p : Int), dv (n : Int), sv left, dv st.1, dv st.2, none, dv (k : Int), none, none, none] [dv (p : Int), dv (n : Int), sv left, dv ((st.1.eraseIdx a.toNat).map (clrN p k (rowN p st.1 k a))), dv (st.2.map (clrN p k (rowN p st.1 k a)) ++ [rowN p st.1 k a]), none, dv (k : Int), dv (somN st.1 k), none, none] rfl rfl ?_ rfl
          refine ss_set (fun some_ : LI => [dv (p : Int), dv (n : Int), sv left, dv st.1, dv st.2, none, dv (k : Int), dv some_, none, none]) (e_lcq (it_enm (e_vn rfl)) ?_ (fun z hz => el_q [sv (p : Int), sv (n : Int), sv left, sv st.1, sv st.2, sv z.1, sv (k : Int), none, dv (z.2 : Int), none] rfl rfl (e_ne (e_ixf 0 (e_vn rfl) (e_vf rfl) ?_) e_ki) fun hq => (e_vf rfl))) (fun _ => rfl) fun some_ hsome => ?_
          · simp; unfold LIM; omega
          · have := (i1 z.1 (List.fst_mem_of_mem_zipIdx hz)).1
            rw [this]; omega
          have hs : some_ = somN st.1 k := by
            rw [hsome]; unfold somN; simp only [pixn]
          subst hs
          refine ss_ift (e_ne (e_vn rfl) (e_lst0 (α := _))) (by rw [e]; rfl) ?_
          refine ss_popT (x := st.1.getD a.toNat []) (fun row left' => [dv (p : Int), dv (n : Int), sv left, dv left', dv st.2, dv row, dv (k : Int), dv (somN st.1 k), none, none]) rfl (e_ixf 0 (e_vn rfl) e_ki ?_) (by decide) ?_ (by decide) ?_ (fun _ _ => rfl) fun row left' hrow hleft' => ?_
          · rw [e]; simp; omega
          · rw [e]
            show 0 ≤ a ∧ a < 16777216
            omega
          · rw [e]
            show st.1[a.toNat]? = _
            rw [List.getD_eq_getElem?_getD, List.getElem?_eq_getElem a1]; rfl
          rw [show (somN st.1 k).getD (pix (somN st.1 k).length 0) 0 = a by rw [e]; rfl] at hleft'
          have er : row = st.1.getD a.toNat [] := hrow
          subst hleft' er
          refine ss_set (fun row' : LI => [dv (p : Int), dv (n : Int), sv left, dv (st.1.eraseIdx a.toNat), dv st.2, dv row', dv (k : Int), dv (somN st.1 k), none, none]) (e_calln (x := rowN p st.1 k a) (es_cons (e_vf rfl) (es_cons (e_vn rfl) (es_cons (e_callf (x := invN p ((st.1.getD a.toNat []).getD k 0)) (es_cons (e_vf rfl) (es_cons (e_ixf 0 (e_vn rfl) (e_vf rfl) ?_) es_nil)) ?_) es_nil))) ?_) (fun _ => rfl) fun row' hrow' => ?_
          · rw [W0.1]; omega
          · rw [pixn]
            exact inverse_sp hp.le fun z => a2 ((ph_nz p (W0.get hp.pos k)).mp z)
          · exact often_sp hp1 W0 hn
          subst hrow'
          refine ss_set (fun left'' : LLI => [dv (p : Int), dv (n : Int), sv left, dv left'', dv st.2, dv (rowN p st.1 k a), dv (k : Int), dv (somN st.1 k), none, none]) (e_lc (g := clrN p k (rowN p st.1 k a)) (it_lst (e_md rfl)) ?_ (fun z hz => el_k [sv (p : Int), sv (n : Int), sv left, sv (st.1.eraseIdx a.toNat), sv st.2, sv (rowN p st.1 k a), sv (k : Int), sv (somN st.1 k), none, sv z] rfl rfl (e_calln (es_cons (e_vf rfl) (es_cons (e_vn rfl) (es_cons (e_vn rfl) (es_cons (e_neg (e_ixf 0 (e_vn rfl) (e_vf rfl) ?_)) es_nil)))) ?_))) (fun _ => rfl) fun left'' hleft'' => ?_
          · have := List.length_eraseIdx_le st.1 a.toNat
            unfold LIM; omega
          · have := (i1 z (mem_erase hz)).1
            rw [this]; omega
          · rw [pixn]
            exact added_sp hp1 RW hn
          subst hleft''
          refine ss_set (fun found' : LLI => [dv (p : Int), dv (n : Int), sv left, dv ((st.1.eraseIdx a.toNat).map (clrN p k (rowN p st.1 k a))), dv found', none, dv (k : Int), dv (somN st.1 k), none, none]) (e_catr (e_lc (g := clrN p k (rowN p st.1 k a)) (it_lst (e_md rfl)) ?_ (fun z hz => el_k [sv (p : Int), sv (n : Int), sv left, sv ((st.1.eraseIdx a.toNat).map (clrN p k (rowN p st.1 k a))), sv st.2, sv (rowN p st.1 k a), sv (k : Int), sv (somN st.1 k), none, sv z] rfl rfl (e_calln (es_cons (e_vf rfl) (es_cons (e_vn rfl) (es_cons (e_vn rfl) (es_cons (e_neg (e_ixf 0 (e_vn rfl) (e_vf rfl) ?_)) es_nil)))) ?_))) (e_lstn (α := LI) (xs := [rowN p st.1 k a]) (es_cons (e_md rfl) es_nil) rfl) ?_ (by simp)) (fun _ => rfl) fun found' hfound' => ?_
          · unfold LIM; omega
          · have := (i2 z hz).1
            rw [this]; omega
          · rw [pixn]
            exact added_sp hp1 RW hn
          · simp; unfold LIM; omega
          subst hfound'
          exact ss_nil
      · refine ⟨?_, ?_, Nat.le_trans stepN_len i3⟩
        · unfold stepN
          cases e : somN st.1 k with
          | nil => exact i1
          | cons a t =>
            obtain ⟨a0, a1, a2⟩ := som_cons e
            intro r hr
            obtain ⟨o, ho, rfl⟩ := List.mem_map.mp hr
            exact ha1 _ _ (i1 o (mem_erase ho)) (Rw.oft hp.pos (i1 _ (getD_mem a1)).1 _)
        · unfold stepN
          cases e : somN st.1 k with
          | nil => exact i2
          | cons a t =>
            obtain ⟨a0, a1, a2⟩ := som_cons e
            have RW : Rw p n (rowN p st.1 k a) := Rw.oft hp.pos (i1 _ (getD_mem a1)).1 _
            intro r hr
            rcases List.mem_append.mp hr with hr | hr
            · obtain ⟨o, ho, rfl⟩ := List.mem_map.mp hr
              exact ha1 _ _ (i2 o ho) RW
            · rw [List.mem_singleton] at hr
              rw [hr]; exact RW
  refine ss_for [dv (p : Int), dv (n : Int), sv left, dv left, dv ([] : LLI), none, none, none, none, none] (it_rng1 (e_vf rfl) (by omega)) rfl lp.1 ?_
  exact (ss_ret (e_md rfl)).trans rfl
end FR

namespace FR
open PySem LA
open Da (dd)
variable {fs : List FI} {N d : Nat}
/-! ### first places -/
def nzN (r : LI) : LI := (r.zipIdx.filter fun z => !decide (z.1 = 0)).map fun z => (z.2 : Int)
def fzN (r : LI) : Int := (nzN r).getD 0 0
theorem nz_aux : ∀ (r : LI) (k c : Nat), r.getD c 0 ≠ 0 → (∀ i < c, r.getD i 0 = 0) → ∃ t, ((r.zipIdx k).filter fun z => !decide (z.1 = 0)).map (fun z => (z.2 : Int)) = ((k + c : Nat) : Int) :: t
  | [], k, c, h, _ => by simp at h
  | x :: r, k, 0, h, _ => by
    have h : x ≠ 0 := by simpa using h
    rw [List.zipIdx_cons, List.filter_cons, if_pos (by simp [h])]
    exact ⟨_, rfl⟩
  | x :: r, k, c + 1, h, h0 => by
    have hx : x = 0 := by simpa using h0 0 (by omega)
    rw [List.zipIdx_cons, List.filter_cons, if_neg (by simp [hx])]
    obtain ⟨t, ht⟩ := nz_aux r (k + 1) c (by simpa using h) fun i hi => by simpa using h0 (i + 1) (by omega)
    exact ⟨t, by rw [ht, show k + 1 + c = k + (c + 1) by omega]⟩
theorem nzN_cons {r : LI} {c : Nat} (h : r.getD c 0 ≠ 0) (h0 : ∀ i < c, r.getD i 0 = 0) : ∃ t, nzN r = (c : Int) :: t := by
  obtain ⟨t, ht⟩ := nz_aux r 0 c h h0
  exact ⟨t, by unfold nzN; rw [ht, Nat.zero_add]⟩
theorem fzN_eq {r : LI} {c : Nat} (h : r.getD c 0 ≠ 0) (h0 : ∀ i < c, r.getD i 0 = 0) : fzN r = c := by
  obtain ⟨t, ht⟩ := nzN_cons h h0
  unfold fzN
  rw [ht]; rfl
theorem nzN_nil {r : LI} : nzN r = [] ↔ ∀ x ∈ r, x = 0 := by
  unfold nzN
  rw [List.map_eq_nil_iff, List.filter_eq_nil_iff]
  constructor
  · intro h x hx
    obtain ⟨i, hi, rfl⟩ := List.mem_iff_getElem.mp hx
    have := h (r[i], i) (by rw [List.mem_iff_getElem?]; exact ⟨i, by simp [List.getElem?_zipIdx, List.getElem?_eq_getElem hi]⟩)
    simpa using this
  · intro h z hz
    simp [h z.1 (List.fst_mem_of_mem_zipIdx hz)]
def cornN (f : LLI) : LI := f.map fzN
theorem _root_.LA.IForm.nz {p n : Nat} {f : LLI} {cs : List Nat} {x : Nat → LI} (h : IForm p n f cs x) {c : Nat} (hc : c ∈ cs) : (x c).getD c 0 ≠ 0 := by
  rw [h.one c hc c hc, if_pos rfl]; decide
theorem _root_.LA.IForm.corn {p n : Nat} {f : LLI} {cs : List Nat} {x : Nat → LI} (h : IForm p n f cs x) : cornN f = cs.map fun (c : Nat) => (c : Int) := by
  unfold cornN
  rw [h.eq, List.map_map]
  apply List.map_congr_left
  intro c hc
  exact fzN_eq (h.nz hc) (h.pre c hc)
theorem _root_.LA.IsF.nz {p n : Nat} {f : LLI} (h : IsF p n f) : ∀ r ∈ f, nzN r ≠ [] := by
  obtain ⟨cs, x, h⟩ := h
  rw [h.eq]
  intro r hr
  obtain ⟨c, hc, rfl⟩ := List.mem_map.mp hr
  obtain ⟨t, ht⟩ := nzN_cons (h.nz hc) (h.pre c hc)
  rw [ht]; simp
theorem _root_.LA.IsF.len_le {p n : Nat} {f : LLI} (h : IsF p n f) : f.length ≤ n := by
  obtain ⟨cs, x, h⟩ := h
  rw [h.eq, List.length_map]
  have e : cs = (List.range n).filter fun i => cs.contains i := sorted_ext h.up (List.pairwise_lt_range.filter _) fun k => by
    simp only [List.mem_filter, List.mem_range, List.contains_iff_mem]
    exact ⟨fun hk => ⟨h.lt k hk, hk⟩, fun hk => hk.2⟩
  rw [e]
  exact Nat.le_trans (List.length_filter_le _ _) (by simp)
theorem corners_of_sp [H_corners_of fs] {f : LLI} (hn : ∀ r ∈ f, r.length ≤ 12) (h0 : ∀ r ∈ f, nzN r ≠ []) (hl : f.length ≤ 1000000) :
    (pgOf fs N (d + 1)).fn i_corners_of [dd f] = .ok (dd (cornN f), true) := by
  refine fn_rt (inferInstance : H_corners_of fs) [sv f, none, none, none] rfl rfl ?_
  refine (ss_ret (e_lc (it_lst (e_vn rfl)) ?_ (fun z hz => el_k [sv f, none, none, sv z] rfl rfl (e_ixf 0 (e_lcq (it_enm (e_vn rfl)) ?_ (fun z1 hz1 => el_q [sv f, dv (z1.2 : Int), dv z1.1, sv z] rfl rfl (e_ne (e_vf rfl) e_ki) fun hq => (e_vf rfl))) e_ki ?_)))).trans rfl
  · unfold LIM; omega
  · have := hn z hz; simp; unfold LIM; omega
  · have h1 := h0 z (by assumption)
    have := List.length_pos_iff.mpr h1
    unfold nzN at this
    omega
def isFlatN (p n : Nat) (f : LLI) : Bool := decide (f.length ≤ n) && f.all (isRowN p n) && decide (formN p n f = f)
theorem isFlatN_iff {p n : Nat} [Pm p] {f : LLI} : isFlatN p n f = true ↔ IsF p n f := by
  unfold isFlatN
  simp only [Bool.and_eq_true, decide_eq_true_eq, List.all_eq_true, isRowN_iff]
  constructor
  · rintro ⟨⟨_, h2⟩, h3⟩
    rw [← h3]; exact formN_isF h2
  · intro h
    exact ⟨⟨h.len_le, h.rws⟩, formN_self h⟩
theorem is_flat_sp [Flt fs] {p n : Nat} {f : LLI} (hp : Ro p) (hn : n ≤ 12) (hl : ∀ r ∈ f, r.length ≤ LIM) (hlf : f.length ≤ LIM) :
    (pgOf fs N (d + 3)).fn i_is_flat [dd (p : Int), dd (n : Int), dd f] = .ok (dd (isFlatN p n f), true) := by
  refine fn_rt (inferInstance : H_is_flat fs) [dv (p : Int), dv (n : Int), sv f, none] rfl rfl ?_
  refine ss_if (e_or (e_not (e_isin (e_vn rfl) rfl)) fun hc => (e_or (e_gt (e_len (e_vn rfl)) (e_vf rfl)) fun hc => (e_not (e_all (e_lc (it_lst (e_vn rfl)) hlf (fun z hz => el_k [sv (p : Int), sv (n : Int), sv f, sv z] rfl rfl (e_callf (es_cons (e_vf rfl) (es_cons (e_vf rfl) (es_cons (e_vn rfl) es_nil))) (is_row_sp (hl z hz))))))))) (fun hc => ?_) (fun hc => ?_)
  · refine (ss_ret e_kb).trans ?_
    have : isFlatN p n f = false := by
      unfold isFlatN
      simp at hc ⊢
      intro h1 h2
      rcases hc with hc | ⟨r, h3, h4⟩
      · omega
      · rw [h2 r h3] at h4; cases h4
    rw [this]; rfl
  · have h1 : f.length ≤ n ∧ ∀ r ∈ f, isRowN p n r = true := by
      simp at hc
      exact ⟨by omega, hc.2⟩
    refine (ss_ret (e_eq (e_calln (es_cons (e_vf rfl) (es_cons (e_vf rfl) (es_cons (e_vn rfl) es_nil))) (form_of_sp hp hn (fun r hr => isRowN_iff.mp (h1.2 r hr)) (by omega))) (e_vn rfl))).trans ?_
    have : isFlatN p n f = decide (formN p n f = f) := by
      unfold isFlatN
      rw [decide_eq_true h1.1, List.all_eq_true.mpr h1.2]; rfl
    rw [this]; rfl
theorem check_flat_sp [H_check_flat fs] [Flt fs] {p n : Nat} {f : LLI} (hp : Ro p) (hn : n ≤ 12) (h : IsF p n f) :
    (pgOf fs N (d + 4)).fn i_check_flat [dd (p : Int), dd (n : Int), dd f] = .ok (.non, true) := by
  have := (pm_of hp.pm).1
  refine fn_nx (inferInstance : H_check_flat fs) [dv (p : Int), dv (n : Int), sv f] [dv (p : Int), dv (n : Int), sv f] rfl rfl ?_
  refine ss_if (e_not (e_callf (es_cons (e_vf rfl) (es_cons (e_vf rfl) (es_cons (e_vn rfl) es_nil))) (is_flat_sp hp hn (fun r hr => by have := (h.rws r hr).1; unfold LIM; omega) (by have := h.len_le; unfold LIM; omega)))) (fun hc => ?_) (fun hc => ss_nil)
  rw [isFlatN_iff.mpr h] at hc
  cases hc
theorem check_rows_sp [hf : H_check_rows fs] [Base fs] {p n : Nat} {rows : LLI} (hn : n ≤ 12) (h : Rws p n rows) (hl : rows.length ≤ 20) :
    (pgOf fs N (d + 3)).fn i_check_rows [dd (p : Int), dd (n : Int), dd rows] = .ok (.non, true) := by
  refine fn_nx hf [dv (p : Int), dv (n : Int), sv rows, none] [dv (p : Int), dv (n : Int), sv rows, none] rfl rfl ?_
  refine ss_if (e_or (e_not (e_isin (e_vn rfl) rfl)) fun hc => (e_or (e_gt (e_len (e_vn rfl)) e_gi) fun hc => (e_not (e_all (e_lc (it_lst (e_vn rfl)) (by unfold LIM; omega) (fun z hz => el_k [sv (p : Int), sv (n : Int), sv rows, sv z] rfl rfl (e_callf (es_cons (e_vf rfl) (es_cons (e_vf rfl) (es_cons (e_vn rfl) es_nil))) (is_row_sp (by have := (h z hz).1; unfold LIM; omega))))))))) (fun hc => ?_) (fun hc => ss_nil)
  exfalso
  have h1 : (rows.map (isRowN p n)).all id = true := by
    rw [List.all_map]
    exact List.all_eq_true.mpr fun r hr => isRowN_iff.mpr (h r hr)
  rw [h1] at hc
  simp at hc
  omega
theorem form_sp [hf : H_form fs] [Base fs] [H_check_rows fs] {p n : Nat} {rows : LLI} (hp : Ro p) (hn : 1 ≤ n ∧ n ≤ 6) (h : Rws p n rows) (hl : rows.length ≤ 20) :
    (pgOf fs N (d + 4)).fn i_form [dd (p : Int), dd (n : Int), dd rows] = .ok (dd (formN p n rows), true) := by
  refine fn_rt hf [dv (p : Int), dv (n : Int), sv rows] rfl rfl ?_
  refine ss_ex (e_call0 (es_cons (e_vf rfl) (es_cons (e_vf rfl) es_nil)) (check_room_sp hp hn)) ?_
  refine ss_ex (e_call0 (es_cons (e_vf rfl) (es_cons (e_vf rfl) (es_cons (e_vn rfl) es_nil))) (check_rows_sp (by omega) h hl)) ?_
  exact (ss_ret (e_calln (es_cons (e_vf rfl) (es_cons (e_vf rfl) (es_cons (e_vn rfl) es_nil))) (form_of_sp hp (by omega) h (by omega)))).trans rfl
theorem corners_sp [hf : H_corners fs] [H_corners_of fs] [H_check_flat fs] [Flt fs] {p n : Nat} {f : LLI} (hp : Ro p) (hn : 1 ≤ n ∧ n ≤ 6) (h : IsF p n f) :
    (pgOf fs N (d + 5)).fn i_corners [dd (p : Int), dd (n : Int), dd f] = .ok (dd (cornN f), true) := by
  refine fn_rt hf [dv (p : Int), dv (n : Int), sv f] rfl rfl ?_
  refine ss_ex (e_call0 (es_cons (e_vf rfl) (es_cons (e_vf rfl) es_nil)) (check_room_sp hp hn)) ?_
  refine ss_ex (e_call0 (es_cons (e_vf rfl) (es_cons (e_vf rfl) (es_cons (e_vn rfl) es_nil))) (check_flat_sp hp (by omega) h)) ?_
  exact (ss_ret (e_calln (es_cons (e_vn rfl) es_nil) (corners_of_sp (fun r hr => by have := (h.rws r hr).1; omega) h.nz (by have := h.len_le; omega)))).trans rfl
end FR

namespace FR
open PySem LA
open Da (dd)
variable {fs : List FI} {N d : Nat}
/-! ### what the laws draw -/
theorem log2_lt' {n k : Nat} (h : n < 2 ^ k) (hn : n ≠ 0) : n.log2 < k := (Nat.log2_lt hn).mpr h
theorem mulOk_big {x y : Int} {a c : Nat} (hx : x.natAbs < 2 ^ a) (hy : y.natAbs < 2 ^ c) (h : a + c ≤ 100000000) : mulOk x y = true := by
  unfold mulOk
  by_cases x0 : x.natAbs = 0
  · simp [x0]
  · by_cases y0 : y.natAbs = 0
    · simp [y0]
    · have h1 := log2_lt' hx x0
      have h2 := log2_lt' hy y0
      have : x.natAbs.log2 + y.natAbs.log2 < 100000000 := by omega
      simp [this]
theorem divOk_small {j : Int} (h : 0 < j ∧ j < 18446744073709551616) : divOk j = true := by
  unfold divOk
  have h1 : j.natAbs < 2 ^ 64 := by
    have : (2 : Nat) ^ 64 = 18446744073709551616 := by decide
    omega
  have h2 := log2_lt' h1 (by omega)
  have : j.natAbs.log2 < 9000 := by omega
  simp [h.1, this]
def mixN (cell at_ whole : Int) : Int := ((cell + 977 * at_) * 48271 + whole) % 2147483647
def moreN (cell at_ whole : Int) : Int := mixN cell at_ whole * (mixN cell at_ whole + 31 * at_ + 7) * (mixN cell at_ whole + cell + 5)
def numN (cell at_ whole : Int) : Int := if 10 ^ 18 ≤ cell then cell else moreN cell at_ whole * (moreN cell at_ whole + 48271) / 1009
theorem law_number_sp [hf : H_law_number fs] {cell at_ whole : Int} {B : Nat} (hc : cell.natAbs < 2 ^ B) (hB : 40 ≤ B ∧ B ≤ 10000000) (ha : 0 ≤ at_ ∧ at_ ≤ 1000000) :
    (pgOf fs N (d + 1)).fn i_law_number [dd cell, dd at_, dd whole] = .ok (dd (numN cell at_ whole), true) := by
  refine fn_rt hf [dv cell, dv at_, dv whole, none, none] rfl rfl ?_
  refine ss_if (e_ge (e_vf rfl) (e_pow e_ki e_ki (by decide))) (fun hc => ?_) (fun hc' => ?_)
  · refine (ss_ret (e_vf rfl)).trans ?_
    have : (10 : Int) ^ 18 ≤ cell := of_decide_eq_true hc
    unfold numN
    rw [if_pos this]; rfl
  · have hle : ¬ (10 : Int) ^ 18 ≤ cell := of_decide_eq_false hc'
    have hm := mod_rng (p := 2147483647) (by decide) ((cell + 977 * at_) * 48271 + whole)
    have hmix : 0 ≤ mixN cell at_ whole ∧ mixN cell at_ whole < 2147483647 := hm
    refine ss_set (fun mixed : Int => [dv cell, dv at_, dv whole, dv mixed, none]) (e_mod (e_add (e_mul (e_add (e_vf rfl) (e_mul e_ki (e_vf rfl) ?_)) e_ki ?_) (e_vf rfl)) e_ki ?_) (fun _ => rfl) fun mixed hmixed => ?_
    · exact mulOk_l (by omega)
    · exact mulOk_r (by omega)
    · decide
    have e1 : mixed = mixN cell at_ whole := hmixed
    subst e1
    have pB : (2 : Nat) ^ (B + 1) = 2 * 2 ^ B := by rw [Nat.pow_succ]; omega
    have p40 : (2 : Nat) ^ 40 ≤ 2 ^ B := Nat.pow_le_pow_right (by decide) hB.1
    have v40 : (2 : Nat) ^ 40 = 1099511627776 := by decide
    have hA : 0 ≤ mixN cell at_ whole + 31 * at_ + 7 ∧ mixN cell at_ whole + 31 * at_ + 7 < 4294967296 := by omega
    have hAA : 0 ≤ mixN cell at_ whole * (mixN cell at_ whole + 31 * at_ + 7) ∧ mixN cell at_ whole * (mixN cell at_ whole + 31 * at_ + 7) < 18446744073709551616 := by
      refine ⟨Int.mul_nonneg hmix.1 hA.1, ?_⟩
      have : mixN cell at_ whole * (mixN cell at_ whole + 31 * at_ + 7) ≤ 2147483647 * 4294967296 := Int.mul_le_mul (by omega) (by omega) hA.1 (by decide)
      omega
    have hC : (mixN cell at_ whole + cell + 5).natAbs < 2 ^ (B + 1) := by rw [pB]; omega
    have hM : (moreN cell at_ whole).natAbs < 2 ^ (B + 65) := by
      unfold moreN
      rw [Int.natAbs_mul]
      have h1 : (mixN cell at_ whole * (mixN cell at_ whole + 31 * at_ + 7)).natAbs < 2 ^ 64 := by
        have : (2 : Nat) ^ 64 = 18446744073709551616 := by decide
        omega
      calc _ < 2 ^ 64 * 2 ^ (B + 1) := Nat.mul_lt_mul'' h1 hC
        _ = 2 ^ (B + 65) := by rw [← Nat.pow_add]; congr 1; omega
    have hM2 : (moreN cell at_ whole + 48271).natAbs < 2 ^ (B + 66) := by
      have q : (2 : Nat) ^ (B + 66) = 2 * 2 ^ (B + 65) := by rw [Nat.pow_succ]; omega
      have q2 : (2 : Nat) ^ 40 ≤ 2 ^ (B + 65) := Nat.pow_le_pow_right (by decide) (by omega)
      rw [q]; omega
    refine ss_set (fun more : Int => [dv cell, dv at_, dv whole, dv (mixN cell at_ whole), dv more]) (e_mul (e_mul (e_vf rfl) (e_add (e_add (e_vf rfl) (e_mul e_ki (e_vf rfl) ?_)) e_ki) ?_) (e_add (e_add (e_vf rfl) (e_vf rfl)) e_ki) ?_) (fun _ => rfl) fun more hmore => ?_
    · exact mulOk_l (by omega)
    · exact mulOk_l (by omega)
    · exact mulOk_l hAA
    have e2 : more = moreN cell at_ whole := hmore
    subst e2
    refine (ss_ret (e_div (e_mul (e_vf rfl) (e_add (e_vf rfl) e_ki) ?_) e_ki ?_)).trans ?_
    · exact mulOk_big hM hM2 (by omega)
    · exact divOk_small (by decide)
    · unfold numN
      rw [if_neg hle]; rfl
def givenN (s : LI) : LI := if s = [] then [4] else cutL s none (some 63)
theorem cut_to {α : Type} (s : List α) (k : Nat) : cutL s none (some (k : Int)) = s.take k := by
  unfold cutL
  rw [HT.sIx_nat, HT.sIx_none, List.drop_zero, Nat.sub_zero]
  rcases Nat.le_total k s.length with h | h
  · rw [Nat.min_eq_left h]
  · rw [Nat.min_eq_right h, List.take_of_length_le (Nat.le_refl _), List.take_of_length_le h]
theorem cut_from {α : Type} (s : List α) (k : Nat) : cutL s (some (k : Int)) none = s.drop k := by
  unfold cutL
  rw [HT.sIx_nat, HT.sIx_none]
  rcases Nat.le_total k s.length with h | h
  · rw [Nat.min_eq_left h, List.take_of_length_le (by rw [List.length_drop]; omega)]
  · rw [Nat.min_eq_right h, List.drop_eq_nil_of_le (Nat.le_refl _), List.drop_eq_nil_of_le h, List.take_nil]
theorem cut63 (s : LI) : cutL s none (some 63) = s.take 63 := cut_to s 63
theorem givenN_len (s : LI) : 1 ≤ (givenN s).length ∧ (givenN s).length ≤ 63 := by
  unfold givenN
  split
  · exact ⟨Nat.le_refl 1, by decide⟩
  · rename_i h
    rw [cut63, List.length_take]
    have := List.length_pos_iff.mpr h
    omega
/-- the numbers of a script are no greater than told -/
def Bd (B : Nat) (s : LI) : Prop := ∀ z ∈ s, z.natAbs < 2 ^ B
theorem givenN_bd {B : Nat} {s : LI} (hB : 40 ≤ B) (h : Bd B s) : ∀ z ∈ givenN s, z.natAbs < 2 ^ B := by
  intro z hz
  unfold givenN at hz
  split at hz
  · rw [List.mem_singleton] at hz
    subst hz
    have : (2 : Nat) ^ 40 ≤ 2 ^ B := Nat.pow_le_pow_right (by decide) hB
    have v40 : (2 : Nat) ^ 40 = 1099511627776 := by decide
    show 4 < 2 ^ B
    omega
  · rw [cut63] at hz
    exact h z (List.mem_of_mem_take hz)
theorem law_room_sp [hf : H_law_room fs] {s : LI} {most : Nat} (hm : 1 ≤ most) : ∃ p n : Nat, Ro p ∧ 1 ≤ n ∧ n ≤ most ∧ ∀ d,
    (pgOf fs N (d + 1)).fn i_law_room [dd s, dd (most : Int)] = .ok (dd ((p : Int), (n : Int)), true) := by
  have key : ∀ w : Int, ∃ p : Nat, Ro p ∧ atD [D.int 2, D.int 3, D.int 5, D.int 7, D.int 2, D.int 3, D.int 11, D.int 13, D.int 17, D.int 19, D.int 23, D.int 29, D.int 31] (w % 13) = some (dd (p : Int)) := by
    intro w
    have h : w % 13 = 0 ∨ w % 13 = 1 ∨ w % 13 = 2 ∨ w % 13 = 3 ∨ w % 13 = 4 ∨ w % 13 = 5 ∨ w % 13 = 6 ∨ w % 13 = 7 ∨ w % 13 = 8 ∨ w % 13 = 9 ∨ w % 13 = 10 ∨ w % 13 = 11 ∨ w % 13 = 12 := by omega
    rcases h with h | h | h | h | h | h | h | h | h | h | h | h | h <;> rw [h] <;> exact ⟨_, ⟨by decide⟩, rfl⟩
  obtain ⟨p, hp, hw⟩ := key (cutL s none (some 63)).sum
  have hnn := Int.emod_nonneg ((cutL s none (some 63)).sum / 13) (show (most : Int) ≠ 0 by omega)
  refine ⟨p, (1 + (cutL s none (some 63)).sum / 13 % (most : Int)).toNat, hp, by omega, ?_, fun d => ?_⟩
  · have := Int.emod_lt_of_pos ((cutL s none (some 63)).sum / 13) (show (0 : Int) < most by omega)
    omega
  · refine fn_rt hf [sv s, dv (most : Int), none, none] rfl rfl ?_
    refine ss_set (fun whole : Int => [sv s, dv (most : Int), dv whole, none]) (e_sum (e_slf (e_vn rfl) b_nil (b_some e_ki rfl))) (fun _ => rfl) fun whole hwhole => ?_
    subst hwhole
    refine ss_set (x := (p : Int)) (fun prime : Int => [sv s, dv (most : Int), dv (cutL s none (some 63)).sum, dv prime]) ((e_ixd (e_tupA (es_cons e_ki (es_cons e_ki (es_cons e_ki (es_cons e_ki (es_cons e_ki (es_cons e_ki (es_cons e_ki (es_cons e_ki (es_cons e_ki (es_cons e_ki (es_cons e_ki (es_cons e_ki (es_cons e_ki es_nil))))))))))))) rfl) (.inr rfl) (e_mod (e_vf rfl) e_ki (by decide)) hw).trans rfl) (fun _ => rfl) fun prime hprime => ?_
    subst hprime
    refine (ss_ret (e_tupf (es_cons (e_mf rfl) (es_cons (e_add e_ki (e_mod (e_div (e_vf rfl) e_ki ?_) (e_vf rfl) ?_)) es_nil)))).trans ?_
    · exact divOk_small (by decide)
    · omega
    · have : ((1 + (cutL s none (some 63)).sum / 13 % (most : Int)).toNat : Int) = 1 + (cutL s none (some 63)).sum / 13 % (most : Int) := by
        have := Int.emod_nonneg ((cutL s none (some 63)).sum / 13) (show (most : Int) ≠ 0 by omega)
        omega
      rw [this]; rfl
def row0N (p n : Nat) (y : Int) : LI := (List.range n).map fun k : Nat => y / (1 + 31 * (k : Int)) % (p : Int)
def rowAtN (p n : Nat) (y : Int) : LI := if y / 5 % 3 = 0 then (row0N p n y).zipIdx.map fun z => if (y / 7 + (z.2 : Int)) % 2 = 0 then z.1 else 0 else row0N p n y
def cellN (s : LI) (i : Int) : Int := (givenN s).getD (pix (givenN s).length (i % ((givenN s).length : Int))) 0
def rowsN (s : LI) (p n by_ many : Nat) : LLI := (List.range many).map fun k : Nat => rowAtN p n (numN (cellN s ((k : Int) + (by_ : Int))) ((k : Int) + 9 * (by_ : Int)) ((givenN s).sum + (by_ : Int)))
theorem rowAtN_rw {p n : Nat} (hp : 0 < p) (y : Int) : Rw p n (rowAtN p n y) := by
  have h0 : Rw p n (row0N p n y) := by
    refine ⟨by simp [row0N], fun x hx => ?_⟩
    obtain ⟨k, _, rfl⟩ := List.mem_map.mp hx
    exact mod_rng hp _
  unfold rowAtN
  split
  · refine ⟨by simp [h0.1], fun x hx => ?_⟩
    obtain ⟨z, hz, rfl⟩ := List.mem_map.mp hx
    split
    · exact h0.2 z.1 (List.fst_mem_of_mem_zipIdx hz)
    · omega
  · exact h0
theorem rowsN_rws {s : LI} {p n by_ many : Nat} (hp : 0 < p) : Rws p n (rowsN s p n by_ many) := by
  intro r hr
  obtain ⟨k, _, rfl⟩ := List.mem_map.mp hr
  exact rowAtN_rw hp _
theorem rowsN_len {s : LI} {p n by_ many : Nat} : (rowsN s p n by_ many).length = many := by simp [rowsN]
theorem ix_mod {n : Nat} (i : Int) (h : 1 ≤ n) : -(n : Int) ≤ i % (n : Int) ∧ i % (n : Int) < n := by
  have h1 := Int.emod_nonneg i (show (n : Int) ≠ 0 by omega)
  have h2 := Int.emod_lt_of_pos i (show (0 : Int) < n by omega)
  omega
theorem cellN_bd {B : Nat} {s : LI} (hB : 40 ≤ B) (h : Bd B s) (i : Int) : (cellN s i).natAbs < 2 ^ B := by
  unfold cellN
  obtain ⟨_, h2⟩ := ixN_pix (ix_mod i (givenN_len s).1)
  rw [List.getD_eq_getElem?_getD, List.getElem?_eq_getElem h2]
  exact givenN_bd hB h _ (List.getElem_mem h2)
theorem law_rows_sp [hf : H_law_rows fs] [H_law_number fs] {s : LI} {p n by_ many B : Nat} (hp : 0 < p) (hn : n ≤ 12) (hs : Bd B s) (hB : 40 ≤ B ∧ B ≤ 10000000) (hby : by_ ≤ 1000) (hmany : many ≤ 1000) :
    (pgOf fs N (d + 2)).fn i_law_rows [dd s, dd (p : Int), dd (n : Int), dd (by_ : Int), dd (many : Int)] = .ok (dd (rowsN s p n by_ many), true) := by
  refine fn_rt hf [sv s, dv (p : Int), dv (n : Int), dv (by_ : Int), dv (many : Int), none, none, none, none, none, none, none, none] rfl rfl ?_
  refine ss_set (fun given : LI => [sv s, dv (p : Int), dv (n : Int), dv (by_ : Int), dv (many : Int), dv given, none, none, none, none, none, none, none]) (e_ife (e_ne (e_vn rfl) (e_lst0 (α := Int))) (fun hc => (e_slf (e_vn rfl) b_nil (b_some e_ki rfl))) (fun hc => (e_lstf (α := Int) (xs := [4]) (es_cons e_ki es_nil) rfl))) (fun _ => rfl) fun given hgiven => ?_
  have e1 : given = givenN s := by
    rw [hgiven]; unfold givenN
    by_cases h : s = [] <;> simp [h]
  subst e1
  have gl := givenN_len s
  refine ss_set (fun whole : Int => [sv s, dv (p : Int), dv (n : Int), dv (by_ : Int), dv (many : Int), dv (givenN s), dv whole, none, none, none, none, none, none]) (e_add (e_sum (e_vn rfl)) (e_vf rfl)) (fun _ => rfl) fun whole hwhole => ?_
  refine ss_set (fun found : LLI => [sv s, dv (p : Int), dv (n : Int), dv (by_ : Int), dv (many : Int), dv (givenN s), dv whole, dv found, none, none, none, none, none]) (e_lst0 (α := LI)) (fun _ => rfl) fun found hfound => ?_
  subst hfound
  refine ss_for [sv s, dv (p : Int), dv (n : Int), dv (by_ : Int), dv (many : Int), dv (givenN s), dv whole, dv ([] : LLI), none, none, none, none, none] (it_rng1 (e_vf rfl) (by omega)) rfl
    (for_app (fun f : LLI => [sv s, dv (p : Int), dv (n : Int), dv (by_ : Int), dv (many : Int), dv (givenN s), dv whole, dv f, none, none, none, none, none]) (fun (k : Nat) => rowAtN p n (numN (cellN s ((k : Int) + (by_ : Int))) ((k : Int) + 9 * (by_ : Int)) whole)) 1000000 _ _ (by simp; omega) fun f hlen k hk => ?_) ?_
  · have hk : k < many := by simpa using hk
    refine bdn [sv s, dv (p : Int), dv (n : Int), dv (by_ : Int), dv (many : Int), dv (givenN s), dv whole, dv f, dv (k : Int), none, none, none, none] [sv s, dv (p : Int), dv (n : Int), dv (by_ : Int), dv (many : Int), dv (givenN s), dv whole, dv (f ++ [rowAtN p n (numN (cellN s ((k : Int) + (by_ : Int))) ((k : Int) + 9 * (by_ : Int)) whole)]), dv (k : Int), dv (numN (cellN s ((k : Int) + (by_ : Int))) ((k : Int) + 9 * (by_ : Int)) whole), none, none, none] rfl rfl ?_ rfl
    refine ss_set (fun number : Int => [sv s, dv (p : Int), dv (n : Int), dv (by_ : Int), dv (many : Int), dv (givenN s), dv whole, dv f, dv (k : Int), dv number, none, none, none]) (e_callf (es_cons (e_ixf 0 (e_vn rfl) (e_mod (e_add (e_vf rfl) (e_vf rfl)) (e_len (e_vn rfl)) ?_) ?_) (es_cons (e_add (e_vf rfl) (e_mul e_ki (e_vf rfl) ?_)) (es_cons (e_vf rfl) es_nil))) (law_number_sp (B := B) (cellN_bd hB.1 hs _) hB ?_)) (fun _ => rfl) fun number hnumber => ?_
    · omega
    · exact ix_mod _ gl.1
    · exact mulOk_l (by decide)
    · omega
    have e2 : number = numN (cellN s ((k : Int) + (by_ : Int))) ((k : Int) + 9 * (by_ : Int)) whole := hnumber
    subst e2
    generalize numN (cellN s ((k : Int) + (by_ : Int))) ((k : Int) + 9 * (by_ : Int)) whole = y
    refine ss_set (fun row : LI => [sv s, dv (p : Int), dv (n : Int), dv (by_ : Int), dv (many : Int), dv (givenN s), dv whole, dv f, dv (k : Int), dv y, dv row, none, none]) (e_lc (it_rng1 (e_vf rfl) ?_) ?_ (fun z hz => el_k [sv s, sv (p : Int), sv (n : Int), sv (by_ : Int), sv (many : Int), sv (givenN s), sv whole, sv f, sv (k : Int), sv y, none, dv (z : Int), none] rfl rfl (e_mod (e_div (e_vf rfl) (e_add e_ki (e_mul e_ki (e_vf rfl) ?_)) ?_) (e_vf rfl) ?_))) (fun _ => rfl) fun row hrow => ?_
    · omega
    · simp; unfold LIM; omega
    · exact mulOk_l (by decide)
    · have : z < n := by simpa using hz
      exact divOk_small (by omega)
    · omega
    have e3 : row = row0N p n y := hrow
    subst e3
    have lr : (row0N p n y).length = n := by simp [row0N]
    have app : ∀ w : LI, w = rowAtN p n y → evSs (pgOf fs N (d + 1)) N [.app 7 (.mv 10)] [sv s, dv (p : Int), dv (n : Int), dv (by_ : Int), dv (many : Int), dv (givenN s), dv whole, dv f, dv (k : Int), dv y, dv w, none, none] = .ok (.nx [sv s, dv (p : Int), dv (n : Int), dv (by_ : Int), dv (many : Int), dv (givenN s), dv whole, dv (f ++ [rowAtN p n y]), dv (k : Int), dv y, none, none, none]) := by
      rintro w rfl
      refine ss_apd (fun found' : LLI => [sv s, dv (p : Int), dv (n : Int), dv (by_ : Int), dv (many : Int), dv (givenN s), dv whole, dv found', dv (k : Int), dv y, none, none, none]) rfl (e_md rfl) (by decide) ?_ rfl (fun _ => rfl) fun found' hfound' => ?_
      · unfold LIM; omega
      · rw [hfound']
        exact ss_nil
    refine ss_if (e_eq (e_mod (e_div (e_vf rfl) e_ki ?_) e_ki ?_) e_ki) (fun hc => ?_) (fun hc => ?_)
    · exact divOk_small (by decide)
    · decide
    · refine ss_set (fun row' : LI => [sv s, dv (p : Int), dv (n : Int), dv (by_ : Int), dv (many : Int), dv (givenN s), dv whole, dv f, dv (k : Int), dv y, dv row', none, none]) (e_lc (it_enm (e_vn rfl)) ?_ (fun z hz => el_k [sv s, sv (p : Int), sv (n : Int), sv (by_ : Int), sv (many : Int), sv (givenN s), sv whole, sv f, sv (k : Int), sv y, sv (row0N p n y), dv (z.2 : Int), dv z.1] rfl rfl (e_ife (e_eq (e_mod (e_add (e_div (e_vf rfl) e_ki ?_) (e_vf rfl)) e_ki ?_) e_ki) (fun hc => (e_vf rfl)) (fun hc => e_ki)))) (fun _ => rfl) fun row' hrow' => ?_
      · simp [lr]; unfold LIM; omega
      · exact divOk_small (by decide)
      · decide
      refine app row' ?_
      have : y / 5 % 3 = 0 := of_decide_eq_true hc
      rw [hrow']
      unfold rowAtN
      rw [if_pos this]
      simp
    · refine app _ ?_
      have : ¬ y / 5 % 3 = 0 := of_decide_eq_false hc
      unfold rowAtN
      rw [if_neg this]
  · refine (ss_ret (e_md rfl)).trans ?_
    rw [hwhole]
    simp [rowsN]
end FR

namespace FR
open PySem LA
open Da (dd)
variable {fs : List FI} {N d : Nat}
theorem law_less_sp [hf : H_law_less fs] {p n : Nat} {a b : LI} {k : Int} (hp : 0 < p ∧ p ≤ 31) (hb : Rw p n b) (hn : n ≤ 12) :
    (pgOf fs N (d + 1)).fn i_law_less [dd (p : Int), dd a, dd b, dd k] = .ok (dd (lessN p a b k), true) := by
  refine fn_rt hf [dv (p : Int), sv a, sv b, dv k, none, none] rfl rfl ?_
  refine (ss_ret (e_lc (it_zip (e_vn rfl) (e_vn rfl)) ?_ (fun z hz => el_k [sv (p : Int), sv a, sv b, sv k, dv z.1, dv z.2] rfl rfl (e_mod (e_sub (e_vf rfl) (e_mul (e_vf rfl) (e_vf rfl) ?_)) (e_vf rfl) ?_)))).trans rfl
  · have := hb.1; rw [List.length_zip]; unfold LIM; omega
  · have := hb.2 z.2 (List.of_mem_zip hz).2; exact mulOk_r (by omega)
  · omega
theorem _root_.LA.UForm.le {p n : Nat} {f : LLI} {cs : List Nat} {x : Nat → LI} (h : UForm p n f cs x) : f.length ≤ n := by
  rw [h.eq, List.length_map]
  have e : (srtC cs) = (List.range n).filter fun i => (srtC cs).contains i := sorted_ext (srtC_up h.nd) (List.pairwise_lt_range.filter _) fun k => by
    simp only [List.mem_filter, List.mem_range, List.contains_iff_mem]
    exact ⟨fun hk => ⟨h.lt k (srtC_mem.mp hk), hk⟩, fun hk => hk.2⟩
  have l1 : (srtC cs).length ≤ n := by
    rw [e]
    exact Nat.le_trans (List.length_filter_le _ _) (by simp)
  have l2 : cs.length = (srtC cs).length := by
    have hi : ∀ (c : Nat) (l : List Nat), (insC c l).length = l.length + 1 := by
      intro c l
      induction l with
      | nil => rfl
      | cons d l ih => unfold insC; split <;> simp [ih]
    have : ∀ l : List Nat, (srtC l).length = l.length := by
      intro l
      induction l with
      | nil => rfl
      | cons c l ih => rw [srtC, hi, ih]; rfl
    exact (this cs).symm
  omega
theorem law_form_sp [hf : H_law_form fs] [H_law_less fs] {p n : Nat} {rows : LLI} (hp : Ro p) (hn : n ≤ 12) (hr : Rws p n rows) :
    (pgOf fs N (d + 2)).fn i_law_form [dd (p : Int), dd rows] = .ok (dd (formN p n rows), false) := by
  have := (pm_of hp.pm).1
  have hp1 : 0 < p ∧ p ≤ 31 := ⟨hp.pos, hp.le⟩
  refine fn_rt hf [dv (p : Int), sv rows, none, none, none, none, none, none, none] rfl rfl ?_
  refine ss_set (fun found : LLI => [dv (p : Int), sv rows, dv found, none, none, none, none, none, none]) (e_lst0 (α := LI)) (fun _ => rfl) fun found hfound => ?_
  subst hfound
  refine ss_for [dv (p : Int), sv rows, dv ([] : LLI), none, none, none, none, none, none] (it_lst (e_vn rfl)) rfl
    (for_st (fun s : LLI × Own => [dv (p : Int), sv rows, some (.val (dd s.1) s.2), none, none, none, none, none, none]) (fun s row => (insN p s.1 row, if (nzN (redN p s.1 row)).isEmpty then .sh else .deep)) (fun s => (∃ cs x, UForm p n s.1 cs x) ∧ s.2 ≠ .bor) rows ([], .deep)
      ⟨⟨[], fun _ => [], rfl, List.nodup_nil, by simp, by simp, by simp, by simp⟩, by simp⟩ fun ⟨f, of⟩ ⟨⟨cs, x, U⟩, hof⟩ row hrow => ⟨?_, (ins_ok U (hr row hrow)).1, by show (if (nzN (redN p f row)).isEmpty then Own.sh else Own.deep) ≠ .bor; split <;> simp⟩).1 ?_
  · have U : UForm p n f cs x := U
    have R := hr row hrow
    have fl := U.le
    have F : ∀ o ∈ f, Rw p n o := by
      rw [U.eq]
      intro o ho
      obtain ⟨c, hc, rfl⟩ := List.mem_map.mp ho
      exact U.rw c hc
    have lred : ∀ (ls : LLI) (r : LI), (∀ o ∈ ls, Rw p n o) → Rw p n r → Rw p n (redN p ls r) := by
      intro ls
      induction ls with
      | nil => intro r _ h; exact h
      | cons l ls ih =>
        intro r h1 h2
        unfold redN
        rw [List.foldl_cons]
        refine ih _ (fun o ho => h1 o (by simp [ho])) ?_
        rw [lessN_eq]
        exact Rw.add hp.pos h2.1 (h1 l (by simp)).1 _
    have RD := lred f row F R
    -- the inner walk
    have inner := for_st (t := (dd : LI → D)) (f := bodyF (pgOf fs N (d + 1)) N [4] [.set 3 (.call i_law_less [.v 0, .v 3, .v 4, .ix (.v 3) (.index (.v 4) (.k (.int 1)))])] [4])
      (fun s : LI × Own => [dv (p : Int), sv rows, sv f, some (.val (dd s.1) s.2), none, none, none, none, none]) (fun s line => (lessN p s.1 line (s.1.getD (idxN line) 0), .deep)) (fun s => Rw p n s.1) f (row, .sh) R fun ⟨r, orr⟩ hr1 line hl => by
        have hr1 : Rw p n r := hr1
        have hl' := hl
        rw [U.eq] at hl'
        obtain ⟨c, hc, e⟩ := List.mem_map.mp hl'
        have L := F line hl
        have ix : line.findIdx? (· == 1) = some c := by
          rw [← e]
          exact idx_some (by rw [U.one c hc c hc, if_pos rfl]) (U.pre c hc)
        have ic : idxN line = c := by unfold idxN; rw [ix]; rfl
        have cn := U.lt c hc
        refine ⟨?_, by
          show Rw p n (lessN p r line _)
          rw [lessN_eq]
          exact Rw.add hp.pos hr1.1 L.1 _⟩
        refine bdn [dv (p : Int), sv rows, sv f, some (.val (dd r) orr), sv line, none, none, none, none] [dv (p : Int), sv rows, sv f, dv (lessN p r line (r.getD (idxN line) 0)), sv line, none, none, none, none] rfl rfl ?_ rfl
        refine ss_set (fun row : LI => [dv (p : Int), sv rows, sv f, dv row, sv line, none, none, none, none]) (e_calln (es_cons (e_vf rfl) (es_cons (e_vn rfl) (es_cons (e_vn rfl) (es_cons (e_ixf 0 (e_vn rfl) (e_index (e_vn rfl) e_ki ix) ?_) es_nil)))) (law_less_sp hp1 L hn)) (fun _ => rfl) fun row hrow => ?_
        · have := hr1.1; omega
        · rw [hrow, pixn, ic]
          exact ss_nil
    have einner : ∀ (ls : LLI) (s : LI × Own), (ls.foldl (fun (s : LI × Own) line => (lessN p s.1 line (s.1.getD (idxN line) 0), Own.deep)) s).1 = redN p ls s.1 := by
      intro ls
      induction ls with
      | nil => intro s; rfl
      | cons l ls ih => intro s; rw [List.foldl_cons, ih]; rfl
    have ein : insN p f row = match nzN (redN p f row) with
      | [] => f
      | c :: _ => f.map (clrN p c.toNat (oftN p (redN p f row) (invN p ((redN p f row).getD c.toNat 0)))) ++ [oftN p (redN p f row) (invN p ((redN p f row).getD c.toNat 0))] := rfl
    have inner1 := inner.1
    rw [show ([dv (p : Int), sv rows, sv f, some (.val (dd (f.foldl (fun (s : LI × Own) line => (lessN p s.1 line (s.1.getD (idxN line) 0), Own.deep)) (row, .sh)).1) (f.foldl (fun (s : LI × Own) line => (lessN p s.1 line (s.1.getD (idxN line) 0), Own.deep)) (row, .sh)).2), none, none, none, none, none] : En) = [dv (p : Int), sv rows, sv f, some (.val (dd (redN p f row)) (f.foldl (fun (s : LI × Own) line => (lessN p s.1 line (s.1.getD (idxN line) 0), Own.deep)) (row, .sh)).2), none, none, none, none, none] by rw [einner]] at inner1
    generalize (f.foldl (fun (s : LI × Own) line => (lessN p s.1 line (s.1.getD (idxN line) 0), Own.deep)) (row, .sh)).2 = ow at inner1
    show bodyF _ _ _ _ _ _ [dv (p : Int), sv rows, some (.val (dd f) of), none, none, none, none, none, none] = .ok (.nx [dv (p : Int), sv rows, some (.val (dd (insN p f row)) (if (nzN (redN p f row)).isEmpty then .sh else .deep)), none, none, none, none, none, none])
    rw [ein]
    generalize redN p f row = r at RD inner1
    cases e : nzN r with
    | nil =>
      refine bdn [dv (p : Int), sv rows, some (.val (dd f) of), sv row, none, none, none, none, none] [dv (p : Int), sv rows, sv f, some (.val (dd r) ow), none, dv ([] : LI), none, none, none] rfl rfl ?_ rfl
      refine ss_for [dv (p : Int), sv rows, sv f, sv row, none, none, none, none, none] (it_lst (e_vn rfl)) (by cases of with | bor => exact absurd rfl hof | sh => rfl | top => rfl | deep => rfl) inner1 ?_
      refine ss_set (fun spots : LI => [dv (p : Int), sv rows, sv f, some (.val (dd r) ow), none, dv spots, none, none, none]) (e_lcq (it_enm (e_vn rfl)) ?_ (fun z hz => el_q [sv (p : Int), sv rows, sv f, sv r, none, none, dv (z.2 : Int), dv z.1, none] rfl rfl (e_ne (e_vf rfl) e_ki) fun hq => (e_vf rfl))) (fun _ => rfl) fun spots hspots => ?_
      · have := RD.1; simp; unfold LIM; omega
      have hs : spots = nzN r := by rw [hspots]; rfl
      rw [e] at hs
      subst hs
      exact ss_iff (e_ne (e_vn rfl) (e_lst0 (α := Int))) rfl ss_nil
    | cons c t =>
      obtain ⟨c0, c1, c2, c3⟩ := nzF_cons e
      obtain ⟨k, rfl⟩ : ∃ k : Nat, c = (k : Int) := ⟨c.toNat, by omega⟩
      simp only [Int.toNat_natCast] at c1 c2 c3 ⊢
      have kn : k < n := by rw [RD.1] at c1; exact c1
      have pz : ph p (r.getD k 0) ≠ 0 := fun q => c2 ((ph_nz p (RD.get hp.pos k)).mp q)
      obtain ⟨_, _, hne⟩ := invN_ok pz
      have W : Rw p n (oftN p r (invN p (r.getD k 0))) := Rw.oft hp.pos RD.1 _
      have e1 : ((p : Int) - 1).toNat = p - 1 := by omega
      refine bdn [dv (p : Int), sv rows, some (.val (dd f) of), sv row, none, none, none, none, none] [dv (p : Int), sv rows, dv (f.map (clrN p k (oftN p r (invN p (r.getD k 0)))) ++ [oftN p r (invN p (r.getD k 0))]), none, none, dv ((k : Int) :: t), none, none, dv (invN p (r.getD k 0))] rfl rfl ?_ rfl
      refine ss_for [dv (p : Int), sv rows, sv f, sv row, none, none, none, none, none] (it_lst (e_vn rfl)) (by cases of with | bor => exact absurd rfl hof | sh => rfl | top => rfl | deep => rfl) inner1 ?_
      refine ss_set (fun spots : LI => [dv (p : Int), sv rows, sv f, some (.val (dd r) ow), none, dv spots, none, none, none]) (e_lcq (it_enm (e_vn rfl)) ?_ (fun z hz => el_q [sv (p : Int), sv rows, sv f, sv r, none, none, dv (z.2 : Int), dv z.1, none] rfl rfl (e_ne (e_vf rfl) e_ki) fun hq => (e_vf rfl))) (fun _ => rfl) fun spots hspots => ?_
      · have := RD.1; simp; unfold LIM; omega
      have hs : spots = nzN r := by rw [hspots]; rfl
      rw [e] at hs
      subst hs
      refine ss_ift (e_ne (e_vn rfl) (e_lst0 (α := Int))) rfl ?_
      refine ss_set (fun times : Int => [dv (p : Int), sv rows, sv f, some (.val (dd r) ow), none, dv ((k : Int) :: t), none, none, dv times]) (e_ixf 0 (e_lcq (it_rng2 e_ki (e_vf rfl) ?_) ?_ (fun z hz => el_q [sv (p : Int), sv rows, sv f, sv r, none, sv ((k : Int) :: t), none, dv ((1 : Int) + (z : Int)), none] rfl rfl (e_eq (e_mod (e_mul (e_vf rfl) (e_ixf 0 (e_vn rfl) (e_ixf 0 (e_vn rfl) e_ki ?_) ?_) ?_) (e_vf rfl) ?_) e_ki) fun hq => (e_vf rfl))) e_ki ?_) (fun _ => rfl) fun times htimes => ?_
      · have := hp.le; omega
      · have := hp.le; simp; unfold LIM; omega
      · simp; omega
      · show -(r.length : Int) ≤ ((k : Int) :: t).getD (pix (t.length + 1) 0) 0 ∧ ((k : Int) :: t).getD (pix (t.length + 1) 0) 0 < r.length
        rw [pix0]
        show -(r.length : Int) ≤ (k : Int) ∧ (k : Int) < r.length
        omega
      · have := hp.le; simp at hz; exact mulOk_l (by omega)
      · have := hp.pos; omega
      · rw [e1]
        refine ⟨by omega, ?_⟩
        rw [List.length_map]
        have := List.length_pos_iff.mpr hne
        show (0 : Int) < _
        have q : ((List.range (p - 1)).filter fun z : Nat => decide ((1 + (z : Int)) * (r.getD (pix r.length (((k : Int) :: t).getD (pix ((k : Int) :: t).length 0) 0)) 0) % (p : Int) = 1)) = (List.range (p - 1)).filter fun z : Nat => decide ((1 + (z : Int)) * r.getD k 0 % (p : Int) = 1) := by
          rw [pix0]
          show ((List.range (p - 1)).filter fun z : Nat => decide ((1 + (z : Int)) * (r.getD (pix r.length (k : Int)) 0) % (p : Int) = 1)) = _
          rw [pixn]
        rw [q]
        omega
      have et : times = invN p (r.getD k 0) := by
        rw [htimes, e1, pix0]
        show (((List.range (p - 1)).filter fun z : Nat => decide ((1 + (z : Int)) * (r.getD (pix r.length (((k : Int) :: t).getD 0 0)) 0) % (p : Int) = 1)).map fun z : Nat => 1 + (z : Int)).getD 0 0 = _
        show (((List.range (p - 1)).filter fun z : Nat => decide ((1 + (z : Int)) * (r.getD (pix r.length (k : Int)) 0) % (p : Int) = 1)).map fun z : Nat => 1 + (z : Int)).getD 0 0 = _
        rw [pixn]; rfl
      subst et
      refine ss_set (fun row' : LI => [dv (p : Int), sv rows, sv f, dv row', none, dv ((k : Int) :: t), none, none, dv (invN p (r.getD k 0))]) (e_lc (it_lst (e_mo rfl)) ?_ (fun z hz => el_k [sv (p : Int), sv rows, sv f, sv r, none, sv ((k : Int) :: t), none, dv z, sv (invN p (r.getD k 0))] rfl rfl (e_mod (e_mul (e_vf rfl) (e_vf rfl) ?_) (e_vf rfl) ?_))) (fun _ => rfl) fun row' hrow' => ?_
      · have := RD.1; unfold LIM; omega
      · have := RD.2 z hz; have := hp.le; exact mulOk_l (by omega)
      · have := hp.pos; omega
      have er : row' = oftN p r (invN p (r.getD k 0)) := hrow'
      subst er
      refine ss_set (fun found' : LLI => [dv (p : Int), sv rows, dv found', none, none, dv ((k : Int) :: t), none, none, dv (invN p (r.getD k 0))]) (e_catr (e_lc (g := clrN p k (oftN p r (invN p (r.getD k 0)))) (it_lst (e_ms rfl (by decide))) ?_ (fun z hz => el_k [sv (p : Int), sv rows, sv f, sv (oftN p r (invN p (r.getD k 0))), sv z, sv ((k : Int) :: t), none, none, sv (invN p (r.getD k 0))] rfl rfl (e_calln (es_cons (e_vf rfl) (es_cons (e_vn rfl) (es_cons (e_vn rfl) (es_cons (e_ixf 0 (e_vn rfl) (e_ixf 0 (e_vn rfl) e_ki ?_) ?_) es_nil)))) ?_))) (e_lstn (α := LI) (xs := [oftN p r (invN p (r.getD k 0))]) (es_cons (e_md rfl) es_nil) rfl) ?_ (by simp)) (fun _ => rfl) fun found' hfound' => ?_
      · unfold LIM; omega
      · simp; omega
      · have := (F z hz).1
        show -(z.length : Int) ≤ (k : Int) ∧ (k : Int) < z.length
        omega
      · have := law_less_sp (fs := fs) (N := N) (d := d) (a := z) (k := z.getD k 0) hp1 W hn
        rw [lessN_eq] at this
        show (pgOf fs N (d + 1)).fn i_law_less [dd (p : Int), dd z, dd (oftN p r (invN p (r.getD k 0))), dd (z.getD (pix z.length (k : Int)) 0)] = _
        rw [pixn]
        exact this
      · simp; unfold LIM; omega
      subst hfound'
      exact ss_nil
  · refine (ss_retS (e_srtR (e_mo rfl))).trans ?_
    have : ∀ (l : LLI) (s : LLI × Own), (l.foldl (fun (s : LLI × Own) row => (insN p s.1 row, if (nzN (redN p s.1 row)).isEmpty then Own.sh else Own.deep)) s).1 = l.foldl (insN p) s.1 := by
      intro l
      induction l with
      | nil => intro s; rfl
      | cons r l ih => intro s; rw [List.foldl_cons, ih]; rfl
    rw [this, ← lformN_eq hr]
    rfl
end FR

namespace FR
open PySem LA
open Da (dd)
variable {fs : List FI} {N d : Nat}
theorem law_wide_sp [hf : H_law_wide fs] [H_law_form fs] [H_law_less fs] {p n : Nat} {rows : LLI} (hp : Ro p) (hn : n ≤ 12) (hr : Rws p n rows) :
    (pgOf fs N (d + 3)).fn i_law_wide [dd (p : Int), dd rows] = .ok (dd ((formN p n rows).length : Int), true) := by
  refine fn_rt hf [dv (p : Int), sv rows] rfl rfl ?_
  exact (ss_ret (e_len (e_callsh (es_cons (e_vf rfl) (es_cons (e_vn rfl) es_nil)) (law_form_sp hp hn hr)))).trans rfl
theorem law_whole_sp [hf : H_law_whole fs] {x : Int} : (pgOf fs N (d + 1)).fn i_law_whole [dd x] = .ok (dd true, true) := by
  refine fn_rt hf [dv x] rfl rfl ?_
  exact (ss_ret (e_and (e_isin (e_vf (x := x) rfl) rfl) fun hc => (e_not (e_isin (e_vf (x := x) rfl) rfl)))).trans rfl
theorem law_is_row_sp [hf : H_law_is_row fs] [H_law_whole fs] {p n : Nat} {r : LI} (hl : r.length ≤ LIM) :
    (pgOf fs N (d + 2)).fn i_law_is_row [dd (p : Int), dd (n : Int), dd r] = .ok (dd (isRowN p n r), true) := by
  refine fn_rt hf [dv (p : Int), dv (n : Int), sv r, none] rfl rfl ?_
  refine ss_if (e_or (e_not (e_isin (e_vn rfl) rfl)) fun hc => (e_ne (e_len (e_vn rfl)) (e_vf rfl))) (fun hc => ?_) (fun hc => ?_)
  · refine (ss_ret e_kb).trans ?_
    have : ¬ r.length = n := by simp at hc; omega
    simp [isRowN, this]
  · refine (ss_ret (e_all (e_lc (it_lst (e_vn rfl)) hl (fun z hz => el_k [sv (p : Int), sv (n : Int), sv r, dv z] rfl rfl (e_and (e_callf (es_cons (e_vf rfl) es_nil) law_whole_sp) fun hc => (e_ch .le .lt e_ki (e_vf rfl) (e_vf rfl))))))).trans ?_
    have : r.length = n := by simp at hc; omega
    simp only [isRowN, this, decide_true, Bool.true_and, List.all_map]
    rfl
theorem law_sum_sp [hf : H_law_sum fs] [H_law_less fs] {p n : Nat} {rows : LLI} {shares : LI} (hp : 0 < p ∧ p ≤ 31) (hr : Rws p n rows) (hn : n ≤ 12) :
    (pgOf fs N (d + 2)).fn i_law_sum [dd (p : Int), dd (n : Int), dd rows, dd shares] = .ok (dd (sumN p n rows shares), true) := by
  refine fn_rt hf [dv (p : Int), dv (n : Int), sv rows, sv shares, none, none, none] rfl rfl ?_
  refine ss_set (fun found : LI => [dv (p : Int), dv (n : Int), sv rows, sv shares, dv found, none, none]) (e_rep (e_lstf (α := Int) (es_cons e_ki es_nil) rfl) (e_vf rfl) (by omega)) (fun _ => rfl) fun found hfound => ?_
  refine ss_for [dv (p : Int), dv (n : Int), sv rows, sv shares, dv found, none, none] (it_zip (e_vn rfl) (e_vn rfl)) rfl
    (for_st (fun f : LI => [dv (p : Int), dv (n : Int), sv rows, sv shares, dv f, none, none]) (fun f z => addN p f z.1 z.2) (fun _ => True) _ _ trivial fun f _ z hz => ⟨?_, trivial⟩).1 ?_
  · refine bdn [dv (p : Int), dv (n : Int), sv rows, sv shares, dv f, sv z.1, dv z.2] [dv (p : Int), dv (n : Int), sv rows, sv shares, dv (addN p f z.1 z.2), sv z.1, dv z.2] rfl rfl ?_ rfl
    refine ss_set (fun f : LI => [dv (p : Int), dv (n : Int), sv rows, sv shares, dv f, sv z.1, dv z.2]) (e_calln (es_cons (e_vf rfl) (es_cons (e_vn rfl) (es_cons (e_vn rfl) (es_cons (e_neg (e_vf rfl)) es_nil)))) (law_less_sp hp (hr z.1 (List.of_mem_zip hz).1) hn)) (fun _ => rfl) fun f' hf' => ?_
    rw [hf', lessN_eq, Int.neg_neg]
    exact ss_nil
  · refine (ss_ret (e_md rfl)).trans ?_
    rw [hfound]
    simp [sumN]
theorem law_product_sp [hf : H_law_product fs] {p n : Nat} {a b : LI} (hp : 0 < p ∧ p ≤ 31) (hb : Rw p n b) (hn : n ≤ 12) :
    (pgOf fs N (d + 1)).fn i_law_product [dd (p : Int), dd a, dd b] = .ok (dd (prodN p a b), true) := by
  refine fn_rt hf [dv (p : Int), sv a, sv b, none, none] rfl rfl ?_
  refine (ss_ret (e_mod (e_sum (e_lc (it_zip (e_vn rfl) (e_vn rfl)) ?_ (fun z hz => el_k [sv (p : Int), sv a, sv b, dv z.1, dv z.2] rfl rfl (e_mul (e_vf rfl) (e_vf rfl) ?_)))) (e_vf rfl) ?_)).trans rfl
  · have := hb.1; rw [List.length_zip]; unfold LIM; omega
  · have := hb.2 z.2 (List.of_mem_zip hz).2; exact mulOk_r (by omega)
  · omega
def flatN (s : LI) (p n by_ : Nat) : LLI := formN p n (rowsN s p n by_ (numN (cellN s (by_ : Int)) ((by_ : Int) + 40) (givenN s).sum % ((n : Int) + 1)).toNat)
theorem flatN_isF {s : LI} {p n by_ : Nat} (hp : Ro p) : IsF p n (flatN s p n by_) := by
  have := (pm_of hp.pm).1
  exact formN_isF (rowsN_rws hp.pos)
theorem law_flat_sp [hf : H_law_flat fs] [H_law_form fs] [H_law_number fs] [H_law_rows fs] [H_law_less fs] {s : LI} {p n by_ B : Nat} (hp : Ro p) (hn : n ≤ 12) (hs : Bd B s) (hB : 40 ≤ B ∧ B ≤ 10000000) (hby : by_ ≤ 1000) :
    (pgOf fs N (d + 3)).fn i_law_flat [dd s, dd (p : Int), dd (n : Int), dd (by_ : Int)] = .ok (dd (flatN s p n by_), false) := by
  refine fn_rt hf [sv s, dv (p : Int), dv (n : Int), dv (by_ : Int), none, none] rfl rfl ?_
  refine ss_set (fun given : LI => [sv s, dv (p : Int), dv (n : Int), dv (by_ : Int), dv given, none]) (e_ife (e_ne (e_vn rfl) (e_lst0 (α := Int))) (fun hc => (e_slf (e_vn rfl) b_nil (b_some e_ki rfl))) (fun hc => (e_lstf (α := Int) (xs := [4]) (es_cons e_ki es_nil) rfl))) (fun _ => rfl) fun given hgiven => ?_
  have e1 : given = givenN s := by
    rw [hgiven]; unfold givenN
    by_cases h : s = [] <;> simp [h]
  subst e1
  have gl := givenN_len s
  refine ss_set (fun many : Int => [sv s, dv (p : Int), dv (n : Int), dv (by_ : Int), dv (givenN s), dv many]) (e_mod (e_callf (es_cons (e_ixf 0 (e_vn rfl) (e_mod (e_vf rfl) (e_len (e_vn rfl)) ?_) ?_) (es_cons (e_add (e_vf rfl) e_ki) (es_cons (e_sum (e_vn rfl)) es_nil))) (law_number_sp (B := B) (cellN_bd hB.1 hs _) hB ?_)) (e_add (e_vf rfl) e_ki) ?_) (fun _ => rfl) fun many hmany => ?_
  · omega
  · exact ix_mod _ gl.1
  · omega
  · omega
  have em : many = (((numN (cellN s (by_ : Int)) ((by_ : Int) + 40) (givenN s).sum % ((n : Int) + 1)).toNat : Nat) : Int) := by
    rw [hmany]
    have := Int.emod_nonneg (numN (cellN s (by_ : Int)) ((by_ : Int) + 40) (givenN s).sum) (show (n : Int) + 1 ≠ 0 by omega)
    exact (Int.toNat_of_nonneg this).symm
  have lm := Int.emod_lt_of_pos (numN (cellN s (by_ : Int)) ((by_ : Int) + 40) (givenN s).sum) (show (0 : Int) < (n : Int) + 1 by omega)
  subst em
  exact (ss_ret (e_callsh (es_cons (e_vf rfl) (es_cons (e_calln (es_cons (e_vn rfl) (es_cons (e_vf rfl) (es_cons (e_vf rfl) (es_cons (e_vf rfl) (es_cons (e_vf rfl) es_nil))))) (law_rows_sp hp.pos hn hs hB hby (by omega))) es_nil)) (law_form_sp hp hn (rowsN_rws hp.pos)))).trans rfl
/-! ### what the laws' texts need -/
theorem bd_of {B : Nat} {ns : LI} (h : ∀ z ∈ ns, PySem.Builtin.Int.intBits z ≤ B) : Bd B ns := by
  intro z hz
  have := h z hz
  unfold PySem.Builtin.Int.intBits at this
  by_cases h0 : z.natAbs = 0
  · rw [h0]; exact Nat.two_pow_pos B
  · have hz : ¬ (z == 0) = true := by
      rw [beq_iff_eq]; omega
    rw [if_neg hz] at this
    exact (Nat.log2_lt h0).mp (by omega)
theorem most_of (q : Bool) : ∃ most : Nat, (most = 4 ∨ most = 6) ∧ (if q = true then (6 : Int) else 4) = (most : Int) := by
  cases q
  · exact ⟨4, by simp, rfl⟩
  · exact ⟨6, by simp, rfl⟩
/-- the rows that are 1 at one place -/
def evN (n : Nat) : LLI := (List.range n).map fun k : Nat => (List.range n).map fun j : Nat => if decide ((j : Int) = (k : Int)) = true then (1 : Int) else 0
theorem ev_get {n k j : Nat} (hj : j < n) : ((List.range n).map fun j : Nat => if decide ((j : Int) = (k : Int)) = true then (1 : Int) else 0).getD j 0 = if k = j then 1 else 0 := by
  rw [List.getD_eq_getElem?_getD, List.getElem?_map, List.getElem?_eq_getElem (by simpa using hj), List.getElem_range]
  simp only [Option.map_some, Option.getD_some, decide_eq_true_eq]
  by_cases h : k = j
  · rw [if_pos h, if_pos (by omega)]
  · rw [if_neg h, if_neg (by omega)]
theorem evN_isF {p n : Nat} (hp : 2 ≤ p) : IsF p n (evN n) := by
  refine ⟨List.range n, fun k => (List.range n).map fun j : Nat => if decide ((j : Int) = (k : Int)) = true then (1 : Int) else 0, rfl, List.pairwise_lt_range, fun c hc => by simpa using hc, fun c hc => ⟨by simp, fun x hx => ?_⟩, fun c hc l hl => ev_get (by simpa using hl), fun c hc i hi => ?_⟩
  · obtain ⟨j, _, rfl⟩ := List.mem_map.mp hx
    split <;> omega
  · have : c < n := by simpa using hc
    rw [ev_get (by omega), if_neg (by omega)]
theorem cut_back {α : Type} (xs : List α) (a : α) : cutL (xs ++ [a]) none (some (-1)) = xs := by
  unfold cutL
  have h : HT.sIx (xs ++ [a]).length (xs ++ [a]).length (some (-1)) = xs.length := by
    unfold HT.sIx
    simp
    omega
  rw [h, HT.sIx_none, List.drop_zero, Nat.sub_zero, List.take_left]
theorem map_self {α : Type} (xs : List α) : (xs.map fun z => z) = xs := by
  induction xs with
  | nil => rfl
  | cons x xs ih => rw [List.map_cons, ih]
end FR

namespace FR
open PySem LA Lean.Grind
/-! ### rows put together; what lies across, in whole numbers -/
theorem rws_app {p n : Nat} {a b : LLI} (ha : Rws p n a) (hb : Rws p n b) : Rws p n (a ++ b) := fun r hr => (List.mem_append.mp hr).elim (ha r) (hb r)
section
variable {p : Nat} [hp : Pm p] {n : Nat}
/-- rows put together -/
noncomputable def linI (p : Nat) [Pm p] : LLI → LI → V (Fin p)
  | r :: rs, s :: ss => fun i => ph p s * vec p r i + linI p rs ss i
  | _, _ => fun _ => 0
theorem linI_sp : ∀ {rs : LLI} {ss : LI}, SpI p rs (linI p rs ss)
  | [], ss => by cases ss <;> exact Sp.z _
  | r :: rs, [] => Sp.z _
  | r :: rs, s :: ss => by
    show Sp (vec p r :: rs.map (vec p)) _
    exact ⟨-(ph p s), (linI_sp (rs := rs) (ss := ss)).congr fun i => by
      show ph p s * vec p r i + linI p rs ss i + _ = _
      grind⟩
theorem vec_rep (n : Nat) (i : Nat) : vec p (List.replicate n 0) i = 0 := by
  unfold vec
  have : (List.replicate n (0 : Int)).getD i 0 = 0 := by
    rw [List.getD_eq_getElem?_getD, List.getElem?_replicate]
    split <;> rfl
  rw [this, ph_0]
theorem rep_rw (n : Nat) : Rw p n (List.replicate n 0) := ⟨by simp, fun x hx => by
  have := List.eq_of_mem_replicate hx
  have := Pm.pos p
  omega⟩
theorem fold_add : ∀ (zs : List (LI × Int)) (f : LI), Rw p n f → (∀ z ∈ zs, Rw p n z.1) → Rw p n (zs.foldl (fun f z => addN p f z.1 z.2) f) ∧ ∀ i, vec p (zs.foldl (fun f z => addN p f z.1 z.2) f) i = vec p f i + linI p (zs.map (·.1)) (zs.map (·.2)) i
  | [], f, hf, _ => ⟨hf, fun i => by
    show vec p f i = vec p f i + 0
    grind⟩
  | z :: zs, f, hf, h => by
    have Z := h z (by simp)
    have A : Rw p n (addN p f z.1 z.2) := Rw.add (Pm.pos p) hf.1 Z.1 _
    obtain ⟨h1, h2⟩ := fold_add zs (addN p f z.1 z.2) A fun y hy => h y (by simp [hy])
    refine ⟨h1, fun i => ?_⟩
    rw [List.foldl_cons, h2, vec_add (by rw [hf.1, Z.1])]
    show _ = vec p f i + (ph p z.2 * vec p z.1 i + linI p (zs.map (·.1)) (zs.map (·.2)) i)
    grind
theorem linI_zip : ∀ (rs : LLI) (ss : LI), linI p ((rs.zip ss).map (·.1)) ((rs.zip ss).map (·.2)) = linI p rs ss
  | [], ss => by cases ss <;> rfl
  | r :: rs, [] => rfl
  | r :: rs, s :: ss => by
    rw [List.zip_cons_cons, List.map_cons, List.map_cons]
    funext i
    show ph p s * vec p r i + linI p ((rs.zip ss).map (·.1)) ((rs.zip ss).map (·.2)) i = ph p s * vec p r i + linI p rs ss i
    rw [linI_zip rs ss]
theorem sumN_ok {rows : LLI} (h : Rws p n rows) (shares : LI) : Rw p n (sumN p n rows shares) ∧ ∀ i, vec p (sumN p n rows shares) i = linI p rows shares i := by
  obtain ⟨h1, h2⟩ := fold_add (n := n) (rows.zip shares) (List.replicate n 0) (rep_rw n) fun z hz => h z.1 (List.of_mem_zip hz).1
  refine ⟨h1, fun i => ?_⟩
  unfold sumN
  rw [h2, vec_rep, linI_zip]
  grind
theorem linI_lay {x : Nat → LI} {a : Nat → Int} : ∀ cs : List Nat, linI p (cs.map x) (cs.map a) = lay cs (fun c => vec p (x c)) (fun c => ph p (a c))
  | [] => rfl
  | c :: cs => by
    funext i
    show ph p (a c) * vec p (x c) i + linI p (cs.map x) (cs.map a) i = ph p (a c) * vec p (x c) i + lay cs (fun c => vec p (x c)) (fun c => ph p (a c)) i
    rw [linI_lay cs]
def sharesN (f : LLI) (row : LI) : LI := (cornN f).map fun c => row.getD (pix row.length c) 0
theorem sharesN_eq {f : LLI} {cs : List Nat} {x : Nat → LI} (h : IForm p n f cs x) (row : LI) : sharesN f row = cs.map fun c => row.getD c 0 := by
  unfold sharesN
  rw [h.corn, List.map_map]
  apply List.map_congr_left
  intro c _
  show row.getD (pix row.length (c : Int)) 0 = _
  rw [pixn]
theorem IForm_sum {f : LLI} {cs : List Nat} {x : Nat → LI} (h : IForm p n f cs x) (row : LI) : Rw p n (sumN p n f (sharesN f row)) ∧ ∀ i, vec p (sumN p n f (sharesN f row)) i = lay cs (fun c => vec p (x c)) (vec p row) i := by
  obtain ⟨h1, h2⟩ := sumN_ok (p := p) (n := n) (rows := f) (IsF.rws ⟨cs, x, h⟩) (sharesN f row)
  refine ⟨h1, fun i => ?_⟩
  rw [h2, sharesN_eq h, h.eq, linI_lay]; rfl
def doesN (p n : Nat) (f : LLI) (row : LI) : Bool := decide (sumN p n f (sharesN f row) = row)
theorem doesN_iff {f : LLI} (hf : IsF p n f) {row : LI} (hr : Rw p n row) : doesN p n f row = true ↔ SpI p f (vec p row) := by
  obtain ⟨cs, x, h⟩ := hf
  obtain ⟨h1, h2⟩ := IForm_sum h row
  unfold doesN SpI
  rw [decide_eq_true_eq, h.vecs, h.frm.dual.iff]
  constructor
  · intro e i
    rw [← h2, e]
  · intro e
    exact vec_inj h1 hr fun i _ => by rw [h2, ← e]
/-! what lies across -/
def crossN (p n : Nat) (f : LLI) (k : Nat) : LI := ((cornN f).zip f).foldl (fun fd z => fd.set (pix fd.length z.1) (-(z.2.getD k 0) % p)) ((List.replicate n 0).set k 1)
theorem getD_set {l : LI} {i j : Nat} {v : Int} (h : i < l.length) : (l.set i v).getD j 0 = if j = i then v else l.getD j 0 := by
  rw [List.getD_eq_getElem?_getD, List.getElem?_set]
  by_cases e : i = j
  · subst e
    rw [if_pos rfl, if_pos h, if_pos rfl]; rfl
  · rw [if_neg e, if_neg fun z => e z.symm, ← List.getD_eq_getElem?_getD]
theorem cross_fold {x : Nat → LI} {k : Nat} : ∀ (cs : List Nat) (l : LI), l.length = n → cs.Nodup → (∀ c ∈ cs, c < n) → (((cs.map fun (c : Nat) => (c : Int)).zip (cs.map x)).foldl (fun fd z => fd.set (pix fd.length z.1) (-(z.2.getD k 0) % p)) l).length = n ∧
    ∀ j, (((cs.map fun (c : Nat) => (c : Int)).zip (cs.map x)).foldl (fun fd z => fd.set (pix fd.length z.1) (-(z.2.getD k 0) % p)) l).getD j 0 = if j ∈ cs then -((x j).getD k 0) % p else l.getD j 0
  | [], l, hl, _, _ => ⟨hl, fun j => by simp⟩
  | c :: cs, l, hl, nd, lt => by
    have nd' := List.nodup_cons.mp nd
    have hc := lt c (by simp)
    obtain ⟨h1, h2⟩ := cross_fold (x := x) (k := k) cs (l.set c (-((x c).getD k 0) % p)) (by rw [List.length_set]; exact hl) nd'.2 fun d hd => lt d (by simp [hd])
    simp only [List.map_cons, List.zip_cons_cons, List.foldl_cons, pixn]
    refine ⟨h1, fun j => ?_⟩
    rw [h2, getD_set (by rw [hl]; exact hc)]
    by_cases e : j ∈ cs
    · rw [if_pos e, if_pos (by simp [e])]
    · rw [if_neg e]
      by_cases e2 : j = c
      · subst e2
        rw [if_pos rfl, if_pos (by simp)]
      · rw [if_neg e2, if_neg (by simp [e, e2])]
theorem crossN_ok {f : LLI} {cs : List Nat} {x : Nat → LI} (h : IForm p n f cs x) {k : Nat} (hk : k < n) (hkc : k ∉ cs) : Rw p n (crossN p n f k) ∧ ∀ i, vec p (crossN p n f k) i = crs cs (fun c => vec p (x c)) k i := by
  have e : crossN p n f k = ((cs.map fun (c : Nat) => (c : Int)).zip (cs.map x)).foldl (fun fd z => fd.set (pix fd.length z.1) (-(z.2.getD k 0) % p)) ((List.replicate n 0).set k 1) := by
    unfold crossN
    rw [h.corn, h.eq]
  obtain ⟨h1, h2⟩ := cross_fold (p := p) (x := x) (k := k) cs ((List.replicate n 0).set k 1) (by simp) h.frm.dual.nd h.lt
  rw [← e] at h1 h2
  have lk := hp.lt
  have h3 : ∀ j, (crossN p n f k).getD j 0 = if j ∈ cs then -((x j).getD k 0) % p else if j = k then 1 else 0 := fun j => by
    rw [h2, getD_set (by simpa using hk)]
    have : (List.replicate n (0 : Int)).getD j 0 = 0 := by
      rw [List.getD_eq_getElem?_getD, List.getElem?_replicate]
      split <;> rfl
    rw [this]
  refine ⟨⟨h1, fun v hv => ?_⟩, fun i => ?_⟩
  · obtain ⟨j, hj, rfl⟩ := List.mem_iff_getElem.mp hv
    have := h3 j
    rw [List.getD_eq_getElem?_getD, List.getElem?_eq_getElem hj] at this
    have this : (crossN p n f k)[j] = _ := this
    rw [this]
    split
    · exact mod_rng (Pm.pos p) _
    · split <;> omega
  · show ph p _ = _
    rw [h3]
    unfold crs
    by_cases e1 : i = k
    · subst e1
      rw [if_neg hkc, if_pos rfl, if_pos rfl, ph_1]
    · rw [if_neg e1]
      by_cases e2 : i ∈ cs
      · rw [if_pos e2, if_pos e2, if_neg e1, ph_mod, ph_neg]; rfl
      · rw [if_neg e2, if_neg e2, if_neg e1, ph_0]
def restN (n : Nat) (f : LLI) : List Nat := (List.range n).filter fun k : Nat => !(cornN f).contains (k : Int)
def sideN (p n : Nat) (f : LLI) : LLI := (restN n f).map (crossN p n f)
def acrossN (p n : Nat) (f : LLI) : LLI := formN p n (sideN p n f)
theorem restN_eq {f : LLI} {cs : List Nat} {x : Nat → LI} (h : IForm p n f cs x) : restN n f = rest n cs := by
  unfold restN rest
  rw [h.corn]
  apply List.filter_congr
  intro k _
  congr 1
  rw [Bool.eq_iff_iff, List.contains_iff_mem, List.contains_iff_mem, List.mem_map]
  exact ⟨fun ⟨c, hc, e⟩ => by
    have : c = k := by omega
    rw [← this]; exact hc, fun hk => ⟨k, hk, rfl⟩⟩
theorem sideN_rws {f : LLI} (hf : IsF p n f) : Rws p n (sideN p n f) := by
  obtain ⟨cs, x, h⟩ := hf
  intro r hr
  unfold sideN at hr
  rw [restN_eq h] at hr
  obtain ⟨k, hk, rfl⟩ := List.mem_map.mp hr
  exact (crossN_ok h (mem_rest.mp hk).1 (mem_rest.mp hk).2).1
theorem acrossN_isF {f : LLI} (hf : IsF p n f) : IsF p n (acrossN p n f) := formN_isF (sideN_rws hf)
theorem acrossN_perp {f : LLI} (hf : IsF p n f) : ∀ v, SpI p (acrossN p n f) v ↔ Perp n (SpI p f) v := by
  intro v
  have s := formN_same (sideN_rws hf)
  obtain ⟨cs, x, h⟩ := hf
  show Sp ((formN p n (sideN p n f)).map (vec p)) v ↔ _
  rw [s v]
  unfold SpI
  rw [h.vecs, h.frm.dual.perp]
  have e : (sideN p n f).map (vec p) = (rest n cs).map (crs cs fun c => vec p (x c)) := by
    unfold sideN
    rw [restN_eq h, List.map_map]
    apply List.map_congr_left
    intro k hk
    exact funext fun i => (crossN_ok h (mem_rest.mp hk).1 (mem_rest.mp hk).2).2 i
  rw [e]
/-! joined, met, inside -/
def joinedN (p n : Nat) (a b : LLI) : LLI := formN p n (a ++ b)
def metN (p n : Nat) (a b : LLI) : LLI := acrossN p n (formN p n (acrossN p n a ++ acrossN p n b))
def insideN (p n : Nat) (a b : LLI) : Bool := a.all fun r => doesN p n b r
theorem joinedN_isF {a b : LLI} (ha : Rws p n a) (hb : Rws p n b) : IsF p n (joinedN p n a b) := formN_isF (rws_app ha hb)
theorem joinedN_sum {a b : LLI} (ha : Rws p n a) (hb : Rws p n b) : ∀ v, SpI p (joinedN p n a b) v ↔ Sum (SpI p a) (SpI p b) v := fun v => by
  have s := formN_same (rws_app ha hb)
  unfold SpI joinedN
  rw [s v, List.map_append, sum_sp]
theorem metN_isF {a b : LLI} (ha : IsF p n a) (hb : IsF p n b) : IsF p n (metN p n a b) := acrossN_isF (formN_isF (rws_app (acrossN_isF ha).rws (acrossN_isF hb).rws))
theorem SpI.su {a : LLI} (ha : Rws p n a) : Su n (SpI p a) := Su.sp (vec_su' ha)
theorem perp2I {a : LLI} (ha : Rws p n a) {v : V (Fin p)} : Perp n (Perp n (SpI p a)) v ↔ SpI p a v := perp2 (vec_su' ha)
theorem perp_congr {U W : V (Fin p) → Prop} (h : ∀ v, U v ↔ W v) : ∀ v, Perp n U v ↔ Perp n W v := fun v => ⟨Perp.anti fun u hu => (h u).mpr hu, Perp.anti fun u hu => (h u).mp hu⟩
theorem perp_sum {U W : V (Fin p) → Prop} (hU : Sbs U) (hW : Sbs W) {v : V (Fin p)} : Perp n (Sum U W) v ↔ Perp n U v ∧ Perp n W v := by
  constructor
  · exact fun h => ⟨Perp.anti (fun u hu => Sum.l hW hu) h, Perp.anti (fun u hu => Sum.r hU hu) h⟩
  · rintro ⟨h1, h2⟩
    refine ⟨h1.1, fun u ⟨a, b, ha, hb, e⟩ => ?_⟩
    have : u = fun i => 1 * a i + 1 * b i := funext fun i => by rw [e]; grind
    rw [this, dot_lin', h1.2 a ha, h2.2 b hb]; grind
theorem metN_cap {a b : LLI} (ha : IsF p n a) (hb : IsF p n b) : ∀ v, SpI p (metN p n a b) v ↔ Cap (SpI p a) (SpI p b) v := by
  intro v
  have A := acrossN_isF ha
  have B := acrossN_isF hb
  unfold metN
  rw [acrossN_perp (formN_isF (rws_app A.rws B.rws)) v]
  have e1 : ∀ v, SpI p (formN p n (acrossN p n a ++ acrossN p n b)) v ↔ Sum (Perp n (SpI p a)) (Perp n (SpI p b)) v := fun v => by
    rw [show SpI p (formN p n (acrossN p n a ++ acrossN p n b)) v ↔ Sum (SpI p (acrossN p n a)) (SpI p (acrossN p n b)) v from joinedN_sum A.rws B.rws v]
    constructor
    · rintro ⟨u, w, h1, h2, h3⟩
      exact ⟨u, w, (acrossN_perp ha u).mp h1, (acrossN_perp hb w).mp h2, h3⟩
    · rintro ⟨u, w, h1, h2, h3⟩
      exact ⟨u, w, (acrossN_perp ha u).mpr h1, (acrossN_perp hb w).mpr h2, h3⟩
  rw [perp_congr e1 v, perp_sum (Perp.sbs n _) (Perp.sbs n _), perp2I ha.rws, perp2I hb.rws]
  rfl
theorem insideN_iff {a b : LLI} (ha : Rws p n a) (hb : IsF p n b) : insideN p n a b = true ↔ ∀ v, SpI p a v → SpI p b v := by
  unfold insideN
  rw [List.all_eq_true]
  constructor
  · intro h v hv
    exact Sp.trans (fun r hr => by
      obtain ⟨o, ho, rfl⟩ := List.mem_map.mp hr
      exact (doesN_iff hb (ha o ho)).mp (h o ho)) hv
  · intro h r hr
    exact (doesN_iff hb (ha r hr)).mpr (h _ (Sp.mem (List.mem_map_of_mem hr)))
/-! one flat by what lies in it -/
theorem IsF.ext {a b : LLI} (ha : IsF p n a) (hb : IsF p n b) (h : ∀ v, SpI p a v ↔ SpI p b v) : a = b := ha.uniq hb h
theorem Sum.congr {U U' W W' : V (Fin p) → Prop} (h : ∀ v, U v ↔ U' v) (h' : ∀ v, W v ↔ W' v) (v : V (Fin p)) : Sum U W v ↔ Sum U' W' v :=
  ⟨fun ⟨u, w, a, b, e⟩ => ⟨u, w, (h u).mp a, (h' w).mp b, e⟩, fun ⟨u, w, a, b, e⟩ => ⟨u, w, (h u).mpr a, (h' w).mpr b, e⟩⟩
theorem Sum.comm {U W : V (Fin p) → Prop} (v : V (Fin p)) : Sum U W v ↔ Sum W U v :=
  ⟨fun ⟨u, w, a, b, e⟩ => ⟨w, u, b, a, fun i => by rw [e]; grind⟩, fun ⟨u, w, a, b, e⟩ => ⟨w, u, b, a, fun i => by rw [e]; grind⟩⟩
/-- widths: joined and met -/
theorem len_join_met {a b : LLI} (ha : IsF p n a) (hb : IsF p n b) : (joinedN p n a b).length + (metN p n a b).length = a.length + b.length := by
  have J := joinedN_isF ha.rws hb.rws
  have M := metN_isF ha hb
  rw [← J.wd, ← M.wd, ← ha.wd, ← hb.wd]
  unfold wI
  rw [wd_same (joinedN_sum ha.rws hb.rws), wd_same (metN_cap ha hb)]
  exact sum_cap (rs := b.map (vec p)) (Sp.sbs _) (SpI.su ha.rws) (vec_su' hb.rws)
theorem len_across {a : LLI} (ha : IsF p n a) : (acrossN p n a).length + a.length = n := by
  rw [← (acrossN_isF ha).wd, ← ha.wd]
  unfold wI
  rw [wd_same (acrossN_perp ha)]
  exact wd_perp (vec_su' ha.rws)
theorem across2 {a : LLI} (ha : IsF p n a) : acrossN p n (acrossN p n a) = a :=
  (acrossN_isF (acrossN_isF ha)).uniq ha fun v => by
    have h1 := acrossN_perp (acrossN_isF ha) v
    have h2 := perp_congr (n := n) (acrossN_perp ha) v
    exact h1.trans (h2.trans (perp2I ha.rws))
theorem len_sub {a b : LLI} (ha : IsF p n a) (hb : IsF p n b) (h : ∀ v, SpI p a v → SpI p b v) : a.length ≤ b.length := by
  rw [← ha.wd, ← hb.wd]
  exact wd_mono h
theorem eq_of_len {a b : LLI} (ha : IsF p n a) (hb : IsF p n b) (h : ∀ v, SpI p a v → SpI p b v) (hl : b.length ≤ a.length) : a = b := by
  refine ha.uniq hb fun v => ⟨h v, ?_⟩
  refine eq_of_wd (n := n) (Sp.sbs _) (Sp.sbs _) (SpI.su hb.rws) h ?_ v
  have := hb.wd
  have := ha.wd
  unfold wI SpI at *
  omega
end
end FR

namespace FR
open PySem LA
open Da (dd)
variable {fs : List FI} {N d : Nat}
theorem ro31 {p : Nat} (hp : Ro p) : 0 < p ∧ p ≤ 31 := ⟨hp.pos, hp.le⟩
theorem Ro.isF {p n : Nat} (hp : Ro p) {rows : LLI} (h : Rws p n rows) : IsF p n (formN p n rows) := by
  have := (pm_of hp.pm).1
  exact formN_isF h
theorem shares_of_sp [hf : H_shares_of fs] [H_corners_of fs] {p n : Nat} {f : LLI} {row : LI} (hn : n ≤ 12) (h : IsF p n f) (hr : row.length = n) :
    (pgOf fs N (d + 2)).fn i_shares_of [dd f, dd row] = .ok (dd (sharesN f row), true) := by
  refine fn_rt hf [sv f, sv row, none] rfl rfl ?_
  have hl := h.len_le
  refine (ss_ret (e_lc (it_lst (e_calln (es_cons (e_vn rfl) es_nil) (corners_of_sp (fun r hr => by have := (h.rws r hr).1; omega) h.nz (by omega)))) ?_ (fun z hz => el_k [sv f, sv row, dv z] rfl rfl (e_ixf 0 (e_vn rfl) (e_vf rfl) ?_)))).trans rfl
  · simp [cornN]; unfold LIM; omega
  · obtain ⟨cs, x, h⟩ := h
    rw [h.corn] at hz
    obtain ⟨c, hc, rfl⟩ := List.mem_map.mp hz
    have := h.lt c hc
    omega
theorem cross_at_sp [H_cross_at fs] [H_corners_of fs] {p n : Nat} {f : LLI} {k : Nat} (hp : Ro p) (hn : n ≤ 12) (h : IsF p n f) (hk : k < n) :
    (pgOf fs N (d + 2)).fn i_cross_at [dd (p : Int), dd (n : Int), dd f, dd (k : Int)] = .ok (dd (crossN p n f k), true) := by
  have hl := h.len_le
  refine fn_rt (inferInstance : H_cross_at fs) [dv (p : Int), dv (n : Int), sv f, dv (k : Int), none, none, none] rfl rfl ?_
  refine ss_set (fun found : LI => [dv (p : Int), dv (n : Int), sv f, dv (k : Int), dv found, none, none]) (e_rep (e_lstf (α := Int) (es_cons e_ki es_nil) rfl) (e_vf rfl) (by omega)) (fun _ => rfl) fun found hfound => ?_
  have e0 : found = List.replicate n 0 := by rw [hfound]; simp
  subst e0
  refine ss_seti (fun found : LI => [dv (p : Int), dv (n : Int), sv f, dv (k : Int), dv found, none, none]) e_ki rfl (e_vf rfl) (by decide) rfl (by rw [List.length_replicate]; omega) (fun _ => rfl) fun found' hfound' => ?_
  rw [List.length_replicate, pixn] at hfound'
  subst hfound'
  have cl : (cornN f).length = f.length := by simp [cornN]
  refine ss_for [dv (p : Int), dv (n : Int), sv f, dv (k : Int), dv ((List.replicate n (0 : Int)).set k 1), none, none] (it_zip (e_calln (es_cons (e_vn rfl) es_nil) (corners_of_sp (fun r hr => by have := (h.rws r hr).1; omega) h.nz (by omega))) (e_vn rfl)) rfl
    (for_st (fun l : LI => [dv (p : Int), dv (n : Int), sv f, dv (k : Int), dv l, none, none]) (fun l z => l.set (pix l.length z.1) (-(z.2.getD k 0) % p)) (fun l => l.length = n) _ _ (by simp) fun l hln z hz => ⟨?_, by simpa using hln⟩).1 ?_
  · have z2 := (h.rws z.2 (List.of_mem_zip hz).2).1
    have z1 : 0 ≤ z.1 ∧ z.1 < n := by
      have := (List.of_mem_zip hz).1
      obtain ⟨cs, x, h⟩ := h
      rw [h.corn] at this
      obtain ⟨c, hc, e⟩ := List.mem_map.mp this
      have := h.lt c hc
      omega
    refine bdn [dv (p : Int), dv (n : Int), sv f, dv (k : Int), dv l, dv z.1, sv z.2] [dv (p : Int), dv (n : Int), sv f, dv (k : Int), dv (l.set (pix l.length z.1) (-(z.2.getD k 0) % p)), dv z.1, sv z.2] rfl rfl ?_ rfl
    refine ss_seti (fun l' : LI => [dv (p : Int), dv (n : Int), sv f, dv (k : Int), dv l', dv z.1, sv z.2]) (e_mod (e_neg (e_ixf 0 (e_vn rfl) (e_vf rfl) ?_)) (e_vf rfl) ?_) rfl (e_vf rfl) (by decide) rfl ?_ (fun _ => rfl) fun l' hl' => ?_
    · omega
    · have := hp.pos; omega
    · omega
    · rw [hl', pixn]
      exact ss_nil
  · exact (ss_ret (e_md rfl)).trans rfl
theorem across_of_sp [Acr fs] {p n : Nat} {f : LLI} (hp : Ro p) (hn : n ≤ 12) (h : IsF p n f) :
    (pgOf fs N (d + 3)).fn i_across_of [dd (p : Int), dd (n : Int), dd f] = .ok (dd (acrossN p n f), true) := by
  have := (pm_of hp.pm).1
  have hl := h.len_le
  refine fn_rt (inferInstance : H_across_of fs) [dv (p : Int), dv (n : Int), sv f, none, none] rfl rfl ?_
  refine ss_set (fun some_ : LI => [dv (p : Int), dv (n : Int), sv f, dv some_, none]) (e_calln (es_cons (e_vn rfl) es_nil) (corners_of_sp (fun r hr => by have := (h.rws r hr).1; omega) h.nz (by omega))) (fun _ => rfl) fun some_ hsome_ => ?_
  subst hsome_
  refine (ss_ret (e_calln (x := acrossN p n f) (es_cons (e_vf rfl) (es_cons (e_vf rfl) (es_cons (e_lcq (it_rng1 (e_vf rfl) ?_) ?_ (fun z hz => el_q [sv (p : Int), sv (n : Int), sv f, sv (cornN f), dv (z : Int)] rfl rfl (e_nin (e_vf rfl) (e_vn rfl)) fun hq => (e_calln (es_cons (e_vf rfl) (es_cons (e_vf rfl) (es_cons (e_vn rfl) (es_cons (e_vf rfl) es_nil)))) (cross_at_sp hp hn h ?_)))) es_nil))) ?_)).trans rfl
  · omega
  · simp; unfold LIM; omega
  · simpa using hz
  · have e : (((List.range (n : Int).toNat).filter fun x : Nat => !(cornN f).contains (x : Int)).map fun x => crossN p n f x) = sideN p n f := by
      rw [Int.toNat_natCast]; rfl
    rw [e]
    refine form_of_sp hp hn (sideN_rws h) ?_
    have : (sideN p n f).length ≤ n := by
      unfold sideN restN
      rw [List.length_map]
      exact Nat.le_trans (List.length_filter_le _ _) (by simp)
    omega
theorem does_lie_sp [Ins fs] [Flt fs] {p n : Nat} {f : LLI} {row : LI} (hp : Ro p) (hn : n ≤ 12) (h : IsF p n f) (hr : row.length = n) :
    (pgOf fs N (d + 3)).fn i_does_lie [dd (p : Int), dd (n : Int), dd f, dd row] = .ok (dd (doesN p n f row), true) := by
  refine fn_rt (inferInstance : H_does_lie fs) [dv (p : Int), dv (n : Int), sv f, sv row] rfl rfl ?_
  exact (ss_ret (e_eq (e_calln (es_cons (e_vf rfl) (es_cons (e_vf rfl) (es_cons (e_vn rfl) (es_cons (e_calln (es_cons (e_vn rfl) (es_cons (e_vn rfl) es_nil)) (shares_of_sp hn h hr)) es_nil)))) (summed_sp (ro31 hp) h.rws hn)) (e_vn rfl))).trans rfl
theorem joined_of_sp [hf : H_joined_of fs] [Base fs] {p n : Nat} {a b : LLI} (hp : Ro p) (hn : n ≤ 12) (ha : Rws p n a) (hb : Rws p n b) (hl : a.length + b.length ≤ 1000000) :
    (pgOf fs N (d + 3)).fn i_joined_of [dd (p : Int), dd (n : Int), dd a, dd b] = .ok (dd (joinedN p n a b), true) := by
  refine fn_rt hf [dv (p : Int), dv (n : Int), sv a, sv b] rfl rfl ?_
  exact (ss_ret (e_calln (es_cons (e_vf rfl) (es_cons (e_vf rfl) (es_cons (e_catn (e_vn rfl) (e_vn rfl) (by unfold LIM; omega)) es_nil))) (form_of_sp hp hn (rws_app ha hb) (by rw [List.length_append]; omega)))).trans rfl
theorem met_of_sp [hf : H_met_of fs] [Acr fs] {p n : Nat} {a b : LLI} (hp : Ro p) (hn : n ≤ 12) (ha : IsF p n a) (hb : IsF p n b) :
    (pgOf fs N (d + 4)).fn i_met_of [dd (p : Int), dd (n : Int), dd a, dd b] = .ok (dd (metN p n a b), true) := by
  have := (pm_of hp.pm).1
  have A := acrossN_isF ha
  have B := acrossN_isF hb
  have al := A.len_le
  have bl := B.len_le
  refine fn_rt hf [dv (p : Int), dv (n : Int), sv a, sv b, none] rfl rfl ?_
  refine ss_set (fun sides : LLI => [dv (p : Int), dv (n : Int), sv a, sv b, dv sides]) (e_catd (e_calln (es_cons (e_vf rfl) (es_cons (e_vf rfl) (es_cons (e_vn rfl) es_nil))) (across_of_sp hp hn ha)) (e_calln (es_cons (e_vf rfl) (es_cons (e_vf rfl) (es_cons (e_vn rfl) es_nil))) (across_of_sp hp hn hb)) (by unfold LIM; omega)) (fun _ => rfl) fun sides hsides => ?_
  subst hsides
  exact (ss_ret (e_calln (es_cons (e_vf rfl) (es_cons (e_vf rfl) (es_cons (e_calln (es_cons (e_vf rfl) (es_cons (e_vf rfl) (es_cons (e_vn rfl) es_nil))) (form_of_sp hp hn (rws_app A.rws B.rws) (by rw [List.length_append]; omega))) es_nil))) (across_of_sp hp hn (hp.isF (rws_app A.rws B.rws))))).trans rfl
theorem is_inside_sp [Ins fs] [Flt fs] {p n : Nat} {a b : LLI} (hp : Ro p) (hn : n ≤ 12) (ha : Rws p n a) (hl : a.length ≤ 1000000) (hb : IsF p n b) :
    (pgOf fs N (d + 4)).fn i_is_inside [dd (p : Int), dd (n : Int), dd a, dd b] = .ok (dd (insideN p n a b), true) := by
  refine fn_rt (inferInstance : H_is_inside fs) [dv (p : Int), dv (n : Int), sv a, sv b, none] rfl rfl ?_
  refine (ss_ret (e_all (e_lc (it_lst (e_vn rfl)) (by unfold LIM; omega) (fun z hz => el_k [sv (p : Int), sv (n : Int), sv a, sv b, sv z] rfl rfl (e_callf (es_cons (e_vf rfl) (es_cons (e_vf rfl) (es_cons (e_vn rfl) (es_cons (e_vn rfl) es_nil)))) (does_lie_sp hp hn hb (ha z hz).1)))))).trans ?_
  rw [List.all_map]; rfl
theorem check_two_sp [hf : H_check_two fs] [H_check_flat fs] [Flt fs] {p n : Nat} {a b : LLI} (hp : Ro p) (hn : 1 ≤ n ∧ n ≤ 6) (ha : IsF p n a) (hb : IsF p n b) :
    (pgOf fs N (d + 5)).fn i_check_two [dd (p : Int), dd (n : Int), dd a, dd b] = .ok (.non, true) := by
  refine fn_nx hf [dv (p : Int), dv (n : Int), sv a, sv b] [dv (p : Int), dv (n : Int), sv a, sv b] rfl rfl ?_
  refine ss_ex (e_call0 (es_cons (e_vf rfl) (es_cons (e_vf rfl) es_nil)) (check_room_sp hp hn)) ?_
  refine ss_ex (e_call0 (es_cons (e_vf rfl) (es_cons (e_vf rfl) (es_cons (e_vn rfl) es_nil))) (check_flat_sp hp (by omega) ha)) ?_
  exact ss_ex (e_call0 (es_cons (e_vf rfl) (es_cons (e_vf rfl) (es_cons (e_vn rfl) es_nil))) (check_flat_sp hp (by omega) hb)) ss_nil
theorem joined_sp [hf : H_joined fs] [H_check_flat fs] [H_joined_of fs] [H_check_two fs] [Flt fs] {p n : Nat} {a b : LLI} (hp : Ro p) (hn : 1 ≤ n ∧ n ≤ 6) (ha : IsF p n a) (hb : IsF p n b) :
    (pgOf fs N (d + 6)).fn i_joined [dd (p : Int), dd (n : Int), dd a, dd b] = .ok (dd (joinedN p n a b), true) := by
  have := ha.len_le
  have := hb.len_le
  refine fn_rt hf [dv (p : Int), dv (n : Int), sv a, sv b] rfl rfl ?_
  refine ss_ex (e_call0 (es_cons (e_vf rfl) (es_cons (e_vf rfl) (es_cons (e_vn rfl) (es_cons (e_vn rfl) es_nil)))) (check_two_sp hp hn ha hb)) ?_
  exact (ss_ret (e_calln (es_cons (e_vf rfl) (es_cons (e_vf rfl) (es_cons (e_vn rfl) (es_cons (e_vn rfl) es_nil)))) (joined_of_sp hp (by omega) ha.rws hb.rws (by omega)))).trans rfl
theorem met_sp [hf : H_met fs] [H_check_flat fs] [H_met_of fs] [H_check_two fs] [Acr fs] {p n : Nat} {a b : LLI} (hp : Ro p) (hn : 1 ≤ n ∧ n ≤ 6) (ha : IsF p n a) (hb : IsF p n b) :
    (pgOf fs N (d + 6)).fn i_met [dd (p : Int), dd (n : Int), dd a, dd b] = .ok (dd (metN p n a b), true) := by
  refine fn_rt hf [dv (p : Int), dv (n : Int), sv a, sv b] rfl rfl ?_
  refine ss_ex (e_call0 (es_cons (e_vf rfl) (es_cons (e_vf rfl) (es_cons (e_vn rfl) (es_cons (e_vn rfl) es_nil)))) (check_two_sp hp hn ha hb)) ?_
  exact (ss_ret (e_calln (es_cons (e_vf rfl) (es_cons (e_vf rfl) (es_cons (e_vn rfl) (es_cons (e_vn rfl) es_nil)))) (met_of_sp hp (by omega) ha hb))).trans rfl
theorem inside_sp [hf : H_inside fs] [H_check_flat fs] [H_check_two fs] [Ins fs] [Flt fs] {p n : Nat} {a b : LLI} (hp : Ro p) (hn : 1 ≤ n ∧ n ≤ 6) (ha : IsF p n a) (hb : IsF p n b) :
    (pgOf fs N (d + 6)).fn i_inside [dd (p : Int), dd (n : Int), dd a, dd b] = .ok (dd (insideN p n a b), true) := by
  have := ha.len_le
  refine fn_rt hf [dv (p : Int), dv (n : Int), sv a, sv b] rfl rfl ?_
  refine ss_ex (e_call0 (es_cons (e_vf rfl) (es_cons (e_vf rfl) (es_cons (e_vn rfl) (es_cons (e_vn rfl) es_nil)))) (check_two_sp hp hn ha hb)) ?_
  exact (ss_ret (e_callf (es_cons (e_vf rfl) (es_cons (e_vf rfl) (es_cons (e_vn rfl) (es_cons (e_vn rfl) es_nil)))) (is_inside_sp hp (by omega) ha.rws (by omega) hb))).trans rfl
theorem across_sp [hf : H_across fs] [H_check_flat fs] [Acr fs] {p n : Nat} {a : LLI} (hp : Ro p) (hn : 1 ≤ n ∧ n ≤ 6) (ha : IsF p n a) :
    (pgOf fs N (d + 5)).fn i_across [dd (p : Int), dd (n : Int), dd a] = .ok (dd (acrossN p n a), true) := by
  refine fn_rt hf [dv (p : Int), dv (n : Int), sv a] rfl rfl ?_
  refine ss_ex (e_call0 (es_cons (e_vf rfl) (es_cons (e_vf rfl) es_nil)) (check_room_sp hp hn)) ?_
  refine ss_ex (e_call0 (es_cons (e_vf rfl) (es_cons (e_vf rfl) (es_cons (e_vn rfl) es_nil))) (check_flat_sp hp (by omega) ha)) ?_
  exact (ss_ret (e_calln (es_cons (e_vf rfl) (es_cons (e_vf rfl) (es_cons (e_vn rfl) es_nil))) (across_of_sp hp (by omega) ha))).trans rfl
/-! the laws' own -/
def kinN (s : LI) (p n by_ : Nat) (f : LLI) : LLI := formN p n (evens (f.drop ((by_ : Int) % 2).toNat) ++ cutL (rowsN s p n (by_ + 3) 2) none (some (1 + (by_ : Int) % 2 * ((f.length : Int) % 2))))
theorem kin_rws {s : LI} {p n by_ : Nat} {f : LLI} (hp : 0 < p) (hf : Rws p n f) : Rws p n (evens (f.drop ((by_ : Int) % 2).toNat) ++ cutL (rowsN s p n (by_ + 3) 2) none (some (1 + (by_ : Int) % 2 * ((f.length : Int) % 2)))) := by
  have ev : ∀ l : LLI, ∀ x ∈ evens l, x ∈ l := by
    intro l
    induction l using evens.induct with
    | case1 => intro x h; exact h
    | case2 => intro x h; exact h
    | case3 a b r ih =>
      intro x h
      rcases List.mem_cons.mp h with rfl | h
      · simp
      · simp [ih x h]
  refine rws_app (fun r hr => hf r (List.mem_of_mem_drop (ev _ r hr))) fun r hr => ?_
  unfold cutL at hr
  exact rowsN_rws hp r (List.mem_of_mem_drop (List.mem_of_mem_take hr))
theorem kinN_isF {s : LI} {p n by_ : Nat} {f : LLI} (hp : Ro p) (hf : Rws p n f) : IsF p n (kinN s p n by_ f) := by
  exact hp.isF (kin_rws hp.pos hf)
theorem law_kin_sp [hf : H_law_kin fs] [Drw fs] {s : LI} {p n by_ B : Nat} {f : LLI} (hp : Ro p) (hn : n ≤ 12) (hs : Bd B s) (hB : 40 ≤ B ∧ B ≤ 10000000) (hby : by_ ≤ 100) (hF : Rws p n f) (hl : f.length ≤ 1000000) :
    (pgOf fs N (d + 3)).fn i_law_kin [dd s, dd (p : Int), dd (n : Int), dd (by_ : Int), dd f] = .ok (dd (kinN s p n by_ f), false) := by
  refine fn_rt hf [sv s, dv (p : Int), dv (n : Int), dv (by_ : Int), sv f, none] rfl rfl ?_
  refine ss_set (fun rows : LLI => [sv s, dv (p : Int), dv (n : Int), dv (by_ : Int), sv f, dv rows]) (e_calln (x := rowsN s p n (by_ + 3) 2) (es_cons (e_vn rfl) (es_cons (e_vf rfl) (es_cons (e_vf rfl) (es_cons (e_add (e_vf rfl) e_ki) (es_cons e_ki es_nil))))) ?_) (fun _ => rfl) fun rows hrows => ?_
  · exact law_rows_sp (by_ := by_ + 3) (many := 2) hp.pos hn hs hB (by omega) (by omega)
  subst hrows
  refine (ss_ret (e_callsh (es_cons (e_vf rfl) (es_cons (e_catn (e_st2n (e_vn rfl) (e_mod (e_vf rfl) e_ki ?_) ?_) (e_sln (e_vn rfl) b_nil (b_some (e_add e_ki (e_mul (e_mod (e_vf rfl) e_ki ?_) (e_mod (e_len (e_vn rfl)) e_ki ?_) ?_)) rfl)) ?_) es_nil)) (law_form_sp hp hn (kin_rws hp.pos hF)))).trans rfl
  · decide
  · omega
  · decide
  · decide
  · exact mulOk_l (by omega)
  · have e1 : (evens (f.drop ((by_ : Int) % 2).toNat)).length ≤ f.length := by
      have : ∀ l : LLI, (evens l).length ≤ l.length := by
        intro l
        induction l using evens.induct with
        | case1 => exact Nat.le_refl _
        | case2 => exact Nat.le_refl _
        | case3 a b r ih => simp only [evens, List.length_cons]; omega
      exact Nat.le_trans (this _) (by rw [List.length_drop]; omega)
    have e2 : (cutL (rowsN s p n (by_ + 3) 2) none (some (1 + (by_ : Int) % 2 * ((f.length : Int) % 2)))).length ≤ 2 := by
      unfold cutL
      rw [List.length_take, List.length_drop, rowsN_len]
      omega
    unfold LIM; omega
theorem law_is_flat_sp [hf : H_law_is_flat fs] [H_law_is_row fs] [H_law_whole fs] [Drw fs] {p n : Nat} {f : LLI} (hp : Ro p) (hn : n ≤ 12) (h : IsF p n f) :
    (pgOf fs N (d + 3)).fn i_law_is_flat [dd (p : Int), dd (n : Int), dd f] = .ok (dd true, true) := by
  have := (pm_of hp.pm).1
  have hl := h.len_le
  refine fn_rt hf [dv (p : Int), dv (n : Int), sv f, none] rfl rfl ?_
  refine ss_iff (e_or (e_not (e_isin (e_vn rfl) rfl)) fun hc => (e_not (e_all (e_lc (it_lst (e_vn rfl)) ?_ (fun z hz => el_k [sv (p : Int), sv (n : Int), sv f, sv z] rfl rfl (e_callf (es_cons (e_vf rfl) (es_cons (e_vf rfl) (es_cons (e_vn rfl) es_nil))) (law_is_row_sp ?_))))))) ?_ ?_
  · unfold LIM; omega
  · have := (h.rws z hz).1; unfold LIM; omega
  · have : (f.map fun z => isRowN p n z).all id = true := by
      rw [List.all_map]
      exact List.all_eq_true.mpr fun r hr => isRowN_iff.mpr (h.rws r hr)
    rw [this]; rfl
  · refine (ss_ret (e_eq (e_callsh (es_cons (e_vf rfl) (es_cons (e_vn rfl) es_nil)) (law_form_sp hp hn h.rws)) (e_vn rfl))).trans ?_
    rw [formN_self h]
    simp
end FR

namespace FR
open PySem LA Lean.Grind
section
variable {p : Nat} [hp : Pm p] {n : Nat}
/-- what two rows make together -/
theorem prod_dot : ∀ {a b : LI}, a.length = b.length → ph p (((a.zip b).map fun z => z.1 * z.2).sum) = dot a.length (vec p a) (vec p b)
  | [], [], _ => ph_0 p
  | [], _ :: _, h => by simp at h
  | _ :: _, [], h => by simp at h
  | x :: a, y :: b, h => by
    have ih := prod_dot (a := a) (b := b) (by simpa using h)
    have sh : ∀ (m : Nat), dot (m + 1) (vec p (x :: a)) (vec p (y :: b)) = ph p x * ph p y + dot m (vec p a) (vec p b) := by
      intro m
      induction m with
      | zero =>
        show (0 : Fin p) + vec p (x :: a) 0 * vec p (y :: b) 0 = ph p x * ph p y + 0
        have e1 : vec p (x :: a) 0 = ph p x := rfl
        have e2 : vec p (y :: b) 0 = ph p y := rfl
        rw [e1, e2]; grind
      | succ m ih =>
        show dot (m + 1) (vec p (x :: a)) (vec p (y :: b)) + vec p (x :: a) (m + 1) * vec p (y :: b) (m + 1) = ph p x * ph p y + (dot m (vec p a) (vec p b) + vec p a m * vec p b m)
        have e1 : vec p (x :: a) (m + 1) = vec p a m := rfl
        have e2 : vec p (y :: b) (m + 1) = vec p b m := rfl
        rw [ih, e1, e2]; grind
    rw [List.zip_cons_cons, List.map_cons, List.sum_cons, ph_add, ph_mul, ih, List.length_cons, sh]
theorem prodN_zero {a b : LI} (ha : Rw p n a) (hb : Rw p n b) : prodN p a b = 0 ↔ dot n (vec p a) (vec p b) = 0 := by
  have h := prod_dot (p := p) (a := a) (b := b) (by rw [ha.1, hb.1])
  rw [ha.1] at h
  unfold prodN
  rw [← h, ← ph_nz p (mod_rng (Pm.pos p) _), ph_mod]
theorem perp_prod {f : LLI} (hf : Rws p n f) {r : LI} (hr : Rw p n r) : Perp n (SpI p f) (vec p r) ↔ ∀ o ∈ f, prodN p r o = 0 := by
  unfold SpI
  rw [perp_sp]
  constructor
  · intro h o ho
    rw [prodN_zero hr (hf o ho), dot_comm]
    exact h.2 _ (List.mem_map_of_mem ho)
  · intro h
    refine ⟨fun i hi => vec_su hr hi, fun v hv => ?_⟩
    obtain ⟨o, ho, rfl⟩ := List.mem_map.mp hv
    rw [dot_comm]
    exact (prodN_zero hr (hf o ho)).mp (h o ho)
theorem across_join {a b : LLI} (ha : IsF p n a) (hb : IsF p n b) : acrossN p n (joinedN p n a b) = metN p n (acrossN p n a) (acrossN p n b) := by
  refine (acrossN_isF (joinedN_isF ha.rws hb.rws)).uniq (metN_isF (acrossN_isF ha) (acrossN_isF hb)) fun v => ?_
  have h1 := acrossN_perp (joinedN_isF ha.rws hb.rws) v
  have h2 := perp_congr (n := n) (joinedN_sum ha.rws hb.rws) v
  have h3 := metN_cap (acrossN_isF ha) (acrossN_isF hb) v
  have h4 : Perp n (Sum (SpI p a) (SpI p b)) v ↔ _ := perp_sum (Sp.sbs _) (Sp.sbs _)
  refine h1.trans (h2.trans (h4.trans (Iff.trans ?_ h3.symm)))
  exact ⟨fun ⟨x, y⟩ => ⟨(acrossN_perp ha v).mpr x, (acrossN_perp hb v).mpr y⟩, fun ⟨x, y⟩ => ⟨(acrossN_perp ha v).mp x, (acrossN_perp hb v).mp y⟩⟩
theorem across_met {a b : LLI} (ha : IsF p n a) (hb : IsF p n b) : acrossN p n (metN p n a b) = joinedN p n (acrossN p n a) (acrossN p n b) := by
  unfold metN
  rw [across2 (formN_isF (rws_app (acrossN_isF ha).rws (acrossN_isF hb).rws))]; rfl
theorem inside_across {a b : LLI} (ha : IsF p n a) (hb : IsF p n b) : insideN p n a b = insideN p n (acrossN p n b) (acrossN p n a) := by
  rw [Bool.eq_iff_iff, insideN_iff ha.rws hb, insideN_iff (acrossN_isF hb).rws (acrossN_isF ha)]
  constructor
  · intro h v hv
    exact (acrossN_perp ha v).mpr (Perp.anti h ((acrossN_perp hb v).mp hv))
  · intro h
    exact perp_le (vec_su' hb.rws) (vec_su' ha.rws) fun v hv => (acrossN_perp ha v).mp (h v ((acrossN_perp hb v).mpr hv))
end
end FR

/-! widths; the meet by rows laid side by side -/
namespace FR
open PySem LA
open Da (dd)
section
variable {p : Nat} [hp : Pm p] {n : Nat}
theorem vec_app (r s : LI) (i : Nat) : vec p (r ++ s) i = if i < r.length then vec p r i else vec p s (i - r.length) := by
  show ph p ((r ++ s).getD i 0) = if i < r.length then ph p (r.getD i 0) else ph p (s.getD (i - r.length) 0)
  rw [List.getD_eq_getElem?_getD, List.getD_eq_getElem?_getD, List.getD_eq_getElem?_getD, List.getElem?_append]
  split <;> rfl
theorem vec_drop (r : LI) (m i : Nat) : vec p (r.drop m) i = vec p r (m + i) := by
  show ph p ((r.drop m).getD i 0) = ph p (r.getD (m + i) 0)
  rw [List.getD_eq_getElem?_getD, List.getD_eq_getElem?_getD, List.getElem?_drop]
theorem rw_app2 {m k : Nat} {r s : LI} (hr : Rw p m r) (hs : Rw p k s) : Rw p (m + k) (r ++ s) := ⟨by rw [List.length_append, hr.1, hs.1], fun x hx => (List.mem_append.mp hx).elim (hr.2 x) (hs.2 x)⟩
theorem rw_drop {m k : Nat} {r : LI} (hr : Rw p (m + k) r) : Rw p k (r.drop m) := ⟨by rw [List.length_drop, hr.1]; omega, fun x hx => hr.2 x (List.mem_of_mem_drop hx)⟩
/-- rows of both laid side by side -/
def twoN (n : Nat) (a b : LLI) : LLI := (a.map fun r => r ++ r) ++ b.map fun r => r ++ List.replicate n 0
def backN (n : Nat) (f : LLI) : LLI := (f.filter fun r => !(r.take n).any fun z => !decide (z = 0)).map fun r => r.drop n
def zasN (p n : Nat) (a b : LLI) : LLI := formN p n (backN n (formN p (n + n) (twoN n a b)))
theorem twoN_rws {a b : LLI} (ha : Rws p n a) (hb : Rws p n b) : Rws p (n + n) (twoN n a b) := fun r hr => by
  rcases List.mem_append.mp hr with h | h
  · obtain ⟨o, ho, rfl⟩ := List.mem_map.mp h
    exact rw_app2 (ha o ho) (ha o ho)
  · obtain ⟨o, ho, rfl⟩ := List.mem_map.mp h
    exact rw_app2 (hb o ho) (rep_rw n)
theorem backN_rws {f : LLI} (hf : Rws p (n + n) f) : Rws p n (backN n f) := fun r hr => by
  obtain ⟨o, ho, rfl⟩ := List.mem_map.mp hr
  exact rw_drop (hf o (List.mem_filter.mp ho).1)
/-- behind so many noughts -/
def sh (n : Nat) (v : V (Fin p)) : V (Fin p) := fun i => if i < n then 0 else v (i - n)
def lo (n : Nat) (v : V (Fin p)) : V (Fin p) := fun i => if i < n then v i else 0
def hi (n : Nat) (v : V (Fin p)) : V (Fin p) := fun i => v (n + i)
def dbl (n : Nat) (v : V (Fin p)) : V (Fin p) := fun i => if i < n then v i else v (i - n)
theorem Sbs.sh {U : V (Fin p) → Prop} (hU : Sbs U) : Sbs fun v => U (sh n v) := ⟨hU.of 0 0 hU.z hU.z fun i => by simp only [FR.sh]; split <;> grind, fun a b h h' => hU.of a b h h' fun i => by simp only [FR.sh]; split <;> grind⟩
theorem Sbs.lo {U : V (Fin p) → Prop} (hU : Sbs U) : Sbs fun v => U (lo n v) := ⟨hU.of 0 0 hU.z hU.z fun i => by simp only [FR.lo]; split <;> grind, fun a b h h' => hU.of a b h h' fun i => by simp only [FR.lo]; split <;> grind⟩
theorem Sbs.dbl {U : V (Fin p) → Prop} (hU : Sbs U) : Sbs fun v => U (dbl n v) := ⟨hU.of 0 0 hU.z hU.z fun i => by simp only [FR.dbl]; split <;> grind, fun a b h h' => hU.of a b h h' fun i => by simp only [FR.dbl]; split <;> grind⟩
theorem back_row {r : LI} (hr : Rw p (n + n) r) : (!(r.take n).any fun z => !decide (z = 0)) = true ↔ ∀ i < n, vec p r i = 0 := by
  rw [Bool.not_eq_true', Bool.eq_false_iff, Ne, List.any_eq_true]
  constructor
  · intro h i hi
    rw [vec_zero hr]
    refine Classical.byContradiction fun hc => h ⟨r.getD i 0, ?_, by simpa using hc⟩
    rw [List.getD_eq_getElem?_getD, List.getElem?_eq_getElem (by rw [hr.1]; omega)]
    exact List.mem_take_iff_getElem.mpr ⟨i, by rw [hr.1]; omega, rfl⟩
  · rintro h ⟨z, hz, hzz⟩
    obtain ⟨i, hi, rfl⟩ := List.mem_take_iff_getElem.mp hz
    have := (vec_zero hr).mp (h i (by omega))
    rw [List.getD_eq_getElem?_getD, List.getElem?_eq_getElem (by omega)] at this
    simp at hzz
    exact hzz this
theorem lay_hi {G : V (Fin p) → Prop} (hG : Sbs G) {x : Nat → V (Fin p)} {a : Nat → Fin p} : ∀ {cs : List Nat}, (∀ c ∈ cs, a c = 0 ∨ G (hi n (x c))) → G (hi n (lay cs x a))
  | [], _ => hG.of 0 0 hG.z hG.z fun i => by show (0 : Fin p) = _; grind
  | c :: cs, h => by
    have ih := lay_hi hG (cs := cs) fun c hc => h c (List.mem_cons_of_mem _ hc)
    rcases h c List.mem_cons_self with h0 | h0
    · refine hG.of 1 0 ih ih fun i => ?_
      show a c * x c (n + i) + lay cs x a (n + i) = 1 * lay cs x a (n + i) + 0 * _
      rw [h0]; grind
    · refine hG.of 1 (a c) ih h0 fun i => ?_
      show a c * x c (n + i) + lay cs x a (n + i) = 1 * lay cs x a (n + i) + a c * x c (n + i)
      grind
theorem back_sp {f : LLI} (hf : IsF p (n + n) f) (v : V (Fin p)) : SpI p (backN n f) v ↔ SpI p f (sh n v) := by
  constructor
  · intro h
    refine Sp.sub (U := fun v => SpI p f (sh n v)) (Sbs.sh (Sp.sbs _)) (fun r hr => ?_) h
    obtain ⟨o, ho, rfl⟩ := List.mem_map.mp hr
    obtain ⟨q, hq, rfl⟩ := List.mem_map.mp ho
    have hq' := List.mem_filter.mp hq
    have h0 := (back_row (hf.rws q hq'.1)).mp hq'.2
    refine (Sp.mem (List.mem_map_of_mem hq'.1)).congr fun i => ?_
    show (if i < n then 0 else vec p (q.drop n) (i - n)) = vec p q i
    split
    · exact (h0 i (by assumption)).symm
    · rw [vec_drop]; congr 1; omega
  · intro h
    have hf' := hf
    obtain ⟨cs, x, F⟩ := hf
    unfold SpI at h
    rw [F.vecs] at h
    have e := F.frm.dual.lay_eq h
    have G := lay_hi (n := n) (Sp.sbs ((backN n f).map (vec p))) (x := fun c => vec p (x c)) (a := sh n v) (cs := cs) fun c hc => ?_
    · refine G.congr fun i => ?_
      show v i = lay cs _ (sh n v) (n + i)
      rw [← e (n + i)]
      show v i = if n + i < n then 0 else v (n + i - n)
      rw [if_neg (by omega)]; congr 1; omega
    · by_cases hcn : c < n
      · left
        show (if c < n then 0 else v (c - n)) = 0
        rw [if_pos hcn]
      · right
        refine (Sp.mem (r := vec p ((x c).drop n)) (List.mem_map_of_mem (List.mem_map_of_mem (List.mem_filter.mpr ⟨?_, ?_⟩)))).congr fun i => (vec_drop _ _ _).symm
        · rw [F.eq]; exact List.mem_map_of_mem hc
        · refine (back_row (F.rw c hc)).mpr fun i hi => ?_
          rw [vec_zero (F.rw c hc)]
          exact F.pre c hc i (by omega)
theorem two_l {a : LLI} (ha : Rws p n a) {u : V (Fin p)} (h : SpI p (a.map fun r => r ++ r) u) : SpI p a (lo n u) ∧ ∀ i < n, u i = u (n + i) := by
  constructor
  · refine Sp.sub (U := fun v => SpI p a (lo n v)) (Sbs.lo (Sp.sbs _)) (fun r hr => ?_) h
    obtain ⟨o, ho, rfl⟩ := List.mem_map.mp hr
    obtain ⟨q, hq, rfl⟩ := List.mem_map.mp ho
    refine (Sp.mem (List.mem_map_of_mem hq)).congr fun i => ?_
    show (if i < n then vec p (q ++ q) i else 0) = vec p q i
    rw [vec_app, (ha q hq).1]
    by_cases hi : i < n
    · simp [hi]
    · simp [hi, vec_su (ha q hq) (by omega : n ≤ i)]
  · refine Sp.sub (U := fun u => ∀ i < n, u i = u (n + i)) ⟨fun i hi => rfl, fun a b h h' i hi => by grind⟩ (fun r hr => ?_) h
    obtain ⟨o, ho, rfl⟩ := List.mem_map.mp hr
    obtain ⟨q, hq, rfl⟩ := List.mem_map.mp ho
    intro i hi
    rw [vec_app, vec_app, (ha q hq).1, if_pos hi, if_neg (by omega)]
    congr 1; omega
theorem two_r {b : LLI} (hb : Rws p n b) {u : V (Fin p)} (h : SpI p (b.map fun r => r ++ List.replicate n 0) u) : SpI p b (lo n u) ∧ ∀ i, u (n + i) = 0 := by
  constructor
  · refine Sp.sub (U := fun v => SpI p b (lo n v)) (Sbs.lo (Sp.sbs _)) (fun r hr => ?_) h
    obtain ⟨o, ho, rfl⟩ := List.mem_map.mp hr
    obtain ⟨q, hq, rfl⟩ := List.mem_map.mp ho
    refine (Sp.mem (List.mem_map_of_mem hq)).congr fun i => ?_
    show (if i < n then vec p (q ++ List.replicate n 0) i else 0) = vec p q i
    rw [vec_app, (hb q hq).1]
    by_cases hi : i < n
    · simp [hi]
    · simp [hi, vec_su (hb q hq) (by omega : n ≤ i)]
  · refine Sp.sub (U := fun u => ∀ i, u (n + i) = 0) ⟨fun i => rfl, fun a b h h' i => by grind⟩ (fun r hr => ?_) h
    obtain ⟨o, ho, rfl⟩ := List.mem_map.mp hr
    obtain ⟨q, hq, rfl⟩ := List.mem_map.mp ho
    intro i
    rw [vec_app, (hb q hq).1, if_neg (by omega), vec_rep]
theorem two_dbl {a : LLI} (ha : Rws p n a) {u : V (Fin p)} (h : SpI p a u) : SpI p (a.map fun r => r ++ r) (dbl n u) := by
  refine Sp.sub (U := fun v => SpI p (a.map fun r => r ++ r) (dbl n v)) (Sbs.dbl (Sp.sbs _)) (fun r hr => ?_) h
  obtain ⟨q, hq, rfl⟩ := List.mem_map.mp hr
  refine (Sp.mem (r := vec p (q ++ q)) (List.mem_map_of_mem (List.mem_map_of_mem (f := fun r => r ++ r) hq))).congr fun i => ?_
  rw [vec_app, (ha q hq).1]; rfl
theorem two_lo {b : LLI} (hb : Rws p n b) {u : V (Fin p)} (h : SpI p b u) : SpI p (b.map fun r => r ++ List.replicate n 0) (lo n u) := by
  refine Sp.sub (U := fun v => SpI p (b.map fun r => r ++ List.replicate n 0) (lo n v)) (Sbs.lo (Sp.sbs _)) (fun r hr => ?_) h
  obtain ⟨q, hq, rfl⟩ := List.mem_map.mp hr
  refine (Sp.mem (r := vec p (q ++ List.replicate n 0)) (List.mem_map_of_mem (List.mem_map_of_mem (f := fun r => r ++ List.replicate n 0) hq))).congr fun i => ?_
  rw [vec_app, (hb q hq).1, vec_rep]; rfl
theorem two_sp {a b : LLI} (ha : Rws p n a) (hb : Rws p n b) (v : V (Fin p)) : SpI p (twoN n a b) (sh n v) ↔ SpI p a v ∧ SpI p b v := by
  unfold twoN SpI
  rw [List.map_append, Sp.app]
  constructor
  · rintro ⟨u, w, hu, hw, e⟩
    obtain ⟨u1, u2⟩ := two_l ha hu
    obtain ⟨w1, w2⟩ := two_r hb hw
    have su := SpI.su (two_l ha hu |> fun _ => (fun r hr => by
      obtain ⟨q, hq, rfl⟩ := List.mem_map.mp hr
      exact rw_app2 (ha q hq) (ha q hq) : Rws p (n + n) (a.map fun r => r ++ r))) u hu
    have ev : ∀ i, v i = lo n u i := fun i => by
      have h1 := e (n + i)
      rw [w2 i] at h1
      have h2 : sh n v (n + i) = v i := by
        show (if n + i < n then 0 else v (n + i - n)) = v i
        rw [if_neg (by omega)]; congr 1; omega
      rw [h2] at h1
      show v i = if i < n then u i else 0
      split
      · rw [h1, u2 i (by assumption)]; grind
      · rw [h1, su (n + i) (by omega)]; grind
    refine ⟨u1.congr ev, ?_⟩
    refine (Sp.sbs (b.map (vec p))).sm (-1) w1 fun i => ?_
    rw [ev i]
    show (if i < n then u i else 0) = -1 * (if i < n then w i else 0)
    split
    · have h1 := e i
      have h2 : sh n v i = 0 := by
        show (if i < n then 0 else v (i - n)) = 0
        rw [if_pos (by assumption)]
      rw [h2] at h1
      grind
    · grind
  · rintro ⟨h1, h2⟩
    have sv_ := SpI.su ha v h1
    refine ⟨_, fun i => -1 * lo n v i, two_dbl ha h1, (Sp.sbs _).sm (-1) (two_lo hb h2) fun i => rfl, fun i => ?_⟩
    show (if i < n then 0 else v (i - n)) = (if i < n then v i else v (i - n)) + -1 * (if i < n then v i else 0)
    split <;> grind
theorem zasN_eq {a b : LLI} (ha : IsF p n a) (hb : IsF p n b) : zasN p n a b = metN p n a b := by
  have T := twoN_rws ha.rws hb.rws
  have F := formN_isF T
  have G := backN_rws F.rws
  refine IsF.uniq (formN_isF G) (metN_isF ha hb) fun v => ?_
  refine (formN_same G v).trans ((back_sp F v).trans ((formN_same T _).trans ((two_sp ha.rws hb.rws v).trans (metN_cap ha hb v).symm)))
theorem join3 {a b c : LLI} (ha : Rws p n a) (hb : Rws p n b) (hc : Rws p n c) : formN p n ((a ++ b) ++ c) = joinedN p n a (joinedN p n b c) := by
  refine formN_congr (rws_app (rws_app ha hb) hc) (rws_app ha (joinedN_isF hb hc).rws) ?_
  unfold SameI
  rw [List.append_assoc, List.map_append, List.map_append (l₁ := a)]
  exact Same.app Same.rfl (formN_same (rws_app hb hc)).symm
theorem metw {a b : LLI} (ha : IsF p n a) (hb : IsF p n b) : (a.length : Int) + b.length - (formN p n (a ++ b)).length = (metN p n a b).length := by
  have := len_join_met ha hb
  unfold joinedN at this
  omega
end
end FR

namespace FR
open PySem LA
open Da (dd)
variable {fs : List FI} {N d : Nat}
/-- the widths, in the told turn -/
def widthsN (p n : Nat) : List LLI → LI
  | [a] => [(a.length : Int)]
  | [a, b] => [(a.length : Int), b.length, (metN p n a b).length]
  | [a, b, c] => [(a.length : Int), b.length, c.length, (metN p n a b).length, (metN p n a c).length, (metN p n b c).length, (metN p n (metN p n a b) c).length, (metN p n a (joinedN p n b c)).length, (joinedN p n a (joinedN p n b c)).length]
  | _ => []
def IsFs (p n : Nat) (flats : List LLI) : Prop := ∀ f ∈ flats, IsF p n f
theorem IsFs.sm {p n : Nat} {flats : List LLI} (hp : Ro p) (h : IsFs p n flats) : ∀ f ∈ flats, f.length ≤ n := fun f hf => by
  have := (pm_of hp.pm).1
  exact (h f hf).len_le
theorem isfs1 {p n : Nat} {a : LLI} (ha : IsF p n a) : IsFs p n [a] := fun f hf => by
  rw [List.mem_singleton] at hf
  rw [hf]; exact ha
theorem isfs_cons {p n : Nat} {a : LLI} {t : List LLI} (ha : IsF p n a) (h : IsFs p n t) : IsFs p n (a :: t) := fun f hf => (List.mem_cons.mp hf).elim (fun e => by rw [e]; exact ha) (h f)
theorem isfs2 {p n : Nat} {a b : LLI} (ha : IsF p n a) (hb : IsF p n b) : IsFs p n [a, b] := isfs_cons ha (isfs1 hb)
theorem isfs3 {p n : Nat} {a b c : LLI} (ha : IsF p n a) (hb : IsF p n b) (hc : IsF p n c) : IsFs p n [a, b, c] := isfs_cons ha (isfs2 hb hc)
theorem metF {p n : Nat} {a b : LLI} (hp : Ro p) (ha : IsF p n a) (hb : IsF p n b) : IsF p n (metN p n a b) := by
  have := (pm_of hp.pm).1
  exact metN_isF ha hb
theorem joinF {p n : Nat} {a b : LLI} (hp : Ro p) (ha : IsF p n a) (hb : IsF p n b) : IsF p n (joinedN p n a b) := by
  have := (pm_of hp.pm).1
  exact joinedN_isF ha.rws hb.rws
theorem lenF {p n : Nat} {a : LLI} (hp : Ro p) (ha : IsF p n a) : a.length ≤ n := by
  have := (pm_of hp.pm).1
  exact ha.len_le
theorem widths_of_sp1 [hf : H_widths_of fs] {p n : Nat} {a : LLI} :
    (pgOf fs N (d + 5)).fn i_widths_of [dd (p : Int), dd (n : Int), dd [a]] = .ok (dd (widthsN p n [a]), true) := by
  refine fn_rt hf [dv (p : Int), dv (n : Int), sv [a], none, none, none, none, none, none, none, none, none] rfl rfl ?_
  refine ss_ift (e_eq (e_len (e_vn rfl)) e_ki) rfl ((ss_ret (e_lstf (α := Int) (es_cons (e_len (e_ixn [] (e_vn rfl) e_ki ?_)) es_nil) rfl)).trans rfl)
  exact ⟨by simp, by simp⟩
theorem widths_of_sp2 [hf : H_widths_of fs] [H_met_of fs] [Acr fs] {p n : Nat} {a b : LLI} (hp : Ro p) (hn : n ≤ 12) (ha : IsF p n a) (hb : IsF p n b) :
    (pgOf fs N (d + 5)).fn i_widths_of [dd (p : Int), dd (n : Int), dd [a, b]] = .ok (dd (widthsN p n [a, b]), true) := by
  refine fn_rt hf [dv (p : Int), dv (n : Int), sv [a, b], none, none, none, none, none, none, none, none, none] rfl rfl ?_
  refine ss_iff (e_eq (e_len (e_vn rfl)) e_ki) rfl ?_
  refine ss_par2 (x := a) (y := b) (fun (one : LLI) (other : LLI) => [dv (p : Int), dv (n : Int), sv [a, b], sv one, sv other, none, none, none, none, none, none, none]) (es_cons (e_ixn (xs := [a, b]) [] (e_vn rfl) e_ki ⟨by simp, by simp⟩) (es_cons (e_ixn (xs := [a, b]) [] (e_vn rfl) e_ki ⟨by simp, by simp⟩) es_nil)) (fun _ _ => rfl) fun one other hone hother => ?_
  subst hone hother
  refine ss_set (fun both : LLI => [dv (p : Int), dv (n : Int), sv [one, other], sv one, sv other, dv both, none, none, none, none, none, none]) (e_calln (es_cons (e_vf rfl) (es_cons (e_vf rfl) (es_cons (e_vn rfl) (es_cons (e_vn rfl) es_nil)))) (met_of_sp hp hn ha hb)) (fun _ => rfl) fun both hboth => ?_
  subst hboth
  exact ss_ift (e_eq (e_len (e_vn rfl)) e_ki) rfl ((ss_ret (e_lstf (α := Int) (es_cons (e_len (e_vn rfl)) (es_cons (e_len (e_vn rfl)) (es_cons (e_len (e_vn rfl)) es_nil))) rfl)).trans rfl)
theorem widths_of_sp3 [hf : H_widths_of fs] [H_joined_of fs] [H_met_of fs] [Acr fs] {p n : Nat} {a b c : LLI} (hp : Ro p) (hn : n ≤ 12) (ha : IsF p n a) (hb : IsF p n b) (hc : IsF p n c) :
    (pgOf fs N (d + 5)).fn i_widths_of [dd (p : Int), dd (n : Int), dd [a, b, c]] = .ok (dd (widthsN p n [a, b, c]), true) := by
  have la := lenF hp ha
  have lb := lenF hp hb
  have lc := lenF hp hc
  refine fn_rt hf [dv (p : Int), dv (n : Int), sv [a, b, c], none, none, none, none, none, none, none, none, none] rfl rfl ?_
  refine ss_iff (e_eq (e_len (e_vn rfl)) e_ki) rfl ?_
  refine ss_par2 (x := a) (y := b) (fun (one : LLI) (other : LLI) => [dv (p : Int), dv (n : Int), sv [a, b, c], sv one, sv other, none, none, none, none, none, none, none]) (es_cons (e_ixn (xs := [a, b, c]) [] (e_vn rfl) e_ki ⟨by simp, by simp⟩) (es_cons (e_ixn (xs := [a, b, c]) [] (e_vn rfl) e_ki ⟨by simp, by simp⟩) es_nil)) (fun _ _ => rfl) fun one other hone hother => ?_
  subst hone hother
  refine ss_set (fun both : LLI => [dv (p : Int), dv (n : Int), sv [one, other, c], sv one, sv other, dv both, none, none, none, none, none, none]) (e_calln (es_cons (e_vf rfl) (es_cons (e_vf rfl) (es_cons (e_vn rfl) (es_cons (e_vn rfl) es_nil)))) (met_of_sp hp hn ha hb)) (fun _ => rfl) fun both hboth => ?_
  refine ss_iff (e_eq (e_len (e_vn rfl)) e_ki) rfl ?_
  refine ss_set (x := c) (fun third : LLI => [dv (p : Int), dv (n : Int), sv [one, other, c], sv one, sv other, dv both, sv third, none, none, none, none, none]) (e_ixn (xs := [one, other, c]) [] (e_vn rfl) e_ki ⟨by simp, by simp⟩) (fun _ => rfl) fun third hthird => ?_
  subst hthird
  refine ss_par2 (fun (near : LLI) (far : LLI) => [dv (p : Int), dv (n : Int), sv [one, other, third], sv one, sv other, dv both, sv third, dv near, dv far, none, none, none]) (es_cons (e_calln (es_cons (e_vf rfl) (es_cons (e_vf rfl) (es_cons (e_vn rfl) (es_cons (e_vn rfl) es_nil)))) (met_of_sp hp hn ha hc)) (es_cons (e_calln (es_cons (e_vf rfl) (es_cons (e_vf rfl) (es_cons (e_vn rfl) (es_cons (e_vn rfl) es_nil)))) (met_of_sp hp hn hb hc)) es_nil)) (fun _ _ => rfl) fun near far hnear hfar => ?_
  refine ss_set (fun more : LLI => [dv (p : Int), dv (n : Int), sv [one, other, third], sv one, sv other, dv both, sv third, dv near, dv far, dv more, none, none]) (e_calln (es_cons (e_vf rfl) (es_cons (e_vf rfl) (es_cons (e_vn rfl) (es_cons (e_vn rfl) es_nil)))) (joined_of_sp hp hn hb.rws hc.rws (by omega))) (fun _ => rfl) fun more hmore => ?_
  have hB : IsF p n both := by rw [hboth]; exact metF hp ha hb
  have hM : IsF p n more := by rw [hmore]; exact joinF hp hb hc
  have lM := lenF hp hM
  refine ss_set (fun some_ : List LLI => [dv (p : Int), dv (n : Int), sv [one, other, third], sv one, sv other, sv both, sv third, sv near, sv far, dv more, tv some_, none]) (e_lstn (α := LLI) (xs := [one, other, third, both, near, far, metN p n both third]) (es_cons (e_vn rfl) (es_cons (e_ms rfl (by decide)) (es_cons (e_vn rfl) (es_cons (e_vn rfl) (es_cons (e_md rfl) (es_cons (e_md rfl) (es_cons (e_calln (es_cons (e_vf rfl) (es_cons (e_vf rfl) (es_cons (e_vn rfl) (es_cons (e_vn rfl) es_nil)))) (met_of_sp hp hn hB hc)) es_nil))))))) rfl) (fun _ => rfl) fun some_ hsome_ => ?_
  refine ss_set (fun some_' : List LLI => [dv (p : Int), dv (n : Int), sv [one, other, third], sv one, sv other, sv both, sv third, sv near, sv far, dv more, tv some_', none]) (e_catr (e_ms rfl (by decide)) (e_lstn (α := LLI) (xs := [metN p n one more, joinedN p n one more]) (es_cons (e_calln (es_cons (e_vf rfl) (es_cons (e_vf rfl) (es_cons (e_vn rfl) (es_cons (e_vn rfl) es_nil)))) (met_of_sp hp hn ha hM)) (es_cons (e_calln (es_cons (e_vf rfl) (es_cons (e_vf rfl) (es_cons (e_vn rfl) (es_cons (e_vn rfl) es_nil)))) (joined_of_sp hp hn ha.rws hM.rws (by omega))) es_nil)) rfl) ?_ (by simp)) (fun _ => rfl) fun some_' hsome_' => ?_
  · rw [hsome_]; exact (by decide : (9 : Nat) ≤ LIM)
  refine (ss_ret (e_lc (it_lst (e_ms rfl (by decide))) ?_ (fun z hz => el_k [sv (p : Int), sv (n : Int), sv [one, other, third], sv one, sv other, sv both, sv third, sv near, sv far, sv more, sv some_', sv z] rfl rfl (e_len (e_vn rfl))))).trans ?_
  · rw [hsome_', hsome_]; exact (by decide : (9 : Nat) ≤ LIM)
  · rw [hsome_', hsome_, hboth, hmore, hnear, hfar]; rfl
theorem widths_of_sp [hf : H_widths_of fs] [H_joined_of fs] [H_met_of fs] [Acr fs] {p n : Nat} {flats : List LLI} (hp : Ro p) (hn : n ≤ 12) (h : IsFs p n flats) (hl : 0 < flats.length ∧ flats.length < 4) :
    (pgOf fs N (d + 5)).fn i_widths_of [dd (p : Int), dd (n : Int), dd flats] = .ok (dd (widthsN p n flats), true) := by
  match flats, h, hl with
  | [a], _, _ => exact widths_of_sp1
  | [a, b], h, _ => exact widths_of_sp2 hp hn (h a (by simp)) (h b (by simp))
  | [a, b, c], h, _ => exact widths_of_sp3 hp hn (h a (by simp)) (h b (by simp)) (h c (by simp))
  | [], _, hl => simp at hl
  | _ :: _ :: _ :: _ :: _, _, hl => simp at hl; omega
theorem check_flats_sp [hf : H_check_flats fs] [Flt fs] {p n : Nat} {flats : List LLI} {many : Nat} (hp : Ro p) (hn : n ≤ 12) (h : IsFs p n flats) (hm : flats.length = many) (hl : flats.length ≤ 1000) :
    (pgOf fs N (d + 4)).fn i_check_flats [dd (p : Int), dd (n : Int), dd flats, dd (many : Int)] = .ok (.non, true) := by
  have := (pm_of hp.pm).1
  refine fn_nx hf [dv (p : Int), dv (n : Int), sv flats, dv (many : Int), none] [dv (p : Int), dv (n : Int), sv flats, dv (many : Int), none] rfl rfl ?_
  refine ss_iff (e_or (e_not (e_isin (e_vn rfl) rfl)) fun hc => (e_or (e_ne (e_len (e_vn rfl)) (e_vf rfl)) fun hc => (e_not (e_all (e_lc (it_lst (e_vn rfl)) ?_ (fun z hz => el_k [sv (p : Int), sv (n : Int), sv flats, sv (many : Int), sv z] rfl rfl (e_callf (es_cons (e_vf rfl) (es_cons (e_vf rfl) (es_cons (e_vn rfl) es_nil))) (is_flat_sp hp hn ?_ ?_)))))))) ?_ ss_nil
  · unfold LIM; omega
  · intro r hr
    have := ((h z hz).rws r hr).1
    unfold LIM; omega
  · have := lenF hp (h z hz)
    unfold LIM; omega
  · have e : (flats.map fun z => isFlatN p n z).all id = true := by
      rw [List.all_eq_true]
      intro b hb
      obtain ⟨z, hz, rfl⟩ := List.mem_map.mp hb
      exact isFlatN_iff.mpr (h z hz)
    have e2 : decide ((flats.length : Int) = (many : Int)) = true := by simp [hm]
    simp [e, e2]
theorem widths_sp [hf : H_widths fs] [H_check_flats fs] [H_widths_of fs] [H_joined_of fs] [H_met_of fs] [Acr fs] {p n : Nat} {flats : List LLI} (hp : Ro p) (hn : 1 ≤ n ∧ n ≤ 6) (h : IsFs p n flats) (hl : 0 < flats.length ∧ flats.length < 4) :
    (pgOf fs N (d + 6)).fn i_widths [dd (p : Int), dd (n : Int), dd flats] = .ok (dd (widthsN p n flats), true) := by
  refine fn_rt hf [dv (p : Int), dv (n : Int), sv flats] rfl rfl ?_
  refine ss_ex (e_call0 (es_cons (e_vf rfl) (es_cons (e_vf rfl) es_nil)) (check_room_sp hp hn)) ?_
  refine ss_ex (e_call0 (es_cons (e_vf rfl) (es_cons (e_vf rfl) (es_cons (e_vn rfl) (es_cons (e_ife (e_and (e_isin (e_vn rfl) rfl) fun hc => (e_ch .lt .lt e_ki (e_len (e_vn rfl)) e_ki)) (fun hc => (e_len (e_vn rfl))) (fun hc => e_ki)) es_nil)))) ?_) ?_
  · have e : (if (true && (decide ((0 : Int) < flats.length) && decide ((flats.length : Int) < 4))) = true then (flats.length : Int) else 1) = (flats.length : Int) := by
      have h1 : (0 : Int) < flats.length := by omega
      have h2 : (flats.length : Int) < 4 := by omega
      rw [decide_eq_true h1, decide_eq_true h2]; rfl
    have e2 := check_flats_sp (fs := fs) (N := N) (d := d + 1) hp (by omega : n ≤ 12) h rfl (by omega)
    rw [← e] at e2
    exact e2
  exact (ss_ret (e_calln (es_cons (e_vf rfl) (es_cons (e_vf rfl) (es_cons (e_vn rfl) es_nil))) (widths_of_sp hp (by omega) h hl))).trans rfl
/-! the law's helpers -/
theorem law_met_wide_sp [hf : H_law_met_wide fs] [H_law_wide fs] [H_law_form fs] [H_law_less fs] {p n : Nat} {a b : LLI} (hp : Ro p) (hn : n ≤ 12) (ha : IsF p n a) (hb : IsF p n b) :
    (pgOf fs N (d + 4)).fn i_law_met_wide [dd (p : Int), dd a, dd b] = .ok (dd ((metN p n a b).length : Int), true) := by
  have := (pm_of hp.pm).1
  have la := lenF hp ha
  have lb := lenF hp hb
  rw [← metw ha hb]
  refine fn_rt hf [dv (p : Int), sv a, sv b] rfl rfl ?_
  refine (ss_ret (e_sub (e_add (e_len (e_vn rfl)) (e_len (e_vn rfl))) (e_callf (es_cons (e_vf rfl) (es_cons (e_catn (e_vn rfl) (e_vn rfl) ?_) es_nil)) (law_wide_sp hp hn (rws_app ha.rws hb.rws))))).trans rfl
  unfold LIM; omega
theorem law_met_sp [hf : H_law_met fs] [H_law_form fs] [H_law_less fs] {p n : Nat} {a b : LLI} (hp : Ro p) (hn : n ≤ 6) (ha : IsF p n a) (hb : IsF p n b) :
    (pgOf fs N (d + 3)).fn i_law_met [dd (p : Int), dd (n : Int), dd a, dd b] = .ok (dd (metN p n a b), false) := by
  have := (pm_of hp.pm).1
  have la := lenF hp ha
  have lb := lenF hp hb
  have T := twoN_rws ha.rws hb.rws
  have lf := (formN_isF T).len_le
  rw [← zasN_eq ha hb]
  refine fn_rt hf [dv (p : Int), dv (n : Int), sv a, sv b, none, none] rfl rfl ?_
  refine ss_setw (fun otwo (two : LLI) => [dv (p : Int), dv (n : Int), sv a, sv b, some (.val (dd two) otwo), none]) (e_catn (e_lc (it_lst (e_vn rfl)) ?_ (fun z hz => el_k [sv (p : Int), sv (n : Int), sv a, sv b, none, sv z] rfl rfl (e_catf (e_vn rfl) (e_vn rfl) ?_))) (e_lc (it_lst (e_vn rfl)) ?_ (fun z hz => el_k [sv (p : Int), sv (n : Int), sv a, sv b, none, sv z] rfl rfl (e_catf (e_vn rfl) (e_rep (e_lstf (α := Int) (es_cons e_ki es_nil) rfl) (e_vf rfl) ?_) ?_))) ?_) ?_ (fun _ _ => rfl) ?_ fun otwo two htwo => ?_
  · unfold LIM; omega
  · have := (ha.rws z hz).1
    unfold LIM; omega
  · unfold LIM; omega
  · omega
  · have := (hb.rws z hz).1
    rw [List.length_replicate]
    unfold LIM; omega
  · simp only [List.length_map]
    unfold LIM; omega
  · intro _
    unfold nlu; split <;> rfl
  · unfold nlu; split <;> rfl
  have e2 : two = twoN n a b := by
    rw [htwo, Int.toNat_natCast]; rfl
  subst e2
  clear htwo
  refine (ss_ret (e_callsh (α := LLI) (x := zasN p n a b) (es_cons (e_vf rfl) (es_cons (e_lcq (α := LI) (it_lst (α := LI) (e_callsh (α := LLI) (x := formN p (n + n) (twoN n a b)) (es_cons (e_vf rfl) (es_cons (e_vn rfl) es_nil)) (law_form_sp hp (by omega) T))) ?_ (fun (z : LI) hz => el_q [sv (p : Int), sv (n : Int), sv a, sv b, sv (twoN n a b), sv z] rfl rfl (e_not (e_anyi (e_slf (e_vn rfl) b_nil (b_some (e_vf rfl) rfl)))) fun hq => (e_slf (e_vn rfl) (b_some (e_vf rfl) rfl) b_nil))) es_nil)) ?_)).trans ?_
  · unfold LIM; omega
  · have e : ((formN p (n + n) (twoN n a b)).filter fun z => !(cutL z none (some (n : Int))).any fun x => x != 0).map (fun z => cutL z (some (n : Int)) none) = backN n (formN p (n + n) (twoN n a b)) := by
      unfold backN
      congr 1
      · funext z; exact cut_from z n
      · congr 1; funext z; rw [cut_to]; rfl
    rw [e]
    exact law_form_sp hp (by omega) (backN_rws (formN_isF T).rws)
  · rfl
end FR

namespace FR
open PySem LA
open Da (dd)
variable {fs : List FI} {N d : Nat}
theorem law_widths_sp1 [hf : H_law_widths fs] {p n : Nat} {a : LLI} :
    (pgOf fs N (d + 5)).fn i_law_widths [dd (p : Int), dd (n : Int), dd [a]] = .ok (dd (widthsN p n [a]), true) := by
  refine fn_rt hf [dv (p : Int), dv (n : Int), sv [a], none, none, none, none, none] rfl rfl ?_
  exact ss_ift (e_eq (e_len (e_vn rfl)) e_ki) rfl ((ss_ret (e_lstf (α := Int) (es_cons (e_len (e_ixn [] (e_vn rfl) e_ki ⟨by simp, by simp⟩)) es_nil) rfl)).trans rfl)
theorem law_widths_sp2 [hf : H_law_widths fs] [H_law_met fs] [H_law_form fs] [H_law_less fs] {p n : Nat} {a b : LLI} (hp : Ro p) (hn : n ≤ 6) (ha : IsF p n a) (hb : IsF p n b) :
    (pgOf fs N (d + 5)).fn i_law_widths [dd (p : Int), dd (n : Int), dd [a, b]] = .ok (dd (widthsN p n [a, b]), true) := by
  refine fn_rt hf [dv (p : Int), dv (n : Int), sv [a, b], none, none, none, none, none] rfl rfl ?_
  refine ss_iff (e_eq (e_len (e_vn rfl)) e_ki) rfl ?_
  refine ss_par2 (x := a) (y := b) (fun (one : LLI) (other : LLI) => [dv (p : Int), dv (n : Int), sv [a, b], sv one, sv other, none, none, none]) (es_cons (e_ixn (xs := [a, b]) [] (e_vn rfl) e_ki ⟨by simp, by simp⟩) (es_cons (e_ixn (xs := [a, b]) [] (e_vn rfl) e_ki ⟨by simp, by simp⟩) es_nil)) (fun _ _ => rfl) fun one other hone hother => ?_
  subst hone hother
  refine ss_set (fun two : LLI => [dv (p : Int), dv (n : Int), sv [one, other], sv one, sv other, sv two, none, none]) (e_callsh (es_cons (e_vf rfl) (es_cons (e_vf rfl) (es_cons (e_vn rfl) (es_cons (e_vn rfl) es_nil)))) (law_met_sp hp hn ha hb)) (fun _ => rfl) fun two htwo => ?_
  subst htwo
  exact ss_ift (e_eq (e_len (e_vn rfl)) e_ki) rfl ((ss_ret (e_lstf (α := Int) (es_cons (e_len (e_vn rfl)) (es_cons (e_len (e_vn rfl)) (es_cons (e_len (e_vn rfl)) es_nil))) rfl)).trans rfl)
theorem law_widths_sp3 [hf : H_law_widths fs] [H_law_met fs] [H_law_met_wide fs] [H_law_wide fs] [H_law_form fs] [H_law_less fs] {p n : Nat} {a b c : LLI} (hp : Ro p) (hn : n ≤ 6) (ha : IsF p n a) (hb : IsF p n b) (hc : IsF p n c) :
    (pgOf fs N (d + 5)).fn i_law_widths [dd (p : Int), dd (n : Int), dd [a, b, c]] = .ok (dd (widthsN p n [a, b, c]), true) := by
  have := (pm_of hp.pm).1
  have la := lenF hp ha
  have lb := lenF hp hb
  have lc := lenF hp hc
  refine fn_rt hf [dv (p : Int), dv (n : Int), sv [a, b, c], none, none, none, none, none] rfl rfl ?_
  refine ss_iff (e_eq (e_len (e_vn rfl)) e_ki) rfl ?_
  refine ss_par2 (x := a) (y := b) (fun (one : LLI) (other : LLI) => [dv (p : Int), dv (n : Int), sv [a, b, c], sv one, sv other, none, none, none]) (es_cons (e_ixn (xs := [a, b, c]) [] (e_vn rfl) e_ki ⟨by simp, by simp⟩) (es_cons (e_ixn (xs := [a, b, c]) [] (e_vn rfl) e_ki ⟨by simp, by simp⟩) es_nil)) (fun _ _ => rfl) fun one other hone hother => ?_
  subst hone hother
  refine ss_set (fun two : LLI => [dv (p : Int), dv (n : Int), sv [one, other, c], sv one, sv other, sv two, none, none]) (e_callsh (es_cons (e_vf rfl) (es_cons (e_vf rfl) (es_cons (e_vn rfl) (es_cons (e_vn rfl) es_nil)))) (law_met_sp hp hn ha hb)) (fun _ => rfl) fun two htwo => ?_
  have hT : IsF p n two := by rw [htwo]; exact metF hp ha hb
  refine ss_iff (e_eq (e_len (e_vn rfl)) e_ki) rfl ?_
  refine ss_set (x := c) (fun third : LLI => [dv (p : Int), dv (n : Int), sv [one, other, c], sv one, sv other, sv two, sv third, none]) (e_ixn (xs := [one, other, c]) [] (e_vn rfl) e_ki ⟨by simp, by simp⟩) (fun _ => rfl) fun third hthird => ?_
  subst hthird
  refine ss_set (x := [(one.length : Int), other.length, third.length, two.length, (metN p n one third).length]) (fun found : LI => [dv (p : Int), dv (n : Int), sv [one, other, third], sv one, sv other, sv two, sv third, dv found]) (e_lstf (α := Int) (es_cons (e_len (e_vn rfl)) (es_cons (e_len (e_vn rfl)) (es_cons (e_len (e_vn rfl)) (es_cons (e_len (e_vn rfl)) (es_cons (e_callf (es_cons (e_vf rfl) (es_cons (e_vn rfl) (es_cons (e_vn rfl) es_nil))) (law_met_wide_sp (n := n) hp (by omega) ha hc)) es_nil))))) rfl) (fun _ => rfl) fun found hfound => ?_
  refine ss_set (fun found' : LI => [dv (p : Int), dv (n : Int), sv [one, other, third], sv one, sv other, sv two, sv third, dv found']) (e_catf (e_md rfl) (e_lstf (α := Int) (xs := [((metN p n other third).length : Int), ((metN p n two third).length : Int)]) (es_cons (e_callf (es_cons (e_vf rfl) (es_cons (e_vn rfl) (es_cons (e_vn rfl) es_nil))) (law_met_wide_sp (n := n) hp (by omega) hb hc)) (es_cons (e_callf (es_cons (e_vf rfl) (es_cons (e_vn rfl) (es_cons (e_vn rfl) es_nil))) (law_met_wide_sp (n := n) hp (by omega) hT hc)) es_nil)) rfl) ?_) (fun _ => rfl) fun found' hfound' => ?_
  · rw [hfound]; exact (by decide : (7 : Nat) ≤ LIM)
  have lf' : found'.length = 7 := by rw [hfound', hfound]; rfl
  have R := joinedN_isF hb.rws hc.rws
  refine ss_apd (fun found'' : LI => [dv (p : Int), dv (n : Int), sv [one, other, third], sv one, sv other, sv two, sv third, dv found'']) rfl (e_callf (es_cons (e_vf rfl) (es_cons (e_vn rfl) (es_cons (e_callsh (es_cons (e_vf rfl) (es_cons (e_catn (e_vn rfl) (e_vn rfl) ?_) es_nil)) (law_form_sp (n := n) hp (by omega) (rws_app hb.rws hc.rws))) es_nil))) (law_met_wide_sp (n := n) hp (by omega) ha R)) (by decide) ?_ rfl (fun _ => rfl) fun found'' hfound'' => ?_
  · unfold LIM; omega
  · unfold LIM; omega
  refine (ss_ret (e_catf (e_md rfl) (e_lstf (α := Int) (xs := [((formN p n ((one ++ other) ++ third)).length : Int)]) (es_cons (e_callf (es_cons (e_vf rfl) (es_cons (e_catn (e_catn (e_vn rfl) (e_vn rfl) ?_) (e_vn rfl) ?_) es_nil)) (law_wide_sp (n := n) hp (by omega) (rws_app (rws_app ha.rws hb.rws) hc.rws))) es_nil) rfl) ?_)).trans ?_
  · unfold LIM; omega
  · rw [List.length_append]; unfold LIM; omega
  · rw [hfound'', List.length_append, lf']; exact (by decide : (9 : Nat) ≤ LIM)
  · rw [join3 ha.rws hb.rws hc.rws, hfound'', hfound', hfound, htwo]; rfl
theorem law_widths_sp [hf : H_law_widths fs] [H_law_met fs] [H_law_met_wide fs] [H_law_wide fs] [H_law_form fs] [H_law_less fs] {p n : Nat} {flats : List LLI} (hp : Ro p) (hn : n ≤ 6) (h : IsFs p n flats) (hl : 0 < flats.length ∧ flats.length < 4) :
    (pgOf fs N (d + 5)).fn i_law_widths [dd (p : Int), dd (n : Int), dd flats] = .ok (dd (widthsN p n flats), true) := by
  match flats, h, hl with
  | [a], _, _ => exact law_widths_sp1
  | [a, b], h, _ => exact law_widths_sp2 hp hn (h a (by simp)) (h b (by simp))
  | [a, b, c], h, _ => exact law_widths_sp3 hp hn (h a (by simp)) (h b (by simp)) (h c (by simp))
  | [], _, hl => simp at hl
  | _ :: _ :: _ :: _ :: _, _, hl => simp at hl; omega
end FR

/-! tables: rows put together by other rows, one behind another, undone -/
namespace LA
variable {F : Type} [Lean.Grind.Field F]
theorem sum_shift {f : Nat → F} : ∀ n : Nat, sum (n + 1) f = f 0 + sum n (fun k => f (k + 1))
  | 0 => by show (0 : F) + f 0 = f 0 + 0; grind
  | n + 1 => by
    have := sum_shift (f := f) n
    show sum (n + 1) f + f (n + 1) = f 0 + (sum n (fun k => f (k + 1)) + f (n + 1))
    rw [this]; grind
end LA
namespace FR
open PySem LA Lean.Grind
section
variable {p : Nat} [hp : Pm p] {n : Nat}
noncomputable def tm (T : LLI) (v : V (Fin p)) : V (Fin p) := fun i => sum T.length (fun k => v k * vec p (T.getD k []) i)
theorem tm_nil (v : V (Fin p)) (i : Nat) : tm [] v i = 0 := rfl
theorem tm_cons (r : LI) (t : LLI) (v : V (Fin p)) (i : Nat) : tm (r :: t) v i = v 0 * vec p r i + tm t (fun k => v (k + 1)) i := by
  unfold tm
  rw [List.length_cons, sum_shift]
  rfl
theorem tm_lin (T : LLI) (u v : V (Fin p)) (a b : Fin p) (i : Nat) : tm T (fun k => a * u k + b * v k) i = a * tm T u i + b * tm T v i := by
  unfold tm
  rw [← sum_lin]
  exact sum_congr fun k _ => by grind
theorem tm_congr {T : LLI} {u v : V (Fin p)} (h : ∀ k < T.length, u k = v k) : tm T u = tm T v := by
  funext i
  exact sum_congr fun k hk => by rw [h k hk]
theorem linI_tm : ∀ (T : LLI) (r : LI), linI p T r = tm T (vec p r)
  | [], r => by funext i; cases r <;> rfl
  | t :: T, [] => by
    funext i
    show 0 = tm (t :: T) (vec p []) i
    unfold tm
    rw [sum_zero]
    intro k _
    have : vec p [] k = 0 := ph_0 p
    rw [this]; grind
  | t :: T, s :: r => by
    funext i
    rw [tm_cons]
    show ph p s * vec p t i + linI p T r i = _
    rw [linI_tm T r]; rfl
theorem sumN_rw {T : LLI} (h : Rws p n T) (r : LI) : Rw p n (sumN p n T r) := (sumN_ok h r).1
theorem sumN_vec {T : LLI} (h : Rws p n T) (r : LI) (i : Nat) : vec p (sumN p n T r) i = tm T (vec p r) i := by rw [(sumN_ok h r).2, linI_tm]
theorem tm_sp : ∀ {T : LLI} {v : V (Fin p)}, SpI p T (tm T v)
  | [], v => fun i => rfl
  | r :: t, v => by
    show Sp (vec p r :: t.map (vec p)) _
    refine ⟨-(v 0), (tm_sp (T := t) (v := fun k => v (k + 1))).congr fun i => ?_⟩
    rw [tm_cons]; grind
theorem sp_tm : ∀ {T : LLI} {w : V (Fin p)}, SpI p T w → ∃ v : V (Fin p), ∀ i, w i = tm T v i
  | [], w, h => ⟨fun _ => 0, fun i => h i⟩
  | r :: t, w, ⟨c, h⟩ => by
    obtain ⟨v, hv⟩ := sp_tm (T := t) h
    refine ⟨fun k => match k with
      | 0 => -c
      | k + 1 => v k, fun i => ?_⟩
    rw [tm_cons]
    have := hv i
    show w i = -c * vec p r i + tm t v i
    rw [← this]; grind
theorem tm_indep : ∀ {T : LLI}, Rws p n T → wI p n T = T.length → ∀ {v : V (Fin p)}, (∀ i, tm T v i = 0) → ∀ k < T.length, v k = 0
  | [], _, _, _, _, k, hk => by simp at hk
  | r :: t, hr, hw, v, h0, k, hk => by
    have ht : Rws p n t := fun x hx => hr x (by simp [hx])
    have l1 : wd n (Sp (t.map (vec p))) ≤ (t.map (vec p)).length := wd_len (vec_su' ht)
    rw [List.length_map] at l1
    have hw' : wd n (Sp (vec p r :: t.map (vec p))) = t.length + 1 := hw
    have nr : ¬ Sp (t.map (vec p)) (vec p r) := fun h => by
      rw [wd_cons0 h] at hw'; omega
    have e1 := wd_cons1 (n := n) (r := vec p r) (rs := t.map (vec p)) (vec_su' hr) nr
    have wt : wI p n t = t.length := by
      show wd n (Sp (t.map (vec p))) = _
      omega
    have v0 : v 0 = 0 := by
      refine Classical.byContradiction fun hc => nr ?_
      refine (Sp.sbs (t.map (vec p))).sm (-(finv p (v 0))) (tm_sp (T := t) (v := fun k => v (k + 1))) fun i => ?_
      have h1 := h0 i
      rw [tm_cons] at h1
      have h2 := finv_mul p hc
      grind
    have ht0 : ∀ i, tm t (fun k => v (k + 1)) i = 0 := fun i => by
      have h1 := h0 i
      rw [tm_cons, v0] at h1
      grind
    cases k with
    | zero => exact v0
    | succ k => exact tm_indep ht wt ht0 k (by simpa using hk)
def behN (p n : Nat) (a b : LLI) : LLI := a.map fun r => sumN p n b r
theorem behN_rws {a b : LLI} (hb : Rws p n b) : Rws p n (behN p n a b) := fun r hr => by
  obtain ⟨o, ho, rfl⟩ := List.mem_map.mp hr
  exact sumN_rw hb o
theorem tm_beh {b : LLI} (hb : Rws p n b) (v : V (Fin p)) : ∀ (a : LLI) (v : V (Fin p)) (i : Nat), tm (behN p n a b) v i = tm b (tm a v) i
  | [], v, i => by
    show tm [] v i = _
    rw [tm_nil]
    have e : tm [] v = fun k => 0 * v k + 0 * v k := by funext k; rw [tm_nil]; grind
    rw [e, tm_lin]; grind
  | r :: a, v, i => by
    show tm (sumN p n b r :: behN p n a b) v i = _
    rw [tm_cons, tm_beh hb v a, sumN_vec hb]
    have e : tm (r :: a) v = fun k => v 0 * vec p r k + 1 * tm a (fun k => v (k + 1)) k := by funext k; rw [tm_cons]; grind
    rw [e, tm_lin]; grind
def unit (n k : Nat) : LI := (List.range n).map fun j => if j = k then 1 else 0
def evenN (n : Nat) : LLI := (List.range n).map (unit n)
theorem unit_get {k i : Nat} : (unit n k).getD i 0 = if i < n ∧ i = k then 1 else 0 := by
  unfold unit
  rw [List.getD_eq_getElem?_getD, List.getElem?_map]
  by_cases hi : i < n
  · rw [List.getElem?_range hi]
    by_cases hk : i = k
    · subst hk; simp [hi]
    · simp [hk]
  · rw [List.getElem?_eq_none (by simpa using hi)]
    simp [hi]
theorem unit_rw (k : Nat) : Rw p n (unit n k) := ⟨by simp [unit], fun x hx => by
  obtain ⟨j, _, rfl⟩ := List.mem_map.mp hx
  have := hp.lt
  split <;> omega⟩
theorem unit_vec {k i : Nat} : vec p (unit n k) i = if i < n ∧ i = k then 1 else 0 := by
  show ph p ((unit n k).getD i 0) = _
  rw [unit_get]
  split
  · exact ph_1 p
  · exact ph_0 p
theorem even_rws : Rws p n (evenN n) := fun r hr => by
  obtain ⟨k, _, rfl⟩ := List.mem_map.mp hr
  exact unit_rw k
theorem even_len : (evenN n).length = n := by simp [evenN]
theorem even_get {k : Nat} (hk : k < n) : (evenN n).getD k [] = unit n k := by
  unfold evenN
  rw [List.getD_eq_getElem?_getD, List.getElem?_map, List.getElem?_range hk]; rfl
theorem tm_even {v : V (Fin p)} {i : Nat} (hi : i < n) : tm (evenN n) v i = v i := by
  unfold tm
  rw [even_len, sum_one hi]
  · rw [even_get hi, unit_vec, if_pos ⟨hi, rfl⟩]; grind
  · intro k hk hki
    rw [even_get hk, unit_vec, if_neg (by omega)]; grind
theorem tm_su {T : LLI} (h : Rws p n T) {v : V (Fin p)} {i : Nat} (hi : n ≤ i) : tm T v i = 0 := SpI.su h _ (tm_sp (v := v)) i hi
theorem tm_unit {T : LLI} {k : Nat} (hk : k < T.length) (i : Nat) : tm T (fun j => if j = k then 1 else 0) i = vec p (T.getD k []) i := by
  unfold tm
  rw [sum_one hk]
  · show (if k = k then 1 else 0) * _ = _
    rw [if_pos rfl]; grind
  · intro j hj hjk
    show (if j = k then 1 else 0) * _ = _
    rw [if_neg hjk]; grind
theorem mat_ext {A B : LLI} (hA : Rws p n A) (hB : Rws p n B) (hl : A.length = B.length) (h : ∀ v : V (Fin p), ∀ i < n, tm A v i = tm B v i) : A = B := by
  refine List.ext_getElem hl fun k h1 h2 => ?_
  refine vec_inj (hA _ (List.getElem_mem h1)) (hB _ (List.getElem_mem h2)) fun i hi => ?_
  have e := h (fun j => if j = k then 1 else 0) i hi
  rw [tm_unit h1, tm_unit h2] at e
  simpa [List.getD_eq_getElem?_getD, List.getElem?_eq_getElem h1, List.getElem?_eq_getElem h2] using e
def ofV (n : Nat) (v : V (Fin p)) : LI := (List.range n).map fun i => ((v i).val : Int)
theorem ph_val (x : Fin p) : ph p (x.val : Int) = x := by
  apply Fin.ext
  have : ph p (x.val : Int) = Fin.ofNat p x.val := by
    unfold ph
    exact Ring.intCast_natCast (α := Fin p) _
  rw [this]
  exact Nat.mod_eq_of_lt x.isLt
theorem ofV_rw (v : V (Fin p)) : Rw p n (ofV n v) := ⟨by simp [ofV], fun x hx => by
  obtain ⟨i, _, rfl⟩ := List.mem_map.mp hx
  have := (v i).isLt
  omega⟩
theorem ofV_vec {v : V (Fin p)} {i : Nat} (hi : i < n) : vec p (ofV n v) i = v i := by
  show ph p ((ofV n v).getD i 0) = v i
  unfold ofV
  rw [List.getD_eq_getElem?_getD, List.getElem?_map, List.getElem?_range hi]
  exact ph_val (v i)
/-- a table -/
structure Tab (p n : Nat) (T : LLI) : Prop where
  rws : Rws p n T
  len : T.length = n
  full : (formN p n T).length = n
theorem Tab.wd {T : LLI} (h : Tab p n T) : wI p n T = n := by rw [← formN_len h.rws]; exact h.full
theorem Tab.onto {T : LLI} (h : Tab p n T) {v : V (Fin p)} (hv : ∀ i, n ≤ i → v i = 0) : SpI p T v :=
  eq_of_wd (n := n) (U := SpI p T) (W := fun v => ∀ i, n ≤ i → v i = 0) (Sp.sbs _) ⟨fun i hi => rfl, fun a b h h' i hi => by have := h i hi; have := h' i hi; grind⟩ (fun v hv => hv) (fun v hv => SpI.su h.rws v hv) (by
    have := h.wd
    unfold wI at this
    rw [this]; exact wd_le) v hv
theorem tab_of {T S : LLI} (hT : Rws p n T) (hl : T.length = n) (hS : Rws p n S) (h : behN p n S T = evenN n) : Tab p n T := by
  refine ⟨hT, hl, ?_⟩
  rw [formN_len hT]
  refine Nat.le_antisymm wd_le ?_
  have e : wI p n (evenN n) = n := by
    have : wd n (Sp ((List.range n).map fun k => vec p (unit n k))) = (List.range n).length := wd_dual (fun k _ i hi => vec_su (unit_rw k) hi) List.nodup_range fun k hk l hl => by
      rw [unit_vec]
      have hk : k < n := by simpa using hk
      have hl : l < n := by simpa using hl
      by_cases e : k = l
      · rw [if_pos e, if_pos ⟨hl, e.symm⟩]
      · rw [if_neg e, if_neg (by omega)]
    rw [List.length_range] at this
    unfold wI SpI evenN
    rw [List.map_map]
    exact this
  refine Nat.le_trans (Nat.le_of_eq e.symm) ?_
  rw [← h]
  refine wd_mono (U := SpI p (behN p n S T)) (W := SpI p T) fun v hv => ?_
  refine Sp.trans (fun r hr => ?_) hv
  obtain ⟨o, ho, rfl⟩ := List.mem_map.mp hr
  obtain ⟨q, hq, rfl⟩ := List.mem_map.mp ho
  exact (tm_sp (T := T) (v := vec p q)).congr fun i => sumN_vec hT q i
theorem Tab.inv {T : LLI} (h : Tab p n T) : ∃ S, Rws p n S ∧ S.length = n ∧ behN p n S T = evenN n ∧ behN p n T S = evenN n := by
  have ex : ∀ k, ∃ s : LI, Rw p n s ∧ sumN p n T s = unit n k := fun k => by
    obtain ⟨v, hv⟩ := sp_tm (h.onto (v := vec p (unit n k)) fun i hi => vec_su (unit_rw k) hi)
    refine ⟨ofV n v, ofV_rw v, vec_inj (sumN_rw h.rws _) (unit_rw k) fun i hi => ?_⟩
    rw [sumN_vec h.rws, hv i]
    refine congrFun (tm_congr fun k hk => ofV_vec ?_) i
    have := h.len; omega
  obtain ⟨f, hf⟩ := Classical.skolem.mp ex
  have hS : Rws p n ((List.range n).map f) := fun r hr => by
    obtain ⟨k, _, rfl⟩ := List.mem_map.mp hr
    exact (hf k).1
  have ST : behN p n ((List.range n).map f) T = evenN n := by
    unfold behN evenN
    rw [List.map_map]
    exact List.map_congr_left fun k _ => (hf k).2
  refine ⟨(List.range n).map f, hS, by simp, ST, ?_⟩
  refine mat_ext (behN_rws hS) even_rws (by rw [even_len]; simp [behN, h.len]) fun v i hi => ?_
  rw [tm_beh hS v, tm_even hi]
  -- the rows of T are free of one another
  have z : ∀ i, tm T (fun k => 1 * tm ((List.range n).map f) (tm T v) k + (-1) * v k) i = 0 := fun i => by
    rw [tm_lin, ← tm_beh h.rws v, ST]
    by_cases hi : i < n
    · rw [tm_even hi]; grind
    · rw [tm_su even_rws (by omega), tm_su h.rws (by omega)]; grind
  have := tm_indep h.rws (by rw [h.wd, h.len]) z i (by rw [h.len]; exact hi)
  grind
/-- rows laid side by side -/
def sideB (a b : LLI) : LLI := (a.zip b).map fun z => z.1 ++ z.2
theorem side_len {a b : LLI} (h : a.length = b.length) : (sideB a b).length = a.length := by simp [sideB, h]
theorem side_get {a b : LLI} {k : Nat} (ha : k < a.length) (hb : k < b.length) : (sideB a b).getD k [] = a.getD k [] ++ b.getD k [] := by
  have h : k < (a.zip b).length := by rw [List.length_zip]; omega
  unfold sideB
  rw [List.getD_eq_getElem?_getD, List.getElem?_map, List.getElem?_eq_getElem h, List.getElem_zip]
  simp [List.getD_eq_getElem?_getD, List.getElem?_eq_getElem, ha, hb]
theorem rws_get {m : Nat} {a : LLI} (h : Rws p m a) {k : Nat} (hk : k < a.length) : Rw p m (a.getD k []) := by
  rw [List.getD_eq_getElem?_getD, List.getElem?_eq_getElem hk]
  exact h _ (List.getElem_mem hk)
theorem side_rws {m k : Nat} {a b : LLI} (ha : Rws p m a) (hb : Rws p k b) : Rws p (m + k) (sideB a b) := fun r hr => by
  obtain ⟨z, hz, rfl⟩ := List.mem_map.mp hr
  exact rw_app2 (ha _ (List.of_mem_zip hz).1) (hb _ (List.of_mem_zip hz).2)
theorem tm_side {a b : LLI} (ha : Rws p n a) (hl : a.length = b.length) (v : V (Fin p)) (i : Nat) : tm (sideB a b) v i = if i < n then tm a v i else tm b v (i - n) := by
  unfold tm
  rw [side_len hl, ← hl]
  by_cases hi : i < n
  · rw [if_pos hi]
    refine sum_congr fun k hk => ?_
    rw [side_get hk (by omega), vec_app, (rws_get ha hk).1, if_pos hi]
  · rw [if_neg hi]
    refine sum_congr fun k hk => ?_
    rw [side_get hk (by omega), vec_app, (rws_get ha hk).1, if_neg hi]
def undN (p n : Nat) (T : LLI) : LLI := (formN p (n + n) (sideB T (evenN n))).map fun r => r.drop n
theorem even_form {S : LLI} (hS : Rws p n S) (hl : S.length = n) : IsF p (n + n) (sideB (evenN n) S) := by
  refine ⟨List.range n, fun k => unit n k ++ S.getD k [], ?_, List.pairwise_lt_range, fun c hc => ?_, fun c hc => ?_, fun c hc l hl' => ?_, fun c hc i hi => ?_⟩
  · refine List.ext_getElem (by rw [side_len (by rw [even_len, hl]), even_len]; simp) fun k h1 h2 => ?_
    rw [side_len (by rw [even_len, hl]), even_len] at h1
    have := side_get (a := evenN n) (b := S) (k := k) (by rw [even_len]; exact h1) (by omega)
    rw [even_get h1] at this
    rw [List.getElem_map, List.getElem_range, ← this, List.getD_eq_getElem?_getD, List.getElem?_eq_getElem]; rfl
  · have : c < n := by simpa using hc
    omega
  · have : c < n := by simpa using hc
    exact rw_app2 (unit_rw c) (rws_get hS (by omega))
  · have hc : c < n := by simpa using hc
    have hl' : l < n := by simpa using hl'
    have e : (unit n c ++ S.getD c []).getD l 0 = (unit n c).getD l 0 := by
      rw [List.getD_eq_getElem?_getD, List.getElem?_append_left (by rw [(unit_rw (p := p) (n := n) c).1]; exact hl'), ← List.getD_eq_getElem?_getD]
    rw [e, unit_get]
    by_cases e : c = l
    · rw [if_pos e, if_pos ⟨hl', e.symm⟩]
    · rw [if_neg e, if_neg (by omega)]
  · have hc : c < n := by simpa using hc
    have e : (unit n c ++ S.getD c []).getD i 0 = (unit n c).getD i 0 := by
      rw [List.getD_eq_getElem?_getD, List.getElem?_append_left (by rw [(unit_rw (p := p) (n := n) c).1]; omega), ← List.getD_eq_getElem?_getD]
    rw [e, unit_get, if_neg (by omega)]
theorem und_form {T S : LLI} (hT : Rws p n T) (lT : T.length = n) (hS : Rws p n S) (lS : S.length = n) (h1 : behN p n S T = evenN n) (h2 : behN p n T S = evenN n) : formN p (n + n) (sideB T (evenN n)) = sideB (evenN n) S := by
  refine formN_eq (side_rws hT even_rws) (even_form hS lS) (Same.of (fun r hr => ?_) fun r hr => ?_)
  · obtain ⟨o, ho, rfl⟩ := List.mem_map.mp hr
    obtain ⟨k, hk, rfl⟩ := List.mem_iff_getElem.mp ho
    rw [side_len (by rw [even_len, lS]), even_len] at hk
    have g := side_get (a := evenN n) (b := S) (k := k) (by rw [even_len]; exact hk) (by omega)
    rw [List.getD_eq_getElem?_getD, List.getElem?_eq_getElem (by rw [side_len (by rw [even_len, lS]), even_len]; exact hk)] at g
    have g' : (sideB (evenN n) S)[k]'(by rw [side_len (by rw [even_len, lS]), even_len]; exact hk) = unit n k ++ S.getD k [] := by rw [← even_get hk]; exact g
    rw [g']
    refine (tm_sp (T := sideB T (evenN n)) (v := vec p (S.getD k []))).congr fun i => ?_
    rw [tm_side hT (by rw [even_len, lT]), vec_app, (unit_rw (p := p) (n := n) k).1]
    by_cases hi : i < n
    · rw [if_pos hi, if_pos hi, ← sumN_vec hT, ← even_get hk, ← h1]
      unfold behN
      rw [List.getD_eq_getElem?_getD, List.getElem?_map, List.getElem?_eq_getElem (by omega : k < S.length)]
      simp [List.getD_eq_getElem?_getD, List.getElem?_eq_getElem (by omega : k < S.length)]
    · rw [if_neg hi, if_neg hi]
      by_cases h : i - n < n
      · rw [tm_even h]
      · rw [tm_su even_rws (by omega), vec_su (rws_get hS (by omega)) (by omega)]
  · obtain ⟨o, ho, rfl⟩ := List.mem_map.mp hr
    obtain ⟨k, hk, rfl⟩ := List.mem_iff_getElem.mp ho
    rw [side_len (by rw [even_len, lT]), lT] at hk
    have g := side_get (a := T) (b := evenN n) (k := k) (by omega) (by rw [even_len]; exact hk)
    rw [List.getD_eq_getElem?_getD, List.getElem?_eq_getElem (by rw [side_len (by rw [even_len, lT]), lT]; exact hk)] at g
    have g' : (sideB T (evenN n))[k]'(by rw [side_len (by rw [even_len, lT]), lT]; exact hk) = T.getD k [] ++ unit n k := by rw [← even_get hk]; exact g
    rw [g']
    refine (tm_sp (T := sideB (evenN n) S) (v := vec p (T.getD k []))).congr fun i => ?_
    rw [tm_side even_rws (by rw [even_len, lS]), vec_app, (rws_get hT (by omega)).1]
    by_cases hi : i < n
    · rw [if_pos hi, if_pos hi, tm_even hi]
    · rw [if_neg hi, if_neg hi, ← sumN_vec hS, ← even_get hk, ← h2]
      unfold behN
      rw [List.getD_eq_getElem?_getD, List.getElem?_map, List.getElem?_eq_getElem (by omega : k < T.length)]
      simp [List.getD_eq_getElem?_getD, List.getElem?_eq_getElem (by omega : k < T.length)]
theorem und_eq {T S : LLI} (hT : Rws p n T) (lT : T.length = n) (hS : Rws p n S) (lS : S.length = n) (h1 : behN p n S T = evenN n) (h2 : behN p n T S = evenN n) : undN p n T = S := by
  unfold undN
  rw [und_form hT lT hS lS h1 h2]
  unfold sideB
  rw [List.map_map]
  refine List.ext_getElem (by simp [even_len, lS]) fun k h3 h4 => ?_
  have hk : k < n := by omega
  rw [List.getElem_map, List.getElem_zip]
  show ((evenN n)[k]'(by rw [even_len]; exact hk) ++ S[k]).drop n = S[k]
  have : ((evenN n)[k]'(by rw [even_len]; exact hk)).length = n := (even_rws (p := p) (n := n) _ (List.getElem_mem (by rw [even_len]; exact hk))).1
  rw [List.drop_append_of_le_length (by omega), List.drop_of_length_le (by omega)]; rfl
theorem Tab.und {T : LLI} (h : Tab p n T) : Tab p n (undN p n T) ∧ behN p n (undN p n T) T = evenN n ∧ behN p n T (undN p n T) = evenN n := by
  obtain ⟨S, hS, lS, h1, h2⟩ := h.inv
  rw [und_eq h.rws h.len hS lS h1 h2]
  exact ⟨tab_of hS lS h.rws h2, h1, h2⟩
end
end FR

/-! flats turned by tables -/
namespace FR
open PySem LA Lean.Grind
section
variable {p : Nat} [hp : Pm p] {n : Nat}
theorem img_sp {A T : LLI} (hT : Rws p n T) (w : V (Fin p)) : SpI p (behN p n A T) w ↔ ∃ u, SpI p A u ∧ ∀ i, w i = tm T u i := by
  constructor
  · intro h
    obtain ⟨v, hv⟩ := sp_tm h
    exact ⟨tm A v, tm_sp, fun i => by rw [hv, tm_beh hT v]⟩
  · rintro ⟨u, hu, hw⟩
    obtain ⟨v, hv⟩ := sp_tm hu
    refine (tm_sp (T := behN p n A T) (v := v)).congr fun i => ?_
    rw [hw, tm_beh hT v]
    exact congrFun (tm_congr fun k _ => hv k) i
def turnN (p n : Nat) (T f : LLI) : LLI := formN p n (behN p n f T)
theorem turn_isF {T f : LLI} (hT : Rws p n T) : IsF p n (turnN p n T f) := formN_isF (behN_rws hT)
theorem turn_sp {T f : LLI} (hT : Rws p n T) (w : V (Fin p)) : SpI p (turnN p n T f) w ↔ ∃ u, SpI p f u ∧ ∀ i, w i = tm T u i := (formN_same (behN_rws hT) w).trans (img_sp hT w)
theorem sum_beh {b c : LLI} (hb : Rws p n b) (hc : Rws p n c) (r : LI) : sumN p n c (sumN p n b r) = sumN p n (behN p n b c) r := by
  refine vec_inj (sumN_rw hc _) (sumN_rw (behN_rws hc) _) fun i _ => ?_
  rw [sumN_vec hc, sumN_vec (behN_rws hc), tm_beh hc (vec p r)]
  exact congrFun (tm_congr fun k _ => sumN_vec hb r k) i
theorem beh_assoc {a b c : LLI} (hb : Rws p n b) (hc : Rws p n c) : behN p n (behN p n a b) c = behN p n a (behN p n b c) := by
  unfold behN
  rw [List.map_map]
  exact List.map_congr_left fun r _ => sum_beh hb hc r
theorem sum_even {r : LI} (hr : Rw p n r) : sumN p n (evenN n) r = r := vec_inj (sumN_rw even_rws _) hr fun i hi => by rw [sumN_vec even_rws, tm_even hi]
theorem beh_even {a : LLI} (ha : Rws p n a) : behN p n a (evenN n) = a := by
  unfold behN
  rw [List.map_congr_left fun r hr => sum_even (ha r hr)]
  simp
theorem even_beh {a : LLI} (ha : Rws p n a) (hl : a.length = n) : behN p n (evenN n) a = a := by
  refine mat_ext (behN_rws ha) ha (by simp [behN, even_len, hl]) fun v i hi => ?_
  rw [tm_beh ha v]
  exact congrFun (tm_congr fun k hk => tm_even (by omega)) i
theorem turn_even {f : LLI} (hf : IsF p n f) : turnN p n (evenN n) f = f := by
  unfold turnN
  rw [beh_even hf.rws, formN_self hf]
theorem turn_form {T a : LLI} (hT : Rws p n T) (ha : Rws p n a) : turnN p n T (formN p n a) = turnN p n T a := by
  refine IsF.uniq (turn_isF hT) (turn_isF hT) fun v => ?_
  rw [show Sp (List.map (vec p) (turnN p n T (formN p n a))) v ↔ _ from turn_sp hT v, show Sp (List.map (vec p) (turnN p n T a)) v ↔ _ from turn_sp hT v]
  exact ⟨fun ⟨u, h, e⟩ => ⟨u, (formN_same ha u).mp h, e⟩, fun ⟨u, h, e⟩ => ⟨u, (formN_same ha u).mpr h, e⟩⟩
theorem turn_beh {A B f : LLI} (hA : Rws p n A) (hB : Rws p n B) : turnN p n B (turnN p n A f) = turnN p n (behN p n A B) f := by
  rw [show turnN p n B (turnN p n A f) = turnN p n B (formN p n (behN p n f A)) from rfl, turn_form hB (behN_rws hA)]
  unfold turnN
  rw [beh_assoc hA hB]
theorem turn_le {T f : LLI} (hT : Rws p n T) : (turnN p n T f).length ≤ f.length := by
  unfold turnN
  rw [formN_len (behN_rws hT)]
  have : wI p n (behN p n f T) ≤ ((behN p n f T).map (vec p)).length := wd_len (vec_su' (behN_rws hT))
  simpa [behN] using this
theorem Tab.turn_back {T f : LLI} (h : Tab p n T) (hf : IsF p n f) : turnN p n (undN p n T) (turnN p n T f) = f := by
  rw [turn_beh h.rws h.und.1.rws, h.und.2.2, turn_even hf]
theorem Tab.turn_len {T f : LLI} (h : Tab p n T) (hf : IsF p n f) : (turnN p n T f).length = f.length := by
  refine Nat.le_antisymm (turn_le h.rws) ?_
  have := turn_le (T := undN p n T) (f := turnN p n T f) h.und.1.rws
  rw [h.turn_back hf] at this
  exact this
theorem Tab.inj {T : LLI} (h : Tab p n T) {u v : V (Fin p)} (e : ∀ i, tm T u i = tm T v i) : ∀ i < n, u i = v i := fun i hi => by
  have z : ∀ i, tm T (fun k => 1 * u k + (-1) * v k) i = 0 := fun i => by rw [tm_lin, e i]; grind
  have := tm_indep h.rws (by rw [h.wd, h.len]) z i (by rw [h.len]; exact hi)
  grind
theorem tm_add (T : LLI) (u v : V (Fin p)) (i : Nat) : tm T (fun k => u k + v k) i = tm T u i + tm T v i := by
  have e : (fun k => u k + v k) = fun k => 1 * u k + 1 * v k := by funext k; grind
  rw [e, tm_lin]; grind
theorem turn_join {T a b : LLI} (hT : Rws p n T) (ha : Rws p n a) (hb : Rws p n b) : turnN p n T (joinedN p n a b) = joinedN p n (turnN p n T a) (turnN p n T b) := by
  refine IsF.ext (turn_isF hT) (joinedN_isF (turn_isF hT).rws (turn_isF hT).rws) fun v => ?_
  rw [turn_sp hT, joinedN_sum (turn_isF hT).rws (turn_isF hT).rws]
  constructor
  · rintro ⟨u, h, e⟩
    obtain ⟨x, y, hx, hy, exy⟩ := (joinedN_sum ha hb u).mp h
    refine ⟨tm T x, tm T y, (turn_sp hT _).mpr ⟨x, hx, fun _ => rfl⟩, (turn_sp hT _).mpr ⟨y, hy, fun _ => rfl⟩, fun i => ?_⟩
    rw [e, ← tm_add]
    exact congrFun (tm_congr fun k _ => exy k) i
  · rintro ⟨x, y, hx, hy, exy⟩
    obtain ⟨u, hu, eu⟩ := (turn_sp hT x).mp hx
    obtain ⟨w, hw, ew⟩ := (turn_sp hT y).mp hy
    refine ⟨fun k => u k + w k, (joinedN_sum ha hb _).mpr ⟨u, w, hu, hw, fun _ => rfl⟩, fun i => ?_⟩
    rw [tm_add, exy, eu, ew]
theorem Tab.turn_met {T a b : LLI} (h : Tab p n T) (ha : IsF p n a) (hb : IsF p n b) : turnN p n T (metN p n a b) = metN p n (turnN p n T a) (turnN p n T b) := by
  have hT := h.rws
  refine IsF.ext (turn_isF hT) (metN_isF (turn_isF hT) (turn_isF hT)) fun v => ?_
  rw [turn_sp hT, metN_cap (turn_isF hT) (turn_isF hT)]
  constructor
  · rintro ⟨u, hu, e⟩
    have := (metN_cap ha hb u).mp hu
    exact ⟨(turn_sp hT _).mpr ⟨u, this.1, e⟩, (turn_sp hT _).mpr ⟨u, this.2, e⟩⟩
  · rintro ⟨h1, h2⟩
    obtain ⟨u, hu, eu⟩ := (turn_sp hT v).mp h1
    obtain ⟨w, hw, ew⟩ := (turn_sp hT v).mp h2
    have e : ∀ i, u i = w i := fun i => by
      by_cases hi : i < n
      · exact h.inj (fun i => by rw [← eu, ← ew]) i hi
      · rw [SpI.su ha.rws u hu i (by omega), SpI.su hb.rws w hw i (by omega)]
    exact ⟨u, (metN_cap ha hb u).mpr ⟨hu, Sp.congr hw e⟩, eu⟩
theorem Tab.turn_inside {T a b : LLI} (h : Tab p n T) (ha : IsF p n a) (hb : IsF p n b) : insideN p n (turnN p n T a) (turnN p n T b) = insideN p n a b := by
  have hT := h.rws
  rw [Bool.eq_iff_iff, insideN_iff (turn_isF hT).rws (turn_isF hT), insideN_iff ha.rws hb]
  constructor
  · intro hh v hv
    obtain ⟨w, hw, ew⟩ := (turn_sp hT _).mp (hh (tm T v) ((turn_sp hT _).mpr ⟨v, hv, fun _ => rfl⟩))
    refine Sp.congr hw fun i => ?_
    by_cases hi : i < n
    · exact h.inj ew i hi
    · rw [SpI.su ha.rws v hv i (by omega), SpI.su hb.rws w hw i (by omega)]
  · intro hh v hv
    obtain ⟨u, hu, eu⟩ := (turn_sp hT v).mp hv
    exact (turn_sp hT v).mpr ⟨u, hh u hu, eu⟩
theorem Tab.turn_widths {T : LLI} (h : Tab p n T) {flats : List LLI} (hf : IsFs p n flats) : widthsN p n (flats.map (turnN p n T)) = widthsN p n flats := by
  match flats, hf with
  | [], _ => rfl
  | [a], hf =>
    show [((turnN p n T a).length : Int)] = [(a.length : Int)]
    rw [h.turn_len (hf a (by simp))]
  | [a, b], hf =>
    have ha := hf a (by simp)
    have hb := hf b (by simp)
    show [((turnN p n T a).length : Int), (turnN p n T b).length, (metN p n (turnN p n T a) (turnN p n T b)).length] = [(a.length : Int), b.length, (metN p n a b).length]
    rw [← h.turn_met ha hb, h.turn_len ha, h.turn_len hb, h.turn_len (metN_isF ha hb)]
  | [a, b, c], hf =>
    have ha := hf a (by simp)
    have hb := hf b (by simp)
    have hc := hf c (by simp)
    show [((turnN p n T a).length : Int), (turnN p n T b).length, (turnN p n T c).length, (metN p n (turnN p n T a) (turnN p n T b)).length, (metN p n (turnN p n T a) (turnN p n T c)).length, (metN p n (turnN p n T b) (turnN p n T c)).length, (metN p n (metN p n (turnN p n T a) (turnN p n T b)) (turnN p n T c)).length, (metN p n (turnN p n T a) (joinedN p n (turnN p n T b) (turnN p n T c))).length, (joinedN p n (turnN p n T a) (joinedN p n (turnN p n T b) (turnN p n T c))).length] = [(a.length : Int), b.length, c.length, (metN p n a b).length, (metN p n a c).length, (metN p n b c).length, (metN p n (metN p n a b) c).length, (metN p n a (joinedN p n b c)).length, (joinedN p n a (joinedN p n b c)).length]
    have j := joinedN_isF hb.rws hc.rws
    have m := metN_isF ha hb
    rw [← turn_join h.rws hb.rws hc.rws, ← turn_join h.rws ha.rws j.rws, ← h.turn_met ha j, ← h.turn_met ha hb, ← h.turn_met m hc, ← h.turn_met ha hc, ← h.turn_met hb hc,
      h.turn_len ha, h.turn_len hb, h.turn_len hc, h.turn_len m, h.turn_len (metN_isF ha hc), h.turn_len (metN_isF hb hc), h.turn_len (metN_isF m hc), h.turn_len (metN_isF ha j), h.turn_len (joinedN_isF ha.rws j.rws)]
  | a :: b :: c :: d :: t, _ => rfl
theorem Tab.beh {A B : LLI} (hA : Tab p n A) (hB : Tab p n B) : Tab p n (behN p n A B) ∧ undN p n (behN p n A B) = behN p n (undN p n B) (undN p n A) := by
  have a := hA.und
  have b := hB.und
  have e1 : behN p n (behN p n (undN p n B) (undN p n A)) (behN p n A B) = evenN n := by
    rw [beh_assoc a.1.rws (behN_rws hB.rws), ← beh_assoc hA.rws hB.rws, a.2.1, even_beh hB.rws hB.len, b.2.1]
  have e2 : behN p n (behN p n A B) (behN p n (undN p n B) (undN p n A)) = evenN n := by
    rw [beh_assoc hB.rws (behN_rws a.1.rws), ← beh_assoc b.1.rws a.1.rws, b.2.2, even_beh a.1.rws a.1.len, a.2.2]
  have l1 : (behN p n A B).length = n := by simp [behN, hA.len]
  exact ⟨tab_of (behN_rws hB.rws) l1 (behN_rws a.1.rws) e1, und_eq (behN_rws hB.rws) l1 (behN_rws a.1.rws) (by simp [behN, b.1.len]) e1 e2⟩
/-! the law's tables -/
def addR (p n : Nat) (f : LLI) (r : LI) : LLI := if f.length < (formN p n (f ++ [r])).length then f ++ [r] else f
def tabN (s : LI) (p n by_ : Nat) : LLI := (evenN n).foldl (addR p n) ((rowsN s p n (by_ + 20) n).foldl (addR p n) [])
structure Free (p n : Nat) (f : LLI) : Prop where
  rws : Rws p n f
  full : (formN p n f).length = f.length
theorem addR_ok {f : LLI} {r : LI} (h : Free p n f) (hr : Rw p n r) : Free p n (addR p n f r) ∧ SpI p (addR p n f r) (vec p r) ∧ ∀ v, SpI p f v → SpI p (addR p n f r) v := by
  have R : Rws p n (f ++ [r]) := rws_app h.rws fun x hx => by rw [List.mem_singleton] at hx; rw [hx]; exact hr
  unfold addR
  split
  · rename_i hlt
    refine ⟨⟨R, ?_⟩, Sp.mem (List.mem_map_of_mem (by simp)), fun v hv => Sp.mono (fun x hx => ?_) hv⟩
    · rw [formN_len R] at hlt ⊢
      have : wI p n (f ++ [r]) ≤ ((f ++ [r]).map (vec p)).length := wd_len (vec_su' R)
      rw [List.length_map, List.length_append, List.length_singleton] at this
      rw [List.length_append, List.length_singleton]
      omega
    · rw [List.map_append]; exact List.mem_append_left _ hx
  · rename_i hlt
    refine ⟨h, ?_, fun v hv => hv⟩
    have e1 := h.full
    rw [formN_len h.rws] at e1
    rw [formN_len R] at hlt
    have := eq_of_wd (n := n) (U := SpI p f) (W := SpI p (f ++ [r])) (Sp.sbs _) (Sp.sbs _) (SpI.su R) (fun v hv => Sp.mono (fun x hx => by rw [List.map_append]; exact List.mem_append_left _ hx) hv) (by
      show wI p n (f ++ [r]) ≤ wI p n f
      omega)
    exact this _ (Sp.mem (List.mem_map_of_mem (by simp)))
theorem fold_addR : ∀ (rs f : LLI), Free p n f → Rws p n rs → Free p n (rs.foldl (addR p n) f) ∧ (∀ r ∈ rs, SpI p (rs.foldl (addR p n) f) (vec p r)) ∧ ∀ v, SpI p f v → SpI p (rs.foldl (addR p n) f) v
  | [], f, h, _ => ⟨h, by simp, fun v hv => hv⟩
  | r :: rs, f, h, hr => by
    obtain ⟨h1, h2, h3⟩ := addR_ok h (hr r (by simp))
    obtain ⟨k1, k2, k3⟩ := fold_addR rs (addR p n f r) h1 fun x hx => hr x (by simp [hx])
    refine ⟨k1, fun x hx => ?_, fun v hv => k3 v (h3 v hv)⟩
    rcases List.mem_cons.mp hx with rfl | hx
    · exact k3 _ h2
    · exact k2 x hx
theorem Free.le {f : LLI} (h : Free p n f) : f.length ≤ n := by
  rw [← h.full]
  exact (formN_isF h.rws).len_le
theorem free_nil : Free p n [] := ⟨fun r hr => by simp at hr, by
  have := formN_len (p := p) (n := n) (rows := []) (fun r hr => by simp at hr)
  rw [this]
  exact wd_zero fun v hv i => hv i⟩
theorem tab_full {f : LLI} (h : Free p n f) (he : ∀ r ∈ evenN n, SpI p f (vec p r)) : Tab p n f := by
  have w : n ≤ wI p n f := by
    have e : wd n (Sp ((List.range n).map fun k => vec p (unit n k))) = (List.range n).length := wd_dual (fun k _ i hi => vec_su (unit_rw k) hi) List.nodup_range fun k hk l hl => by
      rw [unit_vec]
      have hk : k < n := by simpa using hk
      have hl : l < n := by simpa using hl
      by_cases e : k = l
      · rw [if_pos e, if_pos ⟨hl, e.symm⟩]
      · rw [if_neg e, if_neg (by omega)]
    rw [List.length_range] at e
    refine Nat.le_trans (Nat.le_of_eq e.symm) (wd_mono fun v hv => Sp.trans (fun r hr => ?_) hv)
    obtain ⟨k, hk, rfl⟩ := List.mem_map.mp hr
    exact he _ (List.mem_map_of_mem hk)
  have l := h.full
  rw [formN_len h.rws] at l
  have := h.le
  exact ⟨h.rws, by omega, by rw [formN_len h.rws]; omega⟩
end
end FR

namespace FR
open PySem LA
open Da (dd)
variable {fs : List FI} {N d : Nat}
theorem e_lcx {α ι : Type} [Da α] {P : Prog} {env : En} {ik : IK} {a b c e : CE} {tg : List Nat} {xs : List ι} {t : ι → D} {w : List Nat} {g : ι → α} {x : List α} (hi : Its P env ik a b xs t w) (hl : xs.length ≤ LIM) (h : ∀ x ∈ xs, elem P e c tg env (t x) = .ok (some (dd (g x), .deep, []))) (hx : xs.map g = x) : evE P (.lc e tg ik a b c) env = .ok (dd x, .deep, []) := by
  rw [← hx]; exact e_lc hi hl h
theorem check_table_sp [hf : H_check_table fs] [Base fs] {p n : Nat} {T : LLI} (hp : Ro p) (hn : n ≤ 12) (h : Tab p n T) :
    (pgOf fs N (d + 3)).fn i_check_table [dd (p : Int), dd (n : Int), dd T] = .ok (.non, true) := by
  have := (pm_of hp.pm).1
  have hl := h.len
  refine fn_nx hf [dv (p : Int), dv (n : Int), sv T, none] [dv (p : Int), dv (n : Int), sv T, none] rfl rfl ?_
  refine ss_iff (e_or (e_not (e_isin (e_vn rfl) rfl)) fun hc => (e_or (e_ne (e_len (e_vn rfl)) (e_vf rfl)) fun hc => (e_not (e_all (e_lc (it_lst (e_vn rfl)) ?_ (fun z hz => el_k [sv (p : Int), sv (n : Int), sv T, sv z] rfl rfl (e_callf (es_cons (e_vf rfl) (es_cons (e_vf rfl) (es_cons (e_vn rfl) es_nil))) (is_row_sp ?_)))))))) ?_ ?_
  · unfold LIM; omega
  · have := (h.rws z hz).1
    unfold LIM; omega
  · have e : (T.map fun z => isRowN p n z).all id = true := by
      rw [List.all_eq_true]
      intro b hb
      obtain ⟨z, hz, rfl⟩ := List.mem_map.mp hb
      exact isRowN_iff.mpr (h.rws z hz)
    simp [e, hl]
  refine ss_iff (e_lt (e_len (e_calln (es_cons (e_vf rfl) (es_cons (e_vf rfl) (es_cons (e_vn rfl) es_nil))) (form_of_sp hp hn h.rws (by omega)))) (e_vf rfl)) ?_ ss_nil
  simp [h.full]
theorem even_table_sp [hf : H_even_table fs] {n : Nat} (hn : n ≤ 12) :
    (pgOf fs N (d + 1)).fn i_even_table [dd (n : Int)] = .ok (dd (evenN n), true) := by
  refine fn_rt hf [dv (n : Int), none, none] rfl rfl ?_
  refine (ss_ret (e_lc (α := LI) (it_rng1 (e_vf rfl) ?_) ?_ (fun z hz => el_k [sv (n : Int), none, dv (z : Int)] rfl rfl (e_lc (α := Int) (it_rng1 (e_vf rfl) ?_) ?_ (fun z1 hz1 => el_k [sv (n : Int), dv (z1 : Int), sv (z : Int)] rfl rfl (e_ife (e_eq (e_vf rfl) (e_vf rfl)) (fun hc => e_ki) (fun hc => e_ki))))))).trans ?_
  · omega
  · simp; unfold LIM; omega
  · omega
  · simp; unfold LIM; omega
  · have e : ((List.range (n : Int).toNat).map fun z : Nat => (List.range (n : Int).toNat).map fun z1 : Nat => if decide ((z1 : Int) = (z : Int)) = true then (1 : Int) else 0) = evenN n := by
      rw [Int.toNat_natCast]
      refine List.map_congr_left fun k _ => List.map_congr_left fun j _ => ?_
      by_cases h : j = k
      · subst h; simp
      · have : ¬ (j : Int) = k := by omega
        simp [h, this]
    rw [e]; rfl
theorem behind_of_sp [hf : H_behind_of fs] [H_summed fs] [Base fs] {p n : Nat} {a b : LLI} (hp : Ro p) (hn : n ≤ 12) (hb : Rws p n b) (hl : a.length ≤ 1000000) :
    (pgOf fs N (d + 3)).fn i_behind_of [dd (p : Int), dd (n : Int), dd a, dd b] = .ok (dd (behN p n a b), true) := by
  refine fn_rt hf [dv (p : Int), dv (n : Int), sv a, sv b, none] rfl rfl ?_
  refine (ss_ret (e_lc (it_lst (e_vn rfl)) ?_ (fun z hz => el_k [sv (p : Int), sv (n : Int), sv a, sv b, sv z] rfl rfl (e_calln (es_cons (e_vf rfl) (es_cons (e_vf rfl) (es_cons (e_vn rfl) (es_cons (e_vn rfl) es_nil)))) (summed_sp (ro31 hp) hb hn))))).trans rfl
  unfold LIM; omega
theorem undone_of_sp [hf : H_undone_of fs] [H_even_table fs] [Base fs] {p n : Nat} {T : LLI} (hp : Ro p) (hn : n ≤ 6) (h : Rws p n T) (hl : T.length = n) :
    (pgOf fs N (d + 3)).fn i_undone_of [dd (p : Int), dd (n : Int), dd T] = .ok (dd (undN p n T), true) := by
  have := (pm_of hp.pm).1
  refine fn_rt hf [dv (p : Int), dv (n : Int), sv T, none, none, none] rfl rfl ?_
  refine ss_set (x := sideB T (evenN n)) (fun both : LLI => [dv (p : Int), dv (n : Int), sv T, dv both, none, none]) (e_lc (it_zip (e_vn rfl) (e_calln (es_cons (e_vf rfl) es_nil) (even_table_sp (by omega)))) ?_ (fun z hz => el_k [sv (p : Int), sv (n : Int), sv T, none, sv z.1, sv z.2] rfl rfl (e_catf (e_vn rfl) (e_vn rfl) ?_))) (fun _ => rfl) fun both hboth => ?_
  · rw [List.length_zip]; unfold LIM; omega
  · have h1 := (h z.1 (List.of_mem_zip hz).1).1
    have h2 := (even_rws (p := p) (n := n) z.2 (List.of_mem_zip hz).2).1
    unfold LIM; omega
  have B : Rws p (n + n) both := by rw [hboth]; exact side_rws h even_rws
  have bl : both.length = n := by rw [hboth, side_len (by rw [even_len, hl]), hl]
  have F := (formN_isF B).len_le
  have e2 : (2 : Int) * (n : Int) = ((n + n : Nat) : Int) := by omega
  refine (ss_ret (e_lc (α := LI) (it_lst (xs := formN p (n + n) both) (e_calln (es_cons (e_vf rfl) (es_cons (e_mul e_ki (e_vf rfl) (mulOk_r (by omega))) (es_cons (e_vn rfl) es_nil))) ?_)) ?_ (fun (z : LI) hz => el_k [sv (p : Int), sv (n : Int), sv T, sv both, sv z, none] rfl rfl (e_slf (e_vn rfl) (b_some (e_vf rfl) rfl) b_nil)))).trans ?_
  · rw [e2]
    exact form_of_sp (n := n + n) hp (by omega) B (by omega)
  · unfold LIM; omega
  · have e : ((formN p (n + n) both).map fun z => cutL z (some (n : Int)) none) = undN p n T := by
      rw [hboth]
      exact List.map_congr_left fun z _ => cut_from z n
    rw [e]; rfl
theorem flat_turned_sp [hf : H_flat_turned fs] [H_behind_of fs] [H_summed fs] [Base fs] {p n : Nat} {T f : LLI} (hp : Ro p) (hn : n ≤ 12) (hT : Rws p n T) (hl : f.length ≤ 1000) :
    (pgOf fs N (d + 4)).fn i_flat_turned [dd (p : Int), dd (n : Int), dd T, dd f] = .ok (dd (turnN p n T f), true) := by
  have := (pm_of hp.pm).1
  refine fn_rt hf [dv (p : Int), dv (n : Int), sv T, sv f] rfl rfl ?_
  exact (ss_ret (e_calln (es_cons (e_vf rfl) (es_cons (e_vf rfl) (es_cons (e_calln (es_cons (e_vf rfl) (es_cons (e_vf rfl) (es_cons (e_vn rfl) (es_cons (e_vn rfl) es_nil)))) (behind_of_sp hp hn hT (by omega))) es_nil))) (form_of_sp hp hn (behN_rws hT) (by simp [behN]; omega)))).trans rfl
theorem row_turned_sp [hf : H_row_turned fs] [H_check_row fs] [H_check_table fs] [H_summed fs] [Base fs] {p n : Nat} {T : LLI} {r : LI} (hp : Ro p) (hn : 1 ≤ n ∧ n ≤ 6) (h : Tab p n T) (hr : Rw p n r) :
    (pgOf fs N (d + 4)).fn i_row_turned [dd (p : Int), dd (n : Int), dd T, dd r] = .ok (dd (sumN p n T r), true) := by
  refine fn_rt hf [dv (p : Int), dv (n : Int), sv T, sv r] rfl rfl ?_
  refine ss_ex (e_call0 (es_cons (e_vf rfl) (es_cons (e_vf rfl) es_nil)) (check_room_sp hp hn)) ?_
  refine ss_ex (e_call0 (es_cons (e_vf rfl) (es_cons (e_vf rfl) (es_cons (e_vn rfl) es_nil))) (check_table_sp hp (by omega) h)) ?_
  refine ss_ex (e_call0 (es_cons (e_vf rfl) (es_cons (e_vf rfl) (es_cons (e_vn rfl) es_nil))) (check_row_sp hr (by omega))) ?_
  exact (ss_ret (e_calln (es_cons (e_vf rfl) (es_cons (e_vf rfl) (es_cons (e_vn rfl) (es_cons (e_vn rfl) es_nil)))) (summed_sp (ro31 hp) h.rws (by omega)))).trans rfl
theorem turned_by_sp [hf : H_turned_by fs] [H_check_flat fs] [H_check_table fs] [H_flat_turned fs] [H_behind_of fs] [H_summed fs] [Flt fs] {p n : Nat} {T f : LLI} (hp : Ro p) (hn : 1 ≤ n ∧ n ≤ 6) (h : Tab p n T) (hF : IsF p n f) :
    (pgOf fs N (d + 5)).fn i_turned_by [dd (p : Int), dd (n : Int), dd T, dd f] = .ok (dd (turnN p n T f), true) := by
  have := lenF hp hF
  refine fn_rt hf [dv (p : Int), dv (n : Int), sv T, sv f] rfl rfl ?_
  refine ss_ex (e_call0 (es_cons (e_vf rfl) (es_cons (e_vf rfl) es_nil)) (check_room_sp hp hn)) ?_
  refine ss_ex (e_call0 (es_cons (e_vf rfl) (es_cons (e_vf rfl) (es_cons (e_vn rfl) es_nil))) (check_table_sp hp (by omega) h)) ?_
  refine ss_ex (e_call0 (es_cons (e_vf rfl) (es_cons (e_vf rfl) (es_cons (e_vn rfl) es_nil))) (check_flat_sp hp (by omega) hF)) ?_
  exact (ss_ret (e_calln (es_cons (e_vf rfl) (es_cons (e_vf rfl) (es_cons (e_vn rfl) (es_cons (e_vn rfl) es_nil)))) (flat_turned_sp hp (by omega) h.rws (by omega)))).trans rfl
theorem behind_sp [hf : H_behind fs] [H_behind_of fs] [H_check_table fs] [H_summed fs] [Base fs] {p n : Nat} {a b : LLI} (hp : Ro p) (hn : 1 ≤ n ∧ n ≤ 6) (ha : Tab p n a) (hb : Tab p n b) :
    (pgOf fs N (d + 4)).fn i_behind [dd (p : Int), dd (n : Int), dd a, dd b] = .ok (dd (behN p n a b), true) := by
  have := ha.len
  refine fn_rt hf [dv (p : Int), dv (n : Int), sv a, sv b] rfl rfl ?_
  refine ss_ex (e_call0 (es_cons (e_vf rfl) (es_cons (e_vf rfl) es_nil)) (check_room_sp hp hn)) ?_
  refine ss_ex (e_call0 (es_cons (e_vf rfl) (es_cons (e_vf rfl) (es_cons (e_vn rfl) es_nil))) (check_table_sp hp (by omega) ha)) ?_
  refine ss_ex (e_call0 (es_cons (e_vf rfl) (es_cons (e_vf rfl) (es_cons (e_vn rfl) es_nil))) (check_table_sp hp (by omega) hb)) ?_
  exact (ss_ret (e_calln (es_cons (e_vf rfl) (es_cons (e_vf rfl) (es_cons (e_vn rfl) (es_cons (e_vn rfl) es_nil)))) (behind_of_sp hp (by omega) hb.rws (by omega)))).trans rfl
theorem undone_sp [hf : H_undone fs] [H_check_table fs] [H_undone_of fs] [H_even_table fs] [Base fs] {p n : Nat} {T : LLI} (hp : Ro p) (hn : 1 ≤ n ∧ n ≤ 6) (h : Tab p n T) :
    (pgOf fs N (d + 4)).fn i_undone [dd (p : Int), dd (n : Int), dd T] = .ok (dd (undN p n T), true) := by
  refine fn_rt hf [dv (p : Int), dv (n : Int), sv T] rfl rfl ?_
  refine ss_ex (e_call0 (es_cons (e_vf rfl) (es_cons (e_vf rfl) es_nil)) (check_room_sp hp hn)) ?_
  refine ss_ex (e_call0 (es_cons (e_vf rfl) (es_cons (e_vf rfl) (es_cons (e_vn rfl) es_nil))) (check_table_sp hp (by omega) h)) ?_
  exact (ss_ret (e_calln (es_cons (e_vf rfl) (es_cons (e_vf rfl) (es_cons (e_vn rfl) es_nil))) (undone_of_sp hp hn.2 h.rws h.len))).trans rfl
theorem tabN_ok {s : LI} {p n by_ : Nat} (hp : Ro p) : Tab p n (tabN s p n by_) := by
  have := (pm_of hp.pm).1
  obtain ⟨h1, _, _⟩ := fold_addR (rowsN s p n (by_ + 20) n) [] free_nil (rowsN_rws hp.pos)
  obtain ⟨k1, k2, _⟩ := fold_addR (evenN n) _ h1 even_rws
  exact tab_full k1 k2
theorem law_table_sp [hf : H_law_table fs] [H_law_wide fs] [Drw fs] {s : LI} {p n by_ B : Nat} (hp : Ro p) (hn : n ≤ 12) (hs : Bd B s) (hB : 40 ≤ B ∧ B ≤ 10000000) (hby : by_ ≤ 100) :
    (pgOf fs N (d + 4)).fn i_law_table [dd s, dd (p : Int), dd (n : Int), dd (by_ : Int)] = .ok (dd (tabN s p n by_), false) := by
  have := (pm_of hp.pm).1
  refine fn_rt hf [sv s, dv (p : Int), dv (n : Int), dv (by_ : Int), none, none, none, none] rfl rfl ?_
  refine ss_setT (fun found : LLI => [sv s, dv (p : Int), dv (n : Int), dv (by_ : Int), tv found, none, none, none]) (e_lst0 (α := LI)) (fun _ => rfl) fun found hfound => ?_
  subst hfound
  have st : ∀ (env : LLI → En) (f : LLI) (row : LI), True := fun _ _ _ => trivial
  refine ss_for [sv s, dv (p : Int), dv (n : Int), dv (by_ : Int), tv ([] : LLI), none, none, none] (it_lst (xs := rowsN s p n (by_ + 20) n) (e_calln (es_cons (e_vn rfl) (es_cons (e_vf rfl) (es_cons (e_vf rfl) (es_cons (e_add (e_vf rfl) e_ki) (es_cons (e_vf rfl) es_nil))))) ?_)) rfl
    (for_st (fun f : LLI => [sv s, dv (p : Int), dv (n : Int), dv (by_ : Int), tv f, none, none, none]) (addR p n) (fun f => Free p n f) (rowsN s p n (by_ + 20) n) [] free_nil fun f F row hrow => ⟨?_, (addR_ok F (rowsN_rws hp.pos row hrow)).1⟩).1 ?_
  · exact law_rows_sp (by_ := by_ + 20) (many := n) hp.pos hn hs hB (by omega) (by omega)
  · have R : Rw p n row := rowsN_rws hp.pos row hrow
    have fl := F.le
    have FR_ : Rws p n (f ++ [row]) := rws_app F.rws fun x hx => by rw [List.mem_singleton] at hx; rw [hx]; exact R
    refine bdn [sv s, dv (p : Int), dv (n : Int), dv (by_ : Int), tv f, sv row, none, none] (if f.length < (formN p n (f ++ [row])).length then [sv s, dv (p : Int), dv (n : Int), dv (by_ : Int), tv (f ++ [row]), sv row, none, none] else [sv s, dv (p : Int), dv (n : Int), dv (by_ : Int), tv f, sv row, none, none]) rfl rfl ?_ (by unfold addR; split <;> rfl)
    refine ss_if (e_gt (e_callf (es_cons (e_vf rfl) (es_cons (e_catr (e_vn rfl) (e_lstn (α := LI) (xs := [row]) (es_cons (e_vn rfl) es_nil) rfl) ?_ (by simp)) es_nil)) (law_wide_sp hp hn FR_)) (e_len (e_vn rfl))) (fun hc => ?_) (fun hc => ?_)
    · simp only [List.length_singleton]; unfold LIM; omega
    · have hc : f.length < (formN p n (f ++ [row])).length := by have := of_decide_eq_true hc; omega
      rw [if_pos hc]
      refine ss_apd (fun f' : LLI => [sv s, dv (p : Int), dv (n : Int), dv (by_ : Int), tv f', sv row, none, none]) rfl (e_ms rfl (by decide)) (by decide) ?_ rfl (fun _ => rfl) fun f' hf' => ?_
      · unfold LIM; omega
      · rw [hf']; exact ss_nil
    · have hc : ¬ f.length < (formN p n (f ++ [row])).length := by have := of_decide_eq_false hc; omega
      rw [if_neg hc]
      exact ss_nil
  have F1 := (fold_addR (rowsN s p n (by_ + 20) n) [] free_nil (rowsN_rws hp.pos)).1
  show evSs _ _ _ [sv s, dv (p : Int), dv (n : Int), dv (by_ : Int), tv ((rowsN s p n (by_ + 20) n).foldl (addR p n) []), none, none, none] = _
  unfold tabN
  generalize (rowsN s p n (by_ + 20) n).foldl (addR p n) [] = f1 at F1 ⊢
  refine ss_for [sv s, dv (p : Int), dv (n : Int), dv (by_ : Int), tv f1, none, none, none] (it_rng1 (e_vf rfl) ?_) rfl
    (for_st (fun f : LLI => [sv s, dv (p : Int), dv (n : Int), dv (by_ : Int), tv f, none, none, none]) (fun f k => addR p n f (unit n k)) (fun f => Free p n f) (List.range (n : Int).toNat) f1 F1 fun f F k hk => ⟨?_, (addR_ok F (unit_rw k)).1⟩).1 ?_
  · omega
  · have R : Rw p n (unit n k) := unit_rw k
    have fl := F.le
    have FR_ : Rws p n (f ++ [unit n k]) := rws_app F.rws fun x hx => by rw [List.mem_singleton] at hx; rw [hx]; exact R
    refine bdn [sv s, dv (p : Int), dv (n : Int), dv (by_ : Int), tv f, none, dv (k : Int), none] (if f.length < (formN p n (f ++ [unit n k])).length then [sv s, dv (p : Int), dv (n : Int), dv (by_ : Int), tv (f ++ [unit n k]), none, dv (k : Int), none] else [sv s, dv (p : Int), dv (n : Int), dv (by_ : Int), tv f, dv (unit n k), dv (k : Int), none]) rfl rfl ?_ (by unfold addR; split <;> rfl)
    refine ss_set (fun row : LI => [sv s, dv (p : Int), dv (n : Int), dv (by_ : Int), tv f, dv row, dv (k : Int), none]) (e_lc (α := Int) (it_rng1 (e_vf rfl) ?_) ?_ (fun z hz => el_k [sv s, sv (p : Int), sv (n : Int), sv (by_ : Int), sv f, none, sv (k : Int), dv (z : Int)] rfl rfl (e_ife (e_eq (e_vf rfl) (e_vf rfl)) (fun hc => e_ki) (fun hc => e_ki)))) (fun _ => rfl) fun row hrow => ?_
    · omega
    · simp; unfold LIM; omega
    have er : row = unit n k := by
      rw [hrow, Int.toNat_natCast]
      refine List.map_congr_left fun j _ => ?_
      by_cases h : j = k
      · subst h; simp
      · have : ¬ (j : Int) = k := by omega
        simp [h, this]
    subst er
    clear hrow
    refine ss_if (e_gt (e_callf (es_cons (e_vf rfl) (es_cons (e_catr (e_vn rfl) (e_lstn (α := LI) (xs := [unit n k]) (es_cons (e_vn rfl) es_nil) rfl) ?_ (by simp)) es_nil)) (law_wide_sp hp hn FR_)) (e_len (e_vn rfl))) (fun hc => ?_) (fun hc => ?_)
    · simp only [List.length_singleton]; unfold LIM; omega
    · have hc : f.length < (formN p n (f ++ [unit n k])).length := by have := of_decide_eq_true hc; omega
      rw [if_pos hc]
      refine ss_apd (fun f' : LLI => [sv s, dv (p : Int), dv (n : Int), dv (by_ : Int), tv f', none, dv (k : Int), none]) rfl (e_md rfl) (by decide) ?_ rfl (fun _ => rfl) fun f' hf' => ?_
      · unfold LIM; omega
      · rw [hf']; exact ss_nil
    · have hc : ¬ f.length < (formN p n (f ++ [unit n k])).length := by have := of_decide_eq_false hc; omega
      rw [if_neg hc]
      exact ss_nil
  · refine (ss_ret (e_ms rfl (by decide))).trans ?_
    unfold evenN
    rw [List.foldl_map, Int.toNat_natCast]; rfl
theorem law_flat_turned_sp [hf : H_law_flat_turned fs] [H_law_form fs] [H_law_less fs] [H_law_sum fs] {p n : Nat} {T f : LLI} (hp : Ro p) (hn : n ≤ 12) (hT : Rws p n T) (hl : f.length ≤ 1000) :
    (pgOf fs N (d + 3)).fn i_law_flat_turned [dd (p : Int), dd (n : Int), dd T, dd f] = .ok (dd (turnN p n T f), false) := by
  have := (pm_of hp.pm).1
  refine fn_rt hf [dv (p : Int), dv (n : Int), sv T, sv f, none] rfl rfl ?_
  refine (ss_ret (e_callsh (α := LLI) (x := turnN p n T f) (es_cons (e_vf rfl) (es_cons (e_lc (it_lst (e_vn rfl)) ?_ (fun z hz => el_k [sv (p : Int), sv (n : Int), sv T, sv f, sv z] rfl rfl (e_calln (es_cons (e_vf rfl) (es_cons (e_vf rfl) (es_cons (e_vn rfl) (es_cons (e_vn rfl) es_nil)))) (law_sum_sp (ro31 hp) hT hn)))) es_nil)) (law_form_sp hp hn (behN_rws hT)))).trans rfl
  unfold LIM; omega
end FR

/-! rows and columns exchanged: what lies across a flat turned -/
namespace FR
open PySem LA Lean.Grind
section
variable {p : Nat} [hp : Pm p] {n : Nat}
def exN (T : LLI) : LLI := (List.range T.length).map fun k => T.map fun r => r.getD k 0
theorem ex_get {T : LLI} {i k : Nat} (hi : i < T.length) (hk : k < T.length) : ((exN T).getD i []).getD k 0 = (T.getD k []).getD i 0 := by
  have e : (exN T).getD i [] = T.map fun r => r.getD i 0 := by
    unfold exN
    rw [List.getD_eq_getElem?_getD, List.getElem?_map, List.getElem?_range hi]; rfl
  rw [e, List.getD_eq_getElem?_getD, List.getElem?_map, List.getElem?_eq_getElem hk, List.getD_eq_getElem?_getD (l := T), List.getElem?_eq_getElem hk]; rfl
theorem ex_len {T : LLI} : (exN T).length = T.length := by simp [exN]
theorem ex_rws {T : LLI} (h : Rws p n T) (hl : T.length = n) : Rws p n (exN T) := fun r hr => by
  obtain ⟨k, _, rfl⟩ := List.mem_map.mp hr
  refine ⟨by rw [List.length_map, hl], fun x hx => ?_⟩
  obtain ⟨o, ho, rfl⟩ := List.mem_map.mp hx
  exact (h o ho).get (Pm.pos p) k
/-- what a table does, and what it does with rows and columns exchanged -/
theorem adj {T : LLI} (hl : T.length = n) (u v : V (Fin p)) : dot n (tm T u) v = dot n u (tm (exN T) v) := by
  unfold dot tm
  rw [ex_len, hl]
  have e1 : sum n (fun i => sum n (fun k => u k * vec p (T.getD k []) i) * v i) = sum n (fun i => sum n (fun k => u k * vec p (T.getD k []) i * v i)) := by
    refine sum_congr fun i _ => ?_
    have := sum_sm (f := fun k => u k * vec p (T.getD k []) i) (v i) n
    have e : sum n (fun k => u k * vec p (T.getD k []) i * v i) = sum n (fun k => v i * (u k * vec p (T.getD k []) i)) := sum_congr fun k _ => by grind
    rw [e, this]; grind
  rw [e1, sum_swap]
  refine sum_congr fun k hk => ?_
  rw [← sum_sm]
  refine sum_congr fun i hi => ?_
  have : vec p ((exN T).getD i []) k = vec p (T.getD k []) i := by
    show ph p (((exN T).getD i []).getD k 0) = ph p ((T.getD k []).getD i 0)
    rw [ex_get (by omega) (by omega)]
  rw [this]; grind
theorem dot_congr {u u' v v' : V (Fin p)} (h : ∀ i < n, u i = u' i) (h' : ∀ i < n, v i = v' i) : dot n u v = dot n u' v' := sum_congr fun i hi => by rw [h i hi, h' i hi]
theorem ex_inv {S T : LLI} (hS : Rws p n S) (lS : S.length = n) (hT : Rws p n T) (lT : T.length = n) (h : behN p n S T = evenN n) {w : V (Fin p)} {i : Nat} (hi : i < n) : tm (exN S) (tm (exN T) w) i = w i := by
  have e1 : ∀ u : V (Fin p), dot n u (tm (exN S) (tm (exN T) w)) = dot n u w := fun u => by
    rw [← adj lS, ← adj lT]
    refine dot_congr (fun i hi => ?_) fun _ _ => rfl
    rw [← tm_beh hT u, h, tm_even hi]
  have e2 : ∀ v : V (Fin p), dot n (vec p (unit n i)) v = v i := fun v => by
    unfold dot
    rw [sum_one hi]
    · rw [unit_vec, if_pos ⟨hi, rfl⟩]; grind
    · intro k _ hk
      rw [unit_vec, if_neg (by omega)]; grind
  have := e1 (vec p (unit n i))
  rwa [e2, e2] at this
theorem Tab.ex {T : LLI} (h : Tab p n T) : Tab p n (exN T) := by
  have u := h.und
  refine tab_of (ex_rws h.rws h.len) (by rw [ex_len, h.len]) (ex_rws u.1.rws u.1.len) ?_
  refine mat_ext (behN_rws (ex_rws h.rws h.len)) even_rws (by rw [even_len]; simp [behN, ex_len, u.1.len]) fun v i hi => ?_
  rw [tm_beh (ex_rws h.rws h.len) v, tm_even hi]
  exact ex_inv h.rws h.len u.1.rws u.1.len u.2.2 hi
theorem Tab.across_turn {T f : LLI} (h : Tab p n T) (hf : IsF p n f) : acrossN p n (turnN p n T f) = turnN p n (exN (undN p n T)) (acrossN p n f) := by
  have u := h.und
  have xS := ex_rws u.1.rws u.1.len
  have xT := ex_rws h.rws h.len
  refine IsF.ext (acrossN_isF (turn_isF h.rws)) (turn_isF xS) fun w => ?_
  rw [acrossN_perp (turn_isF h.rws), turn_sp xS]
  constructor
  · rintro ⟨s, hw⟩
    refine ⟨tm (exN T) w, (acrossN_perp hf _).mpr ⟨fun i hi => tm_su xT hi, fun v hv => ?_⟩, fun i => ?_⟩
    · rw [← adj h.len]
      exact hw _ ((turn_sp h.rws _).mpr ⟨v, hv, fun _ => rfl⟩)
    · by_cases hi : i < n
      · exact (ex_inv u.1.rws u.1.len h.rws h.len u.2.1 hi).symm
      · rw [s i (by omega), tm_su xS (by omega)]
  · rintro ⟨v, hv, e⟩
    obtain ⟨_, hv⟩ := (acrossN_perp hf _).mp hv
    refine ⟨fun i hi => by rw [e, tm_su xS hi], fun x hx => ?_⟩
    obtain ⟨y, hy, ey⟩ := (turn_sp h.rws x).mp hx
    rw [dot_congr (fun i _ => ey i) (fun i _ => e i), adj h.len]
    rw [dot_congr (fun i _ => rfl) (fun i hi => ex_inv h.rws h.len u.1.rws u.1.len u.2.2 hi)]
    exact hv y hy
/-- widths of two and of three flats across -/
theorem across_wid2 {a b : LLI} (ha : IsF p n a) (hb : IsF p n b) : widthsN p n [acrossN p n a, acrossN p n b] = [(n : Int) - a.length, (n : Int) - b.length, (n : Int) - a.length - b.length + (metN p n a b).length] := by
  have A := acrossN_isF ha
  have B := acrossN_isF hb
  have l1 := len_across ha
  have l2 := len_across hb
  have l3 := len_across (joinedN_isF ha.rws hb.rws)
  have l4 := len_join_met ha hb
  have e : metN p n (acrossN p n a) (acrossN p n b) = acrossN p n (joinedN p n a b) := (across_join ha hb).symm
  show [((acrossN p n a).length : Int), (acrossN p n b).length, (metN p n (acrossN p n a) (acrossN p n b)).length] = _
  rw [e]
  congr 1
  · omega
  · congr 1
    · omega
    · congr 1; omega
theorem across_met3 {a b c : LLI} (ha : IsF p n a) (hb : IsF p n b) (hc : IsF p n c) : (joinedN p n (acrossN p n a) (joinedN p n (acrossN p n b) (acrossN p n c))).length + (metN p n (metN p n a b) c).length = n := by
  have m := metN_isF hb hc
  have e1 : joinedN p n (acrossN p n b) (acrossN p n c) = acrossN p n (metN p n b c) := (across_met hb hc).symm
  have e2 : joinedN p n (acrossN p n a) (acrossN p n (metN p n b c)) = acrossN p n (metN p n a (metN p n b c)) := (across_met ha m).symm
  rw [e1, e2]
  have e3 : metN p n (metN p n a b) c = metN p n a (metN p n b c) := by
    refine IsF.ext (metN_isF (metN_isF ha hb) hc) (metN_isF ha m) fun v => ?_
    rw [metN_cap (metN_isF ha hb) hc, metN_cap ha m]
    unfold Cap
    rw [metN_cap ha hb, metN_cap hb hc]
    unfold Cap
    exact and_assoc
  rw [e3]
  exact len_across (metN_isF ha m)
theorem across_join3 {a b c : LLI} (ha : IsF p n a) (hb : IsF p n b) (hc : IsF p n c) : (metN p n (metN p n (acrossN p n a) (acrossN p n b)) (acrossN p n c)).length + (joinedN p n a (joinedN p n b c)).length = n := by
  have h := across_met3 (acrossN_isF ha) (acrossN_isF hb) (acrossN_isF hc)
  rw [across2 ha, across2 hb, across2 hc] at h
  omega
end
end FR

/-! chains -/
namespace FR
open PySem LA Lean.Grind
def chL (n : Nat) (c : Nat → LLI) : List LLI := (List.range (n + 1)).map c
theorem ch_len {n : Nat} {c : Nat → LLI} : (chL n c).length = n + 1 := by simp [chL]
theorem ch_get {n : Nat} {c : Nat → LLI} {i : Nat} {f : LLI} (h : (chL n c)[i]? = some f) : i ≤ n ∧ f = c i := by
  unfold chL at h
  rw [List.getElem?_map] at h
  by_cases hi : i < n + 1
  · rw [List.getElem?_range hi] at h
    exact ⟨by omega, (Option.some.inj h).symm⟩
  · rw [List.getElem?_eq_none (by simpa using hi)] at h
    cases h
theorem ch_mem {n : Nat} {c : Nat → LLI} {f : LLI} (h : f ∈ chL n c) : ∃ w, w ≤ n ∧ f = c w := by
  obtain ⟨w, hw, rfl⟩ := List.mem_map.mp h
  exact ⟨w, by have := List.mem_range.mp hw; omega, rfl⟩
theorem ch_zipIdx {n : Nat} {c : Nat → LLI} {z : LLI × Nat} (h : z ∈ (chL n c).zipIdx) : z.2 ≤ n ∧ z.1 = c z.2 := by
  have := List.mem_zipIdx_iff_getElem?.mp h
  exact ch_get this
theorem ch_zip {n : Nat} {c : Nat → LLI} {z : LLI × LLI} (h : z ∈ (chL n c).zip ((chL n c).drop 1)) : ∃ w, w < n ∧ z = (c w, c (w + 1)) := by
  obtain ⟨i, hi, rfl⟩ := List.mem_iff_getElem.mp h
  rw [List.length_zip, List.length_drop, ch_len] at hi
  refine ⟨i, by omega, ?_⟩
  rw [List.getElem_zip, List.getElem_drop]
  have h1 := ch_get (n := n) (c := c) (i := i) (List.getElem?_eq_getElem (by rw [ch_len]; omega))
  have h2 := ch_get (n := n) (c := c) (i := 1 + i) (List.getElem?_eq_getElem (by rw [ch_len]; omega))
  rw [h1.2, h2.2, Nat.add_comm 1 i]
theorem ch_rev {n : Nat} {c : Nat → LLI} : (chL n c).reverse = chL n fun w => c (n - w) := by
  refine List.ext_getElem (by rw [List.length_reverse, ch_len, ch_len]) fun i h1 h2 => ?_
  rw [ch_len] at h2
  rw [List.getElem_reverse]
  have g1 := ch_get (n := n) (c := c) (i := (chL n c).length - 1 - i) (List.getElem?_eq_getElem (by rw [ch_len]; omega))
  have g2 := ch_get (n := n) (c := fun w => c (n - w)) (i := i) (List.getElem?_eq_getElem (by rw [ch_len]; omega))
  rw [g1.2, g2.2]
  show c _ = c _
  congr 1
  rw [ch_len]; omega
section
variable {p : Nat} [hp : Pm p] {n : Nat}
structure Chn (p : Nat) [Pm p] (n : Nat) (c : Nat → LLI) : Prop where
  isF : ∀ w ≤ n, IsF p n (c w)
  len : ∀ w ≤ n, (c w).length = w
  sub : ∀ w < n, ∀ v, SpI p (c w) v → SpI p (c (w + 1)) v
theorem Chn.join {c : Nat → LLI} (h : Chn p n c) {w : Nat} (hw : w < n) : formN p n (c w ++ c (w + 1)) = c (w + 1) := by
  have F1 := h.isF w (by omega)
  have F2 := h.isF (w + 1) (by omega)
  refine formN_eq (rws_app F1.rws F2.rws) F2 ?_
  rw [SameI, List.map_append]
  refine Same.of (fun r hr => Sp.mem (List.mem_append_right _ hr)) fun r hr => ?_
  rcases List.mem_append.mp hr with hr | hr
  · exact h.sub w hw r (Sp.mem hr)
  · exact Sp.mem hr
theorem Chn.across {c : Nat → LLI} (h : Chn p n c) : Chn p n fun w => acrossN p n (c (n - w)) := by
  refine ⟨fun w hw => acrossN_isF (h.isF _ (by omega)), fun w hw => ?_, fun w hw v hv => ?_⟩
  · have := len_across (h.isF (n - w) (by omega))
    have := h.len (n - w) (by omega)
    omega
  · have F1 := h.isF (n - w) (by omega)
    have F2 := h.isF (n - (w + 1)) (by omega)
    refine (acrossN_perp F2 v).mpr (Perp.anti (fun u hu => ?_) ((acrossN_perp F1 v).mp hv))
    have := h.sub (n - (w + 1)) (by omega) u hu
    rwa [show n - (w + 1) + 1 = n - w by omega] at this
theorem across_ch {c : Nat → LLI} : ((chL n c).reverse).map (acrossN p n) = chL n fun w => acrossN p n (c (n - w)) := by
  rw [ch_rev]
  unfold chL
  rw [List.map_map]; rfl
theorem Chn.across2 {c : Nat → LLI} (h : Chn p n c) : chL n (fun w => acrossN p n (acrossN p n (c (n - (n - w))))) = chL n c := by
  refine List.map_congr_left fun w hw => ?_
  have hw : w ≤ n := by have := List.mem_range.mp hw; omega
  rw [show n - (n - w) = w by omega, FR.across2 (h.isF w hw)]
/-- the flats of a table's first rows -/
def chN (p n : Nat) (T : LLI) (w : Nat) : LLI := formN p n (T.take w)
theorem Tab.chain {T : LLI} (h : Tab p n T) : Chn p n (chN p n T) := by
  have rt : ∀ w, Rws p n (T.take w) := fun w r hr => h.rws r (List.mem_of_mem_take hr)
  have rd : ∀ w, Rws p n (T.drop w) := fun w r hr => h.rws r (List.mem_of_mem_drop hr)
  refine ⟨fun w _ => formN_isF (rt w), fun w hw => ?_, fun w hw v hv => ?_⟩
  · unfold chN
    rw [formN_len (rt w)]
    have l1 : wI p n (T.take w) ≤ ((T.take w).map (vec p)).length := wd_len (vec_su' (rt w))
    have l2 : wI p n (T.drop w) ≤ ((T.drop w).map (vec p)).length := wd_len (vec_su' (rd w))
    have s := sum_cap (n := n) (U := SpI p (T.take w)) (rs := (T.drop w).map (vec p)) (Sp.sbs _) (SpI.su (rt w)) (vec_su' (rd w))
    have e : LA.wd n (Sum (SpI p (T.take w)) (Sp ((T.drop w).map (vec p)))) = wI p n T := by
      refine wd_same fun v => ?_
      unfold SpI
      rw [sum_sp, ← List.map_append, List.take_append_drop]
    rw [e, h.wd] at s
    have l3 := h.len
    unfold wI SpI at l1 l2
    unfold wI SpI
    unfold SpI at s
    rw [List.length_map, List.length_take] at l1
    rw [List.length_map, List.length_drop] at l2
    omega
  · unfold chN at hv ⊢
    have := (formN_same (rt w) v).mp hv
    refine (formN_same (rt (w + 1)) v).mpr (Sp.mono (fun r hr => ?_) this)
    obtain ⟨o, ho, rfl⟩ := List.mem_map.mp hr
    refine List.mem_map_of_mem ?_
    have : T.take w = (T.take (w + 1)).take w := by rw [List.take_take]; congr 1; omega
    rw [this] at ho
    exact List.mem_of_mem_take ho
end
end FR

namespace FR
open PySem LA
open Da (dd)
variable {fs : List FI} {N d : Nat}
section
variable {α ι : Type} [Da α] [Nf α] {P : Prog} {env : En} {ik : IK} {a b c e : CE} {tg : List Nat} {xs : List ι} {t : ι → D} {w : List Nat}
theorem lcL_mapV {ι : Type} (f : D → R (Option (D × Own × List Nat))) (t : ι → D) (g : ι → D) (w : ι → List Nat) : ∀ xs : List ι, (∀ x ∈ xs, f (t x) = .ok (some (g x, .sh, w x))) → lcL f (xs.map t) = .ok (xs.map g, xs.isEmpty, (xs.map w).flatten)
  | [], _ => rfl
  | x :: xs, h => by
    rw [List.map_cons, lcL, h x (by simp), b_ok, lcL_mapV f t g w xs fun y hy => h y (by simp [hy])]
    rfl
theorem e_lcsv {g : ι → α} {v : ι → List Nat} {x : List α} (hi : Its P env ik a b xs t w) (hl : xs.length ≤ LIM) (h : ∀ x ∈ xs, elem P e c tg env (t x) = .ok (some (dd (g x), .sh, v x))) (hx : xs.map g = x) :
    evE P (.lc e tg ik a b c) env = .ok (dd x, if xs.isEmpty then .deep else .top, if xs.isEmpty then [] else ((xs.map v).flatten.filter (fun i => !tg.contains i)) ++ w) := by
  rw [← hx]
  obtain ⟨x, o, u, y, o', u', h1, h2, h3, h4⟩ := hi
  rw [evE, h1, b_ok, h2, b_ok, h3, b_ok, if_neg (by rw [List.length_map]; omega)]
  show (lcL (elem P e c tg env) (xs.map t)).b _ = _
  rw [lcL_mapV (elem P e c tg env) t (fun x => dd (g x)) v xs h, b_ok]
  show (if xs.isEmpty = true then _ else R.ok (newL .lst (xs.map fun x => dd (g x)) .sh _)) = _
  rw [show (xs.map fun x => dd (g x)) = (xs.map g).map dd by rw [List.map_map]; rfl, newL_n, ← h4]
  cases xs <;> rfl
end
theorem check_chain_sp [hf : H_check_chain fs] [Ins fs] [Flt fs] {p n : Nat} {c : Nat → LLI} [Pm p] (hp : Ro p) (hn : n ≤ 6) (h : Chn p n c) :
    (pgOf fs N (d + 5)).fn i_check_chain [dd (p : Int), dd (n : Int), dd (chL n c)] = .ok (.non, true) := by
  have cl : (chL n c).length = n + 1 := ch_len
  refine fn_nx hf [dv (p : Int), dv (n : Int), sv (chL n c), none, none, none, none] [dv (p : Int), dv (n : Int), sv (chL n c), none, none, none, none] rfl rfl ?_
  refine ss_iff (e_or (e_not (e_isin (e_vn rfl) rfl)) fun hc => (e_ne (e_len (e_vn rfl)) (e_add (e_vf rfl) e_ki))) ?_ ?_
  · simp [cl]
  refine ss_for [dv (p : Int), dv (n : Int), sv (chL n c), none, none, none, none] (it_enm (e_vn rfl)) rfl (for_stay _ fun z hz => ?_) ?_
  · obtain ⟨h1, h2⟩ := ch_zipIdx hz
    have F := h.isF z.2 h1
    have l := h.len z.2 h1
    rw [← h2] at F l
    refine bdn [dv (p : Int), dv (n : Int), sv (chL n c), dv (z.2 : Int), sv z.1, none, none] [dv (p : Int), dv (n : Int), sv (chL n c), dv (z.2 : Int), sv z.1, none, none] rfl rfl ?_ rfl
    refine ss_iff (e_or (e_not (e_callf (es_cons (e_vf rfl) (es_cons (e_vf rfl) (es_cons (e_vn rfl) es_nil))) (is_flat_sp hp (by omega) ?_ ?_))) fun hc => (e_ne (e_len (e_vn rfl)) (e_vf rfl))) ?_ ss_nil
    · intro r hr
      have := (F.rws r hr).1
      unfold LIM; omega
    · unfold LIM; omega
    · simp [isFlatN_iff.mpr F, l]
  refine ss_iff (e_not (e_all (e_lc (it_zip (e_vn rfl) (e_sln (e_vn rfl) (b_some e_ki rfl) b_nil)) ?_ (fun z hz => el_k [sv (p : Int), sv (n : Int), sv (chL n c), none, none, sv z.1, sv z.2] rfl rfl (e_callf (es_cons (e_vf rfl) (es_cons (e_vf rfl) (es_cons (e_vn rfl) (es_cons (e_vn rfl) es_nil)))) (is_inside_sp hp (by omega) ?_ ?_ ?_)))))) ?_ ss_nil
  · rw [List.length_zip]; unfold LIM; omega
  · rw [show (1 : Int) = ((1 : Nat) : Int) from rfl, cut_from] at hz
    obtain ⟨w, hw, rfl⟩ := ch_zip hz
    exact (h.isF w (by omega)).rws
  · rw [show (1 : Int) = ((1 : Nat) : Int) from rfl, cut_from] at hz
    obtain ⟨w, hw, rfl⟩ := ch_zip hz
    have := h.len w (by omega)
    show (c w).length ≤ 1000000
    omega
  · rw [show (1 : Int) = ((1 : Nat) : Int) from rfl, cut_from] at hz
    obtain ⟨w, hw, rfl⟩ := ch_zip hz
    exact h.isF (w + 1) (by omega)
  · rw [show (1 : Int) = ((1 : Nat) : Int) from rfl, cut_from]
    have e : (((chL n c).zip ((chL n c).drop 1)).map fun z => insideN p n z.1 z.2).all id = true := by
      rw [List.all_eq_true]
      intro b hb
      obtain ⟨z, hz, rfl⟩ := List.mem_map.mp hb
      obtain ⟨w, hw, rfl⟩ := ch_zip hz
      exact (insideN_iff (h.isF w (by omega)).rws (h.isF (w + 1) (by omega))).mpr (h.sub w hw)
    rw [e]; rfl
theorem chain_of_sp [hf : H_chain_of fs] [H_check_table fs] [Base fs] {p n : Nat} {T : LLI} (hp : Ro p) (hn : 1 ≤ n ∧ n ≤ 6) (h : Tab p n T) :
    (pgOf fs N (d + 4)).fn i_chain_of [dd (p : Int), dd (n : Int), dd T] = .ok (dd (chL n (chN p n T)), true) := by
  have := (pm_of hp.pm).1
  have hl := h.len
  refine fn_rt hf [dv (p : Int), dv (n : Int), sv T, none] rfl rfl ?_
  refine ss_ex (e_call0 (es_cons (e_vf rfl) (es_cons (e_vf rfl) es_nil)) (check_room_sp hp hn)) ?_
  refine ss_ex (e_call0 (es_cons (e_vf rfl) (es_cons (e_vf rfl) (es_cons (e_vn rfl) es_nil))) (check_table_sp hp (by omega) h)) ?_
  refine (ss_ret (e_lcx (g := fun w => chN p n T w) (x := chL n (chN p n T)) (it_rng1 (e_add (e_vf rfl) e_ki) ?_) ?_ (fun z hz => el_k [sv (p : Int), sv (n : Int), sv T, dv (z : Int)] rfl rfl (e_calln (es_cons (e_vf rfl) (es_cons (e_vf rfl) (es_cons (e_sln (e_vn rfl) b_nil (b_some (e_vf rfl) rfl)) es_nil))) ?_)) ?_)).trans rfl
  · omega
  · simp; unfold LIM; omega
  · rw [cut_to]
    exact form_of_sp hp (by omega) (fun r hr => h.rws r (List.mem_of_mem_take hr)) (by rw [List.length_take]; omega)
  · rw [show ((n : Int) + 1).toNat = n + 1 by omega]; rfl
theorem across_chain_sp [hf : H_across_chain fs] [H_check_chain fs] [Ins fs] [Acr fs] {p n : Nat} {c : Nat → LLI} [Pm p] (hp : Ro p) (hn : 1 ≤ n ∧ n ≤ 6) (h : Chn p n c) :
    (pgOf fs N (d + 6)).fn i_across_chain [dd (p : Int), dd (n : Int), dd (chL n c)] = .ok (dd (chL n fun w => acrossN p n (c (n - w))), true) := by
  have cl : (chL n c).length = n + 1 := ch_len
  refine fn_rt hf [dv (p : Int), dv (n : Int), sv (chL n c), none] rfl rfl ?_
  refine ss_ex (e_call0 (es_cons (e_vf rfl) (es_cons (e_vf rfl) es_nil)) (check_room_sp hp hn)) ?_
  refine ss_ex (e_call0 (es_cons (e_vf rfl) (es_cons (e_vf rfl) (es_cons (e_vn rfl) es_nil))) (check_chain_sp hp (by omega) h)) ?_
  refine (ss_ret (e_lcx (it_lst (e_revn (e_vn rfl))) ?_ (fun z hz => el_k [sv (p : Int), sv (n : Int), sv (chL n c), sv z] rfl rfl (e_calln (es_cons (e_vf rfl) (es_cons (e_vf rfl) (es_cons (e_vn rfl) es_nil))) (across_of_sp hp (by omega) ?_))) across_ch)).trans rfl
  · rw [List.length_reverse]; unfold LIM; omega
  · obtain ⟨w, hw, rfl⟩ := ch_mem (List.mem_reverse.mp hz)
    exact h.isF w hw
theorem law_chain_sp [hf : H_law_chain fs] [H_law_form fs] [H_law_less fs] {p n : Nat} {T : LLI} (hp : Ro p) (hn : n ≤ 6) (h : Rws p n T) (hl : T.length = n) :
    (pgOf fs N (d + 3)).fn i_law_chain [dd (p : Int), dd T] = .ok (dd (chL n (chN p n T)), false) := by
  have := (pm_of hp.pm).1
  refine fn_rt hf [dv (p : Int), sv T, none] rfl rfl ?_
  refine (ss_ret (e_lcsv (g := fun w => chN p n T w) (x := chL n (chN p n T)) (it_rng1 (e_add (e_len (e_vn rfl)) e_ki) ?_) ?_ (fun (z : Nat) hz => el_k [sv (p : Int), sv T, dv (z : Int)] rfl rfl (e_callsh (x := chN p n T z) (es_cons (e_vf rfl) (es_cons (e_sln (e_vn rfl) b_nil (b_some (e_vf rfl) rfl)) es_nil)) ?_)) ?_)).trans ?_
  · omega
  · simp; unfold LIM; omega
  · rw [cut_to]
    exact law_form_sp hp (by omega) (fun r hr => h r (List.mem_of_mem_take hr))
  · rw [show ((T.length : Int) + 1).toNat = n + 1 by omega]; rfl
  · have e : (List.range ((T.length : Int) + 1).toNat).isEmpty = false := by rw [show ((T.length : Int) + 1).toNat = n + 1 by omega]; simp
    rw [e]; rfl
end FR

namespace FR
open PySem LA
open Da (dd)
variable {fs : List FI} {N d : Nat}
/-! ### what answers show -/
def wiN (p n : Nat) (s : LI) (f : LLI) (row : LI) : Bool := isRowN p f.length s && decide (sumN p n f s = row)
theorem within_shows_sp [hf : H_Within_shows fs] [H_summed fs] [Base fs] {p n : Nat} {s row : LI} {f : LLI} (hp : Ro p) (hn : n ≤ 12) (hr : Rws p n f) (hl : s.length ≤ LIM) :
    (pgOf fs N (d + 3)).fn i_Within_shows [dd (Ans.wi s), dd (p : Int), dd (n : Int), dd f, dd row] = .ok (dd (wiN p n s f row), true) := by
  refine fn_rt hf [sv (Ans.wi s), dv (p : Int), dv (n : Int), sv f, sv row] rfl rfl ?_
  refine ss_if (e_not (e_callf (es_cons (e_vf rfl) (es_cons (e_len (e_vn rfl)) (es_cons (e_shares (e_vn rfl)) es_nil))) (is_row_sp hl))) (fun hc => ?_) (fun hc => ?_)
  · refine (ss_ret e_kb).trans ?_
    have : isRowN p f.length s = false := by simpa using hc
    simp [wiN, this]
  · refine (ss_ret (e_eq (e_calln (es_cons (e_vf rfl) (es_cons (e_vf rfl) (es_cons (e_vn rfl) (es_cons (e_shares (e_vn rfl)) es_nil)))) (summed_sp ⟨hp.pos, hp.le⟩ hr hn)) (e_vn rfl))).trans ?_
    have : isRowN p f.length s = true := by simpa using hc
    simp [wiN, this]
def baN (p n : Nat) (c : LI) (f : LLI) (row : LI) : Bool := isRowN p n c && !decide (prodN p c row = 0) && f.all fun z => decide (prodN p c z = 0)
theorem barred_shows_sp [hf : H_Barred_shows fs] [H_product fs] [Base fs] {p n : Nat} {c row : LI} {f : LLI} (hp : Ro p) (hn : n ≤ 12) (hr : Rws p n f) (hw : Rw p n row) (hf0 : f.length ≤ LIM) (hl : c.length ≤ LIM) :
    (pgOf fs N (d + 3)).fn i_Barred_shows [dd (Ans.ba c), dd (p : Int), dd (n : Int), dd f, dd row] = .ok (dd (baN p n c f row), true) := by
  refine fn_rt hf [sv (Ans.ba c), dv (p : Int), dv (n : Int), sv f, sv row, none] rfl rfl ?_
  refine ss_if (e_or (e_not (e_callf (es_cons (e_vf rfl) (es_cons (e_vf rfl) (es_cons (e_cross (e_vn rfl)) es_nil))) (is_row_sp hl))) fun hc => (e_eq (e_callf (es_cons (e_vf rfl) (es_cons (e_cross (e_vn rfl)) (es_cons (e_vn rfl) es_nil))) (product_sp ⟨hp.pos, hp.le⟩ hw hn)) e_ki)) (fun hc => ?_) (fun hc => ?_)
  · refine (ss_ret e_kb).trans ?_
    have : (isRowN p n c && !decide (prodN p c row = 0)) = false := by
      rw [Bool.or_eq_true] at hc
      rcases hc with hc | hc
      · simp at hc; simp [hc]
      · simp at hc; simp [hc]
    simp only [baN, this, Bool.false_and]
    rfl
  · refine (ss_ret (e_all (e_lc (it_lst (e_vn rfl)) hf0 (fun z hz => el_k [sv (Ans.ba c), sv (p : Int), sv (n : Int), sv f, sv row, sv z] rfl rfl (e_eq (e_callf (es_cons (e_vf rfl) (es_cons (e_cross (e_vn rfl)) (es_cons (e_vn rfl) es_nil))) (product_sp ⟨hp.pos, hp.le⟩ (hr z hz) hn)) e_ki))))).trans ?_
    rw [Bool.or_eq_false_iff] at hc
    have h1 : isRowN p n c = true := by simpa using hc.1
    have h2 : decide (prodN p c row = 0) = false := hc.2
    simp only [baN, h1, h2, Bool.true_and, Bool.not_false]
    rw [List.all_map]
    rfl
/-- a table, whatever it is -/
def isTabN (p n : Nat) (t : LLI) : Bool := decide (t.length = n) && t.all (isRowN p n) && !decide ((formN p n t).length < n)
def tuN (p n : Nat) (t : LLI) (flats others : List LLI) : Bool := isTabN p n t && (flats.zip others).all fun z => decide (turnN p n t z.1 = z.2)
theorem allrow {p n : Nat} {t : LLI} : t.all (isRowN p n) = true ↔ Rws p n t := by
  rw [List.all_eq_true]
  exact ⟨fun h r hr => isRowN_iff.mp (h r hr), fun h r hr => isRowN_iff.mpr (h r hr)⟩
theorem turned_shows_sp [hf : H_Turned_shows fs] [H_summed fs] [Base fs] {p n : Nat} {t : LLI} {flats others : List LLI} (hp : Ro p) (hn : n ≤ 12) (hl : t.length ≤ 1000) (hr : ∀ r ∈ t, r.length ≤ 1000) (hF : ∀ f ∈ flats, f.length ≤ 1000) :
    (pgOf fs N (d + 3)).fn i_Turned_shows [dd (Ans.tu t), dd (p : Int), dd (n : Int), dd flats, dd others] = .ok (dd (tuN p n t flats others), true) := by
  have := (pm_of hp.pm).1
  refine fn_rt hf [sv (Ans.tu t), dv (p : Int), dv (n : Int), sv flats, sv others, none, none, none, none] rfl rfl ?_
  refine ss_set (x := t) (fun table : LLI => [sv (Ans.tu t), dv (p : Int), dv (n : Int), sv flats, sv others, sv table, none, none, none]) (e_table (e_vn rfl)) (fun _ => rfl) fun table htable => ?_
  subst htable
  refine ss_if (e_or (e_ne (e_len (e_vn rfl)) (e_vf rfl)) fun hc => (e_not (e_all (e_lc (it_lst (e_vn rfl)) ?_ (fun z hz => el_k [sv (Ans.tu table), sv (p : Int), sv (n : Int), sv flats, sv others, sv table, sv z, none, none] rfl rfl (e_callf (es_cons (e_vf rfl) (es_cons (e_vf rfl) (es_cons (e_vn rfl) es_nil))) (is_row_sp ?_))))))) (fun hc => ?_) (fun hc => ?_)
  · unfold LIM; omega
  · have := hr z hz; unfold LIM; omega
  · refine (ss_ret e_kb).trans ?_
    have : (decide (table.length = n) && table.all (isRowN p n)) = false := by
      rw [Bool.or_eq_true] at hc
      rcases hc with hc | hc
      · have : ¬ table.length = n := by simp at hc; omega
        simp [this]
      · rw [Bool.not_eq_true', List.all_map] at hc
        have hc : table.all (isRowN p n) = false := hc
        rw [hc, Bool.and_false]
    simp only [tuN, isTabN, this, Bool.false_and]
    rfl
  rw [Bool.or_eq_false_iff] at hc
  have h1 : table.length = n := by have := hc.1; simp at this; omega
  have h2 : table.all (isRowN p n) = true := by
    have := hc.2
    rw [Bool.not_eq_false', List.all_map] at this
    exact this
  have hT := allrow.mp h2
  refine ss_if (e_lt (e_len (e_calln (es_cons (e_vf rfl) (es_cons (e_vf rfl) (es_cons (e_vn rfl) es_nil))) (form_of_sp hp hn hT (by omega)))) (e_vf rfl)) (fun hc => ?_) (fun hc => ?_)
  · refine (ss_ret e_kb).trans ?_
    have : (formN p n table).length < n := by simpa using hc
    simp [tuN, isTabN, this]
  have h3 : ¬ (formN p n table).length < n := by simpa using hc
  refine ss_forq (d := dd false) (fr := true) [sv (Ans.tu table), dv (p : Int), dv (n : Int), sv flats, sv others, sv table, none, none, none] (fun z => !decide (turnN p n table z.1 = z.2)) (it_zip (e_vn rfl) (e_vn rfl)) rfl (fun z hz => ?_) (fun ha => ?_) (fun ha => ?_)
  · refine bdq [sv (Ans.tu table), dv (p : Int), dv (n : Int), sv flats, sv others, sv table, none, sv z.1, sv z.2] [sv (Ans.tu table), dv (p : Int), dv (n : Int), sv flats, sv others, sv table, none, sv z.1, sv z.2] rfl rfl ?_ rfl
    have := hF z.1 (List.of_mem_zip hz).1
    refine ss_ifr (e_ne (e_calln (x := turnN p n table z.1) (es_cons (e_vf rfl) (es_cons (e_vf rfl) (es_cons (e_lc (it_lst (e_vn rfl)) ?_ (fun y hy => el_k [sv (Ans.tu table), sv (p : Int), sv (n : Int), sv flats, sv others, sv table, sv y, sv z.1, sv z.2] rfl rfl (e_calln (es_cons (e_vf rfl) (es_cons (e_vf rfl) (es_cons (e_vn rfl) (es_cons (e_vn rfl) es_nil)))) (summed_sp ⟨hp.pos, hp.le⟩ hT hn)))) es_nil))) ?_) (e_vn rfl)) (ss_ret e_kb) fun _ => ss_nil
    · unfold LIM; omega
    · exact form_of_sp hp hn (behN_rws (a := z.1) hT) (by rw [List.length_map]; omega)
  · have : ((flats.zip others).all fun z => decide (turnN p n table z.1 = z.2)) = false := by
      rw [← Bool.not_eq_true, List.all_eq_true]
      intro h
      obtain ⟨z, hz, q⟩ := List.any_eq_true.mp ha
      rw [h z hz] at q; cases q
    simp only [tuN, this, Bool.and_false]
  · refine (ss_ret e_kb).trans ?_
    have h4 : ((flats.zip others).all fun z => decide (turnN p n table z.1 = z.2)) = true := by
      rw [List.all_eq_true]
      intro z hz
      have := List.any_eq_false.mp ha z hz
      simpa using this
    simp only [tuN, isTabN, h4, h1, h2, h3, decide_true, decide_false, Bool.not_false, Bool.and_self]
def unN (p n : Nat) (i : Int) (flats others : List LLI) : Bool := decide (0 ≤ i) && decide (i < ((widthsN p n flats).length : Int)) && !decide ((widthsN p n flats).getD i.toNat 0 = (widthsN p n others).getD i.toNat 0)
theorem unlike_shows_sp [hf : H_Unlike_shows fs] [H_widths_of fs] [H_joined_of fs] [H_met_of fs] [Acr fs] {p n : Nat} {i : Int} {flats others : List LLI} (hp : Ro p) (hn : n ≤ 12) (h : IsFs p n flats) (h' : IsFs p n others) (hl : 0 < flats.length ∧ flats.length < 4) (hl' : others.length = flats.length) :
    (pgOf fs N (d + 6)).fn i_Unlike_shows [dd (Ans.un i), dd (p : Int), dd (n : Int), dd flats, dd others] = .ok (dd (unN p n i flats others), true) := by
  have wl : (widthsN p n others).length = (widthsN p n flats).length := by
    match flats, others, hl, hl' with
    | [_], [_], _, _ => rfl
    | [_, _], [_, _], _, _ => rfl
    | [_, _, _], [_, _, _], _, _ => rfl
    | [], _, hl, _ => simp at hl
    | _ :: _ :: _ :: _ :: _, _, hl, _ => simp at hl; omega
    | [_], [], _, hl' => simp at hl'
    | [_], _ :: _ :: _, _, hl' => simp at hl'
    | [_, _], [], _, hl' => simp at hl'
    | [_, _], [_], _, hl' => simp at hl'
    | [_, _], _ :: _ :: _ :: _, _, hl' => simp at hl'
    | [_, _, _], [], _, hl' => simp at hl'
    | [_, _, _], [_], _, hl' => simp at hl'
    | [_, _, _], [_, _], _, hl' => simp at hl'
    | [_, _, _], _ :: _ :: _ :: _ :: _, _, hl' => simp at hl'
  refine fn_rt hf [sv (Ans.un i), dv (p : Int), dv (n : Int), sv flats, sv others, none, none] rfl rfl ?_
  refine ss_par2 (fun (mine : LI) (theirs : LI) => [sv (Ans.un i), dv (p : Int), dv (n : Int), sv flats, sv others, dv mine, dv theirs]) (es_cons (e_calln (es_cons (e_vf rfl) (es_cons (e_vf rfl) (es_cons (e_vn rfl) es_nil))) (widths_of_sp hp hn h hl)) (es_cons (e_calln (es_cons (e_vf rfl) (es_cons (e_vf rfl) (es_cons (e_vn rfl) es_nil))) (widths_of_sp hp hn h' (by omega))) es_nil)) (fun _ _ => rfl) fun mine theirs hmine htheirs => ?_
  rw [← hmine, ← htheirs] at wl
  have ub : unN p n i flats others = (decide (0 ≤ i) && decide (i < (mine.length : Int)) && !decide (mine.getD i.toNat 0 = theirs.getD i.toNat 0)) := by rw [hmine, htheirs]; rfl
  rw [ub]
  refine (ss_ret (e_and (e_callf (es_cons (e_at (e_vn rfl)) es_nil) is_whole_sp) fun hc => (e_and (e_ch .le .lt e_ki (e_at (e_vn rfl)) (e_len (e_vn rfl))) fun hc => (e_ne (x := mine.getD (pix mine.length i) 0) (y := theirs.getD (pix theirs.length i) 0) (e_ixf 0 (e_vn rfl) (e_at (e_vn rfl)) ?_) (e_ixf 0 (e_vn rfl) (e_at (e_vn rfl)) ?_))))).trans ?_
  · simp only [cop, Bool.and_eq_true, decide_eq_true_eq] at hc
    omega
  · simp only [cop, Bool.and_eq_true, decide_eq_true_eq] at hc
    rw [wl]; omega
  · simp only [cop, Bool.true_and]
    by_cases hi : 0 ≤ i
    · have e1 : pix mine.length i = i.toNat := by unfold pix; rw [if_neg (by omega)]
      have e2 : pix theirs.length i = i.toNat := by unfold pix; rw [if_neg (by omega)]
      rw [e1, e2]; rfl
    · have : decide (0 ≤ i) = false := by simp; omega
      rw [this]; rfl
/-- the rows whose number is less than the width -/
def someN (b : LLI) (r : LI) (w : Nat) : LLI := ((b.zip r).filter fun z => decide (z.2 < (w : Int))).map (·.1)
def alN (p n : Nat) (b : LLI) (r : LI) (one other : List LLI) : Bool := decide (b.length = n) && b.all (isRowN p n) && decide (sortInts r = (List.range n).map fun k : Nat => (k : Int)) && (List.range (n + 1)).all fun w => decide (formN p n (b.take w) = one.getD w []) && decide (formN p n (someN b r w) = other.getD w [])
theorem someN_rws {p n w : Nat} {b : LLI} {r : LI} (h : Rws p n b) : Rws p n (someN b r w) := fun x hx => by
  obtain ⟨z, hz, rfl⟩ := List.mem_map.mp hx
  exact h _ (List.of_mem_zip (List.mem_filter.mp hz).1).1
theorem someN_len {w : Nat} {b : LLI} {r : LI} : (someN b r w).length ≤ b.length := by
  unfold someN
  rw [List.length_map]
  refine Nat.le_trans (List.length_filter_le _ _) ?_
  rw [List.length_zip]; omega
theorem along_shows_sp [hf : H_Along_shows fs] [Base fs] {p n : Nat} {b : LLI} {r : LI} {one other : List LLI} (hp : Ro p) (hn : n ≤ 12) (hl : b.length ≤ 1000) (hr : ∀ r ∈ b, r.length ≤ 1000) (h1 : one.length = n + 1) (h2 : other.length = n + 1) :
    (pgOf fs N (d + 3)).fn i_Along_shows [dd (Ans.al b r), dd (p : Int), dd (n : Int), dd one, dd other] = .ok (dd (alN p n b r one other), true) := by
  refine fn_rt hf [sv (Ans.al b r), dv (p : Int), dv (n : Int), sv one, sv other, none, none, none, none, none, none] rfl rfl ?_
  refine ss_par2 (x := b) (y := r) (fun (base : LLI) (order : LI) => [sv (Ans.al b r), dv (p : Int), dv (n : Int), sv one, sv other, sv base, sv order, none, none, none, none]) (es_cons (e_base (e_vn rfl)) (es_cons (e_order (e_vn rfl)) es_nil)) (fun _ _ => rfl) fun base order hbase horder => ?_
  subst hbase horder
  refine ss_if (e_or (e_ne (e_len (e_vn rfl)) (e_vf rfl)) fun hc => (e_not (e_all (e_lc (it_lst (e_vn rfl)) ?_ (fun z hz => el_k [sv (Ans.al base order), sv (p : Int), sv (n : Int), sv one, sv other, sv base, sv order, sv z, none, none, none] rfl rfl (e_callf (es_cons (e_vf rfl) (es_cons (e_vf rfl) (es_cons (e_vn rfl) es_nil))) (is_row_sp ?_))))))) (fun hc => ?_) (fun hc => ?_)
  · unfold LIM; omega
  · have := hr z hz; unfold LIM; omega
  · refine (ss_ret e_kb).trans ?_
    have : (decide (base.length = n) && base.all (isRowN p n)) = false := by
      rw [Bool.or_eq_true] at hc
      rcases hc with hc | hc
      · have : ¬ base.length = n := by simp at hc; omega
        simp [this]
      · rw [Bool.not_eq_true', List.all_map] at hc
        have hc : base.all (isRowN p n) = false := hc
        rw [hc, Bool.and_false]
    simp only [alN, this, Bool.false_and]
    rfl
  rw [Bool.or_eq_false_iff] at hc
  have q1 : base.length = n := by have := hc.1; simp at this; omega
  have q2 : base.all (isRowN p n) = true := by
    have := hc.2
    rw [Bool.not_eq_false', List.all_map] at this
    exact this
  have hB := allrow.mp q2
  refine ss_if (e_ne (e_srti (e_vn rfl)) (e_rngL (e_vf rfl) (by omega))) (fun hc => ?_) (fun hc => ?_)
  · refine (ss_ret e_kb).trans ?_
    have : decide (sortInts order = (List.range n).map fun k : Nat => (k : Int)) = false := by simpa using hc
    simp only [alN, this, Bool.and_false, Bool.false_and]
    rfl
  have q3 : decide (sortInts order = (List.range n).map fun k : Nat => (k : Int)) = true := by simpa using hc
  refine ss_forq (d := dd false) (fr := true) [sv (Ans.al base order), dv (p : Int), dv (n : Int), sv one, sv other, sv base, sv order, none, none, none, none] (fun w => !(decide (formN p n (base.take w) = one.getD w []) && decide (formN p n (someN base order w) = other.getD w []))) (it_rng1 (e_add (e_vf rfl) e_ki) (by omega)) rfl (fun w hw => ?_) (fun ha => ?_) (fun ha => ?_)
  · have hw : w ≤ n := by
      simp at hw; omega
    have ec : cutL base none (some (w : Int)) = base.take w := by rw [cut_to]
    have c1 := someN_len (w := w) (b := base) (r := order)
    refine bdq [sv (Ans.al base order), dv (p : Int), dv (n : Int), sv one, sv other, sv base, sv order, none, dv (w : Int), none, none] [sv (Ans.al base order), dv (p : Int), dv (n : Int), sv one, sv other, sv base, sv order, none, dv (w : Int), some (.val (dd (someN base order w)) (if (someN base order w).isEmpty then .deep else .top)), none] rfl rfl ?_ rfl
    rw [Bool.not_and, ← ifif]
    have g1 : one.getD (pix one.length (w : Int)) [] = one.getD w [] := by rw [pixn]
    have g2 : other.getD (pix other.length (w : Int)) [] = other.getD w [] := by rw [pixn]
    have ix1 : -(one.length : Int) ≤ (w : Int) ∧ (w : Int) < one.length := by omega
    have ix2 : -(other.length : Int) ≤ (w : Int) ∧ (w : Int) < other.length := by omega
    have f1 : (pgOf fs N (d + 2)).fn i_form_of [dd (p : Int), dd (n : Int), dd (cutL base none (some (w : Int)))] = .ok (dd (formN p n (base.take w)), true) := by
      rw [ec]
      exact form_of_sp hp hn (fun r hr => hB r (List.mem_of_mem_take hr)) (by rw [List.length_take]; omega)
    have x1 := e_ne (P := pgOf fs N (d + 2)) (env := [sv (Ans.al base order), dv (p : Int), dv (n : Int), sv one, sv other, sv base, sv order, none, dv (w : Int), none, none]) (e_calln (x := formN p n (base.take w)) (es_cons (e_vf (i := 1) (x := (p : Int)) rfl) (es_cons (e_vf (i := 2) (x := (n : Int)) rfl) (es_cons (e_sln (xs := base) (e_vn (i := 5) rfl) b_nil (b_some (e_vf (i := 8) (x := (w : Int)) rfl) rfl)) es_nil))) f1) (e_ixn (xs := one) [] (e_vn (i := 3) rfl) (e_vf (i := 8) (x := (w : Int)) rfl) ix1)
    rw [g1] at x1
    refine ss_ifr x1 (ss_ret e_kb) fun _ => ?_
    refine ss_setx (x := someN base order w) (e_lcqs (α := LI) (g := fun z : LI × Int => z.1) (q := fun z : LI × Int => decide (z.2 < (w : Int))) (v := [7]) (it_zip (e_vn (x := base) rfl) (e_vn (x := order) rfl)) ?_ (fun z hz => el_q [sv (Ans.al base order), sv (p : Int), sv (n : Int), sv one, sv other, sv base, sv order, sv z.1, sv (w : Int), none, dv z.2] rfl rfl (e_lt (e_vf rfl) (e_vf rfl)) fun hq => (e_vn rfl))) (sto_new (us := [5, 6]) rfl (fun i hi => ?_) rfl) ?_
    · rw [List.length_zip]; unfold LIM; omega
    · rw [List.mem_append] at hi
      rcases hi with hi | hi
      · obtain ⟨h1, h2⟩ := List.mem_filter.mp hi
        obtain ⟨l, hl, hm⟩ := List.mem_flatten.mp h1
        obtain ⟨_, _, rfl⟩ := List.mem_map.mp hl
        simp at hm
        subst hm
        simp at h2
      · simpa using hi
    have eE : ((base.zip order).filter fun z => decide (z.2 < (w : Int))).isEmpty = (someN base order w).isEmpty := by
      unfold someN
      rw [List.isEmpty_map]
    rw [eE]
    have f2 : (pgOf fs N (d + 2)).fn i_form_of [dd (p : Int), dd (n : Int), dd (someN base order w)] = .ok (dd (formN p n (someN base order w)), true) := form_of_sp hp hn (someN_rws hB) (by omega)
    have x2 := e_ne (P := pgOf fs N (d + 2)) (env := [sv (Ans.al base order), dv (p : Int), dv (n : Int), sv one, sv other, sv base, sv order, none, dv (w : Int), some (.val (dd (someN base order w)) (if (someN base order w).isEmpty then .deep else .top)), none]) (e_calln (x := formN p n (someN base order w)) (es_cons (e_vf (i := 1) (x := (p : Int)) rfl) (es_cons (e_vf (i := 2) (x := (n : Int)) rfl) (es_cons (e_vn (i := 9) (x := someN base order w) rfl) es_nil))) f2) (e_ixn (xs := other) [] (e_vn (i := 4) rfl) (e_vf (i := 8) (x := (w : Int)) rfl) ix2)
    rw [g2] at x2
    exact ss_ifr x2 (ss_ret e_kb) fun _ => ss_nil
  · have : ((List.range (n + 1)).all fun w => decide (formN p n (base.take w) = one.getD w []) && decide (formN p n (someN base order w) = other.getD w [])) = false := by
      rw [← Bool.not_eq_true, List.all_eq_true]
      intro h
      obtain ⟨z, hz, q⟩ := List.any_eq_true.mp ha
      rw [h z (by simp at hz ⊢; omega)] at q; cases q
    simp only [alN, this, Bool.and_false]
  · refine (ss_ret e_kb).trans ?_
    have h4 : ((List.range (n + 1)).all fun w => decide (formN p n (base.take w) = one.getD w []) && decide (formN p n (someN base order w) = other.getD w [])) = true := by
      rw [List.all_eq_true]
      intro z hz
      have := List.any_eq_false.mp ha z (by simp at hz ⊢; omega)
      simpa using this
    simp only [alN, h4, q1, q2, q3, decide_true, Bool.and_self]
end FR

namespace FR
open PySem LA
open Da (dd)
variable {fs : List FI} {N d : Nat}
/-! ### how a row lies -/
def lieK (p n : Nat) (f : LLI) (row : LI) : Option Nat := (List.range n).find? fun k => !decide ((sumN p n f (sharesN f row)).getD k 0 = row.getD k 0)
def liesN (p n : Nat) (f : LLI) (row : LI) : Ans := match lieK p n f row with
  | some k => .ba (crossN p n f k)
  | none => .wi (sharesN f row)
theorem lies_sp [hf : H_lies fs] [H_Within___init__ fs] [H_Barred___init__ fs] [H_shares_of fs] [H_check_flat fs] [H_check_row fs] [H_summed fs] [H_cross_at fs] [H_corners_of fs] [Flt fs] {p n : Nat} {f : LLI} {row : LI} (hp : Ro p) (hn : 1 ≤ n ∧ n ≤ 6) (h : IsF p n f) (hr : Rw p n row) :
    (pgOf fs N (d + 5)).fn i_lies [dd (p : Int), dd (n : Int), dd f, dd row] = .ok (dd (liesN p n f row), true) := by
  have := (pm_of hp.pm).1
  have hl := h.len_le
  refine fn_rt hf [dv (p : Int), dv (n : Int), sv f, sv row, none, none, none] rfl rfl ?_
  refine ss_ex (e_call0 (es_cons (e_vf rfl) (es_cons (e_vf rfl) es_nil)) (check_room_sp hp hn)) ?_
  refine ss_ex (e_call0 (es_cons (e_vf rfl) (es_cons (e_vf rfl) (es_cons (e_vn rfl) es_nil))) (check_flat_sp hp (by omega) h)) ?_
  refine ss_ex (e_call0 (es_cons (e_vf rfl) (es_cons (e_vf rfl) (es_cons (e_vn rfl) es_nil))) (check_row_sp hr (by omega))) ?_
  refine ss_set (fun shares : LI => [dv (p : Int), dv (n : Int), sv f, sv row, dv shares, none, none]) (e_calln (es_cons (e_vn rfl) (es_cons (e_vn rfl) es_nil)) (shares_of_sp (by omega) h hr.1)) (fun _ => rfl) fun shares hshares => ?_
  refine ss_set (fun there : LI => [dv (p : Int), dv (n : Int), sv f, sv row, dv shares, dv there, none]) (e_calln (es_cons (e_vf rfl) (es_cons (e_vf rfl) (es_cons (e_vn rfl) (es_cons (e_vn rfl) es_nil)))) (summed_sp (ro31 hp) h.rws (by omega))) (fun _ => rfl) fun there hthere => ?_
  have ht : Rw p n there := by rw [hthere]; exact sumN_rw h.rws _
  have ek : lieK p n f row = (List.range n).find? fun k => !decide (there.getD k 0 = row.getD k 0) := by rw [hthere, hshares]; rfl
  refine ss_forf (fr := true) [dv (p : Int), dv (n : Int), sv f, sv row, dv shares, dv there, none] (fun k => if decide (there.getD k 0 = row.getD k 0) then none else some (dd (Ans.ba (crossN p n f k)))) (it_rng1 (e_vf rfl) (by omega)) rfl (fun k hk => ?_) (fun d hd => ?_) (fun hd => ?_)
  · have hk : k < n := by simpa using hk
    refine bdf (q := if decide (there.getD k 0 = row.getD k 0) then none else some (dd (Ans.ba (crossN p n f k)))) [dv (p : Int), dv (n : Int), sv f, sv row, dv shares, dv there, dv (k : Int)] [dv (p : Int), dv (n : Int), sv f, sv row, dv shares, dv there, dv (k : Int)] rfl rfl ?_ rfl
    have i1 : -(there.length : Int) ≤ (k : Int) ∧ (k : Int) < there.length := by rw [ht.1]; omega
    have i2 : -(row.length : Int) ≤ (k : Int) ∧ (k : Int) < row.length := by rw [hr.1]; omega
    have x1 := e_ne (P := pgOf fs N (d + 4)) (env := [dv (p : Int), dv (n : Int), sv f, sv row, dv shares, dv there, dv (k : Int)]) (e_ixf (xs := there) 0 (e_vn (i := 5) rfl) (e_vf (i := 6) (x := (k : Int)) rfl) i1) (e_ixf (xs := row) 0 (e_vn (i := 3) rfl) (e_vf (i := 6) (x := (k : Int)) rfl) i2)
    rw [pixn, pixn] at x1
    refine (ss_ifr x1 (ss_ret (e_nba (es_cons (e_calln (es_cons (e_vf rfl) (es_cons (e_vf rfl) (es_cons (e_vn rfl) (es_cons (e_vf rfl) es_nil)))) (cross_at_sp hp (by omega) h hk)) es_nil) barred_sp)) fun _ => ss_nil).trans ?_
    cases decide (there.getD k 0 = row.getD k 0) <;> rfl
  · rw [Int.toNat_natCast] at hd
    have : ∃ k, lieK p n f row = some k ∧ d = dd (Ans.ba (crossN p n f k)) := by
      rw [ek]
      generalize List.range n = l at hd
      induction l with
      | nil => simp at hd
      | cons x l ih =>
        rw [List.findSome?_cons] at hd
        rw [List.find?_cons]
        by_cases e : decide (there.getD x 0 = row.getD x 0) = true
        · rw [if_pos e] at hd
          rw [e]
          exact ih hd
        · rw [if_neg e] at hd
          simp only [Bool.not_eq_true] at e
          rw [e]
          exact ⟨x, rfl, (Option.some.inj hd).symm⟩
    obtain ⟨k, e1, rfl⟩ := this
    unfold liesN
    rw [e1]
  · rw [Int.toNat_natCast] at hd
    have : lieK p n f row = none := by
      rw [ek]
      rw [List.findSome?_eq_none_iff] at hd
      rw [List.find?_eq_none]
      intro k hk
      have := hd k hk
      by_cases e : decide (there.getD k 0 = row.getD k 0) = true
      · simp at e; simp [e]
      · rw [if_neg e] at this; cases this
    refine (ss_ret (e_nwi (es_cons (e_vn rfl) es_nil) within_sp)).trans ?_
    unfold liesN
    rw [this, hshares]
    rfl
/-- what is told is a list of few numbers -/
theorem lieK_some {p n k : Nat} {f : LLI} {row : LI} (h : lieK p n f row = some k) : k < n ∧ (sumN p n f (sharesN f row)).getD k 0 ≠ row.getD k 0 := by
  unfold lieK at h
  have h1 := List.mem_of_find?_eq_some h
  have h2 := List.find?_some h
  simp at h1 h2
  exact ⟨h1, h2⟩
theorem lieK_none {p n : Nat} {f : LLI} {row : LI} (hp : Ro p) (h : IsF p n f) (hr : Rw p n row) (e : lieK p n f row = none) : sumN p n f (sharesN f row) = row := by
  have := (pm_of hp.pm).1
  unfold lieK at e
  rw [List.find?_eq_none] at e
  refine vec_inj (sumN_rw h.rws _) hr fun i hi => ?_
  have := e i (by simpa using hi)
  simp at this
  unfold vec
  rw [List.getD_eq_getElem?_getD, List.getD_eq_getElem?_getD, this]
theorem crossN_len {p n k : Nat} {f : LLI} : (crossN p n f k).length = n := by
  unfold crossN
  have : ∀ (l : List (Int × LI)) (a : LI), (l.foldl (fun fd z => fd.set (pix fd.length z.1) (-(z.2.getD k 0) % p)) a).length = a.length := by
    intro l
    induction l with
    | nil => intro a; rfl
    | cons z l ih =>
      intro a
      rw [List.foldl_cons, ih, List.length_set]
  rw [this]
  simp
theorem sharesN_len {f : LLI} {row : LI} : (sharesN f row).length = f.length := by
  unfold sharesN cornN
  simp
theorem lies_some {p n : Nat} {f : LLI} {row : LI} (hp : Ro p) (h : IsF p n f) : ∃ sm : LI, sm.length ≤ n ∧ (liesN p n f row = .wi sm ∨ liesN p n f row = .ba sm) := by
  have := (pm_of hp.pm).1
  unfold liesN
  split
  · exact ⟨_, by rw [crossN_len]; exact Nat.le_refl _, .inr rfl⟩
  · exact ⟨_, by rw [sharesN_len]; exact h.len_le, .inl rfl⟩
theorem e_some {P : Prog} {env : En} {a : CE} {o : Own} {u : List Nat} {t : Ans} {sm : LI} (ht : t = .wi sm ∨ t = .ba sm) (h : evE P a env = .ok (dd t, o, u)) : evE P (.ife (.isin a (.cls 11)) (.attr a 0) (.attr a 1)) env = .ok (dd sm, .sh, u) := by
  rcases ht with rfl | rfl
  · exact (e_ife (z := sm) (e_isc h) (fun _ => e_shares h) fun z => by cases z).trans rfl
  · exact (e_ife (y := sm) (e_isc h) (fun z => by cases z) fun _ => e_cross h).trans rfl
theorem law_says_sp [hf : H_law_says fs] {a b : Bool} : (pgOf fs N (d + 1)).fn i_law_says [dd a, dd b] = .ok (dd (decide (a = b)), true) := by
  refine fn_rt hf [dv a, dv b] rfl rfl ?_
  refine (ss_ret (e_and (e_isin (e_vf rfl) rfl) fun _ => e_eq (e_vf rfl) (e_vf rfl))).trans ?_
  rfl
end FR

set_option maxRecDepth 100000
set_option maxHeartbeats 0
namespace LW
open PySem PySem.Spec L2 FR
def topS (i : Nat) : Stmt := PySem.Challenge.pw_flatroom_k04_lies_by_hand.main.body.getD i (.Pass ⟨0, 0, 0, 0⟩)
def mthS (i j : Nat) : Stmt := (clsStmts (topS i)).getD j (.Pass ⟨0, 0, 0, 0⟩)
def b0 : List CS := B_is_whole
def f0 : FI := ⟨"is_whole", "is_whole", topS 8, ["thing"], ["thing"], b0, none⟩
def b1 : List CS := B_check_room
def f1 : FI := ⟨"check_room", "check_room", topS 9, ["prime", "places"], ["prime", "places"], b1, none⟩
def b2 : List CS := B_is_row
def f2 : FI := ⟨"is_row", "is_row", topS 10, ["prime", "places", "thing", "one"], ["prime", "places", "thing"], b2, none⟩
def b3 : List CS := B_check_row
def f3 : FI := ⟨"check_row", "check_row", topS 11, ["prime", "places", "row"], ["prime", "places", "row"], b3, none⟩
def b4 : List CS := B_inverse
def f4 : FI := ⟨"inverse", "inverse", topS 12, ["prime", "number", "one"], ["prime", "number"], b4, none⟩
def b5 : List CS := B_often
def f5 : FI := ⟨"often", "often", topS 13, ["prime", "row", "number", "one"], ["prime", "row", "number"], b5, none⟩
def b6 : List CS := B_added
def f6 : FI := ⟨"added", "added", topS 14, ["prime", "row", "other", "number", "one", "two"], ["prime", "row", "other", "number"], b6, none⟩
def b7 : List CS := B_summed
def f7 : FI := ⟨"summed", "summed", topS 15, ["prime", "places", "rows", "shares", "found", "row", "share"], ["prime", "places", "rows", "shares"], b7, none⟩
def b8 : List CS := B_product
def f8 : FI := ⟨"product", "product", topS 16, ["prime", "row", "other", "one", "two"], ["prime", "row", "other"], b8, none⟩
def b9 : List CS := B_form_of
def f9 : FI := ⟨"form_of", "form_of", topS 18, ["prime", "places", "rows", "left", "found", "row", "place", "some", "at", "other"], ["prime", "places", "rows"], b9, none⟩
def b10 : List CS := B_corners_of
def f10 : FI := ⟨"corners_of", "corners_of", topS 19, ["flat", "place", "number", "row"], ["flat"], b10, none⟩
def b11 : List CS := B_is_flat
def f11 : FI := ⟨"is_flat", "is_flat", topS 20, ["prime", "places", "thing", "row"], ["prime", "places", "thing"], b11, none⟩
def b12 : List CS := B_check_flat
def f12 : FI := ⟨"check_flat", "check_flat", topS 21, ["prime", "places", "flat"], ["prime", "places", "flat"], b12, none⟩
def b16 : List CS := B_shares_of
def f16 : FI := ⟨"shares_of", "shares_of", topS 23, ["flat", "row", "corner"], ["flat", "row"], b16, none⟩
def b17 : List CS := B_cross_at
def f17 : FI := ⟨"cross_at", "cross_at", topS 24, ["prime", "places", "flat", "place", "found", "corner", "row"], ["prime", "places", "flat", "place"], b17, none⟩
def b30 : List CS := B_lies
def f30 : FI := ⟨"lies", "lies", topS 30, ["prime", "places", "flat", "row", "shares", "there", "place"], ["prime", "places", "flat", "row"], b30, none⟩
def b72 : List CS := B_law_number
def f72 : FI := ⟨"_law_number", "_law_number", topS 32, ["_law_cell", "_law_at", "_law_whole_here", "_law_mixed", "_law_more"], ["_law_cell", "_law_at", "_law_whole_here"], b72, none⟩
def b73 : List CS := B_law_room
def f73 : FI := ⟨"_law_room", "_law_room", topS 33, ["_law_script", "_law_most", "_law_whole_here", "_law_prime"], ["_law_script", "_law_most"], b73, none⟩
def b74 : List CS := B_law_rows
def f74 : FI := ⟨"_law_rows", "_law_rows", topS 34, ["_law_script", "_law_prime", "_law_places", "_law_by", "_law_many", "_law_given", "_law_whole_here", "_law_found", "_law_at", "_law_number_here", "_law_row", "_law_place", "_law_one"], ["_law_script", "_law_prime", "_law_places", "_law_by", "_law_many"], b74, none⟩
def b75 : List CS := B_law_less
def f75 : FI := ⟨"_law_less", "_law_less", topS 35, ["_law_prime", "_law_row", "_law_other", "_law_number_here", "_law_one", "_law_two"], ["_law_prime", "_law_row", "_law_other", "_law_number_here"], b75, none⟩
def b76 : List CS := B_law_form
def f76 : FI := ⟨"_law_form", "_law_form", topS 36, ["_law_prime", "_law_rows_here", "_law_found", "_law_row", "_law_line", "_law_spots", "_law_place", "_law_one", "_law_times"], ["_law_prime", "_law_rows_here"], b76, none⟩
def b78 : List CS := B_law_whole
def f78 : FI := ⟨"_law_whole", "_law_whole", topS 38, ["_law_found"], ["_law_found"], b78, none⟩
def b79 : List CS := B_law_is_row
def f79 : FI := ⟨"_law_is_row", "_law_is_row", topS 39, ["_law_prime", "_law_places", "_law_found", "_law_one"], ["_law_prime", "_law_places", "_law_found"], b79, none⟩
def b80 : List CS := B_law_sum
def f80 : FI := ⟨"_law_sum", "_law_sum", topS 41, ["_law_prime", "_law_places", "_law_rows_here", "_law_shares", "_law_found", "_law_row", "_law_share"], ["_law_prime", "_law_places", "_law_rows_here", "_law_shares"], b80, none⟩
def b81 : List CS := B_law_flat
def f81 : FI := ⟨"_law_flat", "_law_flat", topS 37, ["_law_script", "_law_prime", "_law_places", "_law_by", "_law_given", "_law_many"], ["_law_script", "_law_prime", "_law_places", "_law_by"], b81, none⟩
def b82 : List CS := B_law_product
def f82 : FI := ⟨"_law_product", "_law_product", topS 40, ["_law_prime", "_law_row", "_law_other", "_law_one", "_law_two"], ["_law_prime", "_law_row", "_law_other"], b82, none⟩
def b83 : List CS := B_law_says
def f83 : FI := ⟨"_law_says", "_law_says", topS 42, ["_law_said", "_law_due"], ["_law_said", "_law_due"], b83, none⟩
def b98 : List CS := B_Within___init__
def f98 : FI := ⟨Str.empty, "Within.__init__", mthS 27 0, ["self", "shares"], ["self", "shares"], b98, some (11, "__init__")⟩
def b99 : List CS := B_Within_shows
def f99 : FI := ⟨Str.empty, "Within.shows", mthS 27 1, ["self", "prime", "places", "flat", "row"], ["self", "prime", "places", "flat", "row"], b99, some (11, "shows")⟩
def b100 : List CS := B_Barred___init__
def f100 : FI := ⟨Str.empty, "Barred.__init__", mthS 28 0, ["self", "cross"], ["self", "cross"], b100, some (12, "__init__")⟩
def b101 : List CS := B_Barred_shows
def f101 : FI := ⟨Str.empty, "Barred.shows", mthS 28 1, ["self", "prime", "places", "flat", "row", "other"], ["self", "prime", "places", "flat", "row"], b101, some (12, "shows")⟩
def b110 : List CS := [.set 5 (.list (.v 4)), .set 6 (.new 11 [.v 5]), .app 5 (.k (.int 0)), .set 7 (.an (.call 79 [.v 0, .len (.v 2), .v 4]) (.cmp .eq (.call 80 [.v 0, .v 1, .v 2, .v 4]) (.v 3))), .ret (.an (.cmp .eq (.attr (.v 6) 0) (.v 4)) (.call 83 [.meth 0 (.v 6) [.v 0, .v 1, .v 2, .v 3], .v 7]))]
def f110 : FI := ⟨"_law_shares_right", "_law_shares_right", topS 43, ["_law_prime", "_law_places", "_law_flat_here", "_law_row", "_law_some", "_law_handed", "_law_answer", "_law_due"], ["_law_prime", "_law_places", "_law_flat_here", "_law_row", "_law_some"], b110, none⟩
def b111 : List CS := [.set 5 (.list (.v 4)), .set 6 (.new 12 [.v 5]), .app 5 (.k (.int 0)), .set 7 (.an (.call 79 [.v 0, .v 1, .v 4]) (.cmp .ne (.call 82 [.v 0, .v 4, .v 3]) (.k (.int 0)))), .set 7 (.an (.v 7) (.nt (.any (.lc (.call 82 [.v 0, .v 4, .v 8]) [8] .lst (.v 2) (.nil) (.k (.bl true)))))), .ret (.an (.cmp .eq (.attr (.v 6) 1) (.v 4)) (.call 83 [.meth 0 (.v 6) [.v 0, .v 1, .v 2, .v 3], .v 7]))]
def f111 : FI := ⟨"_law_cross_right", "_law_cross_right", topS 44, ["_law_prime", "_law_places", "_law_flat_here", "_law_row", "_law_some", "_law_handed", "_law_answer", "_law_due", "_law_line"], ["_law_prime", "_law_places", "_law_flat_here", "_law_row", "_law_some"], b111, none⟩
def b112 : List CS := [.unp [1, 2] (.call 73 [.v 0, .ife (.cmp .eq (.bin .mod (.sum (.sl (.v 0) (.nil) (.k (.int 63)))) (.k (.int 32))) (.k (.int 9))) (.k (.int 6)) (.k (.int 4))]), .for_ [3] .rng1 (.k (.int 4)) (.nil) [.set 4 (.call 81 [.v 0, .v 1, .v 2, .v 3]), .set 5 (.call 74 [.v 0, .v 1, .v 2, .bin .add (.v 3) (.k (.int 2)), .k (.int 3)]), .for_ [6] .lst (.lst [.ix (.v 5) (.k (.int 0)), .call 80 [.v 1, .v 2, .v 4, .ix (.v 5) (.k (.int 1))]]) (.nil) [.set 7 (.call 30 [.v 1, .v 2, .v 4, .v 6]), .set 8 (.ife (.isin (.v 7) (.cls 11)) (.attr (.v 7) 0) (.attr (.v 7) 1)), .set 9 (.lst [.v 8, .bin .add (.v 8) (.lst [.k (.int 0)]), .sl (.v 8) (.k (.int 1)) (.nil), .lc (.neg (.v 10)) [10] .lst (.v 8) (.nil) (.k (.bl true)), .lc (.bin .add (.v 10) (.v 1)) [10] .lst (.v 8) (.nil) (.k (.bl true)), .ix (.v 5) (.k (.int 2)), .lst []]), .if_ (.cmp .ne (.v 8) (.lst [])) [.app 9 (.bin .add (.sl (.v 8) (.nil) (.neg (.k (.int 1)))) (.lst [.bin .mod (.bin .add (.ix (.v 8) (.neg (.k (.int 1)))) (.k (.int 1))) (.v 1)]))] [], .for_ [10] .lst (.v 9) (.nil) [.if_ (.nt (.call 110 [.v 1, .v 2, .v 4, .v 6, .v 10])) [.ret (.k (.bl false))] [], .if_ (.nt (.call 111 [.v 1, .v 2, .v 4, .v 6, .v 10])) [.ret (.k (.bl false))] []] [10]] [6, 7, 8, 9, 10]] [3, 4, 5, 6, 7, 8, 9, 10], .if_ (.cmp .isn (.meth 0 (.new 11 [.lst [.k (.int 2), .k (.int 4)]]) [.k (.int 5), .k (.int 3), .lst [.lst [.k (.int 1), .k (.int 0), .k (.int 2)], .lst [.k (.int 0), .k (.int 1), .k (.int 3)]], .lst [.k (.int 2), .k (.int 4), .k (.int 1)]]) (.k (.bl true))) [.ret (.k (.bl false))] [], .ret (.an (.cmp .is_ (.meth 0 (.new 12 [.lst [.k (.int 1)]]) [.k (.int 2), .k (.int 1), .lst [], .lst [.k (.int 1)]]) (.k (.bl true))) (.cmp .is_ (.meth 0 (.new 11 [.lst []]) [.k (.int 2), .k (.int 1), .lst [], .lst [.k (.int 1)]]) (.k (.bl false))))]
def f112 : FI := ⟨"law", "law", topS 45, ["_law_script", "_law_prime", "_law_places", "_law_by", "_law_flat_here", "_law_drawn", "_law_row", "_law_told", "_law_some", "_law_lists", "_law_one"], ["_law_script"], b112, none⟩
abbrev fs : List FI := [f0, f1, f2, f3, f4, f5, f6, f7, f8, f9, f10, f11, f12, f0, f0, f0, f16, f17, f0, f0, f0, f0, f0, f0, f0, f0, f0, f0, f0, f0, f30, f0, f0, f0, f0, f0, f0, f0, f0, f0, f0, f0, f0, f0, f0, f0, f0, f0, f0, f0, f0, f0, f0, f0, f0, f0, f0, f0, f0, f0, f0, f0, f0, f0, f0, f0, f0, f0, f0, f0, f0, f0, f72, f73, f74, f75, f76, f0, f78, f79, f80, f81, f82, f83, f0, f0, f0, f0, f0, f0, f0, f0, f0, f0, f0, f0, f0, f0, f98, f99, f100, f101, f0, f0, f0, f0, f0, f0, f0, f0, f110, f111, f112]
def tb : Tb := ⟨[], fs.map FI.x, [("PRIMES", .tup [2, 3, 5, 7, 11, 13, 17, 19, 23, 29, 31]), ("MOST_PLACES", .int 6)], ["all", "any", "bool", "enumerate", "int", "isinstance", "len", "list", "range", "sorted", "sum", "zip"], ["FlatError", "BadRoom", "BadRow", "BadFlat", "BadWidth", "BadCorners", "BadNumber", "BadTable", "BadChain", "NotInside", "Answer", "Within", "Barred", "Turned", "Unlike", "Along"], [11, 12], [11], ["BadRoom", "BadRow", "BadFlat"]⟩
theorem bn0 : BindF f0 := fun _ _ _ _ _ _ us hl => match us, hl with | [_], _ => rfl
theorem bn1 : BindF f1 := fun _ _ _ _ _ _ us hl => match us, hl with | [_, _], _ => rfl
theorem bn2 : BindF f2 := fun _ _ _ _ _ _ us hl => match us, hl with | [_, _, _], _ => rfl
theorem bn3 : BindF f3 := fun _ _ _ _ _ _ us hl => match us, hl with | [_, _, _], _ => rfl
theorem bn4 : BindF f4 := fun _ _ _ _ _ _ us hl => match us, hl with | [_, _], _ => rfl
theorem bn5 : BindF f5 := fun _ _ _ _ _ _ us hl => match us, hl with | [_, _, _], _ => rfl
theorem bn6 : BindF f6 := fun _ _ _ _ _ _ us hl => match us, hl with | [_, _, _, _], _ => rfl
theorem bn7 : BindF f7 := fun _ _ _ _ _ _ us hl => match us, hl with | [_, _, _, _], _ => rfl
theorem bn8 : BindF f8 := fun _ _ _ _ _ _ us hl => match us, hl with | [_, _, _], _ => rfl
theorem bn9 : BindF f9 := fun _ _ _ _ _ _ us hl => match us, hl with | [_, _, _], _ => rfl
theorem bn10 : BindF f10 := fun _ _ _ _ _ _ us hl => match us, hl with | [_], _ => rfl
theorem bn11 : BindF f11 := fun _ _ _ _ _ _ us hl => match us, hl with | [_, _, _], _ => rfl
theorem bn12 : BindF f12 := fun _ _ _ _ _ _ us hl => match us, hl with | [_, _, _], _ => rfl
theorem bn16 : BindF f16 := fun _ _ _ _ _ _ us hl => match us, hl with | [_, _], _ => rfl
theorem bn17 : BindF f17 := fun _ _ _ _ _ _ us hl => match us, hl with | [_, _, _, _], _ => rfl
theorem bn30 : BindF f30 := fun _ _ _ _ _ _ us hl => match us, hl with | [_, _, _, _], _ => rfl
theorem bn72 : BindF f72 := fun _ _ _ _ _ _ us hl => match us, hl with | [_, _, _], _ => rfl
theorem bn73 : BindF f73 := fun _ _ _ _ _ _ us hl => match us, hl with | [_, _], _ => rfl
theorem bn74 : BindF f74 := fun _ _ _ _ _ _ us hl => match us, hl with | [_, _, _, _, _], _ => rfl
theorem bn75 : BindF f75 := fun _ _ _ _ _ _ us hl => match us, hl with | [_, _, _, _], _ => rfl
theorem bn76 : BindF f76 := fun _ _ _ _ _ _ us hl => match us, hl with | [_, _], _ => rfl
theorem bn78 : BindF f78 := fun _ _ _ _ _ _ us hl => match us, hl with | [_], _ => rfl
theorem bn79 : BindF f79 := fun _ _ _ _ _ _ us hl => match us, hl with | [_, _, _], _ => rfl
theorem bn80 : BindF f80 := fun _ _ _ _ _ _ us hl => match us, hl with | [_, _, _, _], _ => rfl
theorem bn81 : BindF f81 := fun _ _ _ _ _ _ us hl => match us, hl with | [_, _, _, _], _ => rfl
theorem bn82 : BindF f82 := fun _ _ _ _ _ _ us hl => match us, hl with | [_, _, _], _ => rfl
theorem bn83 : BindF f83 := fun _ _ _ _ _ _ us hl => match us, hl with | [_, _], _ => rfl
theorem bn98 : BindF f98 := fun _ _ _ _ _ _ us hl => match us, hl with | [_, _], _ => rfl
theorem bn99 : BindF f99 := fun _ _ _ _ _ _ us hl => match us, hl with | [_, _, _, _, _], _ => rfl
theorem bn100 : BindF f100 := fun _ _ _ _ _ _ us hl => match us, hl with | [_, _], _ => rfl
theorem bn101 : BindF f101 := fun _ _ _ _ _ _ us hl => match us, hl with | [_, _, _, _, _], _ => rfl
theorem bn110 : BindF f110 := fun _ _ _ _ _ _ us hl => match us, hl with | [_, _, _, _, _], _ => rfl
theorem bn111 : BindF f111 := fun _ _ _ _ _ _ us hl => match us, hl with | [_, _, _, _, _], _ => rfl
theorem bn112 : BindF f112 := fun _ _ _ _ _ _ us hl => match us, hl with | [_], _ => rfl
theorem bns : AllP BindF fs := ⟨bn0, bn1, bn2, bn3, bn4, bn5, bn6, bn7, bn8, bn9, bn10, bn11, bn12, bn0, bn0, bn0, bn16, bn17, bn0, bn0, bn0, bn0, bn0, bn0, bn0, bn0, bn0, bn0, bn0, bn0, bn30, bn0, bn0, bn0, bn0, bn0, bn0, bn0, bn0, bn0, bn0, bn0, bn0, bn0, bn0, bn0, bn0, bn0, bn0, bn0, bn0, bn0, bn0, bn0, bn0, bn0, bn0, bn0, bn0, bn0, bn0, bn0, bn0, bn0, bn0, bn0, bn0, bn0, bn0, bn0, bn0, bn0, bn72, bn73, bn74, bn75, bn76, bn0, bn78, bn79, bn80, bn81, bn82, bn83, bn0, bn0, bn0, bn0, bn0, bn0, bn0, bn0, bn0, bn0, bn0, bn0, bn0, bn0, bn98, bn99, bn100, bn101, bn0, bn0, bn0, bn0, bn0, bn0, bn0, bn0, bn110, bn111, bn112, trivial⟩
theorem chk : fs.all (fiB tb) = true := by decide +kernel
theorem chw : whereB fs tb = true := by decide +kernel
instance : H_check_row fs := ⟨⟨f3, rfl, rfl, rfl, rfl⟩⟩
instance : H_summed fs := ⟨⟨f7, rfl, rfl, rfl, rfl⟩⟩
instance : H_product fs := ⟨⟨f8, rfl, rfl, rfl, rfl⟩⟩
instance : H_corners_of fs := ⟨⟨f10, rfl, rfl, rfl, rfl⟩⟩
instance : H_check_flat fs := ⟨⟨f12, rfl, rfl, rfl, rfl⟩⟩
instance : H_shares_of fs := ⟨⟨f16, rfl, rfl, rfl, rfl⟩⟩
instance : H_cross_at fs := ⟨⟨f17, rfl, rfl, rfl, rfl⟩⟩
instance : H_lies fs := ⟨⟨f30, rfl, rfl, rfl, rfl⟩⟩
instance : H_law_number fs := ⟨⟨f72, rfl, rfl, rfl, rfl⟩⟩
instance : H_law_room fs := ⟨⟨f73, rfl, rfl, rfl, rfl⟩⟩
instance : H_law_rows fs := ⟨⟨f74, rfl, rfl, rfl, rfl⟩⟩
instance : H_law_less fs := ⟨⟨f75, rfl, rfl, rfl, rfl⟩⟩
instance : H_law_form fs := ⟨⟨f76, rfl, rfl, rfl, rfl⟩⟩
instance : H_law_whole fs := ⟨⟨f78, rfl, rfl, rfl, rfl⟩⟩
instance : H_law_is_row fs := ⟨⟨f79, rfl, rfl, rfl, rfl⟩⟩
instance : H_law_sum fs := ⟨⟨f80, rfl, rfl, rfl, rfl⟩⟩
instance : H_law_flat fs := ⟨⟨f81, rfl, rfl, rfl, rfl⟩⟩
instance : H_law_product fs := ⟨⟨f82, rfl, rfl, rfl, rfl⟩⟩
instance : H_law_says fs := ⟨⟨f83, rfl, rfl, rfl, rfl⟩⟩
instance : H_Within___init__ fs := ⟨⟨f98, rfl, rfl, rfl, rfl⟩⟩
instance : H_Within_shows fs := ⟨⟨f99, rfl, rfl, rfl, rfl⟩⟩
instance : H_Barred___init__ fs := ⟨⟨f100, rfl, rfl, rfl, rfl⟩⟩
instance : H_Barred_shows fs := ⟨⟨f101, rfl, rfl, rfl, rfl⟩⟩
theorem h110 : HasF fs 110 5 8 b110 := ⟨⟨f110, rfl, rfl, rfl, rfl⟩⟩
theorem h111 : HasF fs 111 5 9 b111 := ⟨⟨f111, rfl, rfl, rfl, rfl⟩⟩
theorem h112 : HasF fs 112 1 11 b112 := ⟨⟨f112, rfl, rfl, rfl, rfl⟩⟩
instance : Base fs := ⟨⟨⟨f0, rfl, rfl, rfl, rfl⟩⟩, ⟨⟨f1, rfl, rfl, rfl, rfl⟩⟩, ⟨⟨f2, rfl, rfl, rfl, rfl⟩⟩, ⟨⟨f4, rfl, rfl, rfl, rfl⟩⟩, ⟨⟨f5, rfl, rfl, rfl, rfl⟩⟩, ⟨⟨f6, rfl, rfl, rfl, rfl⟩⟩, ⟨⟨f9, rfl, rfl, rfl, rfl⟩⟩⟩
instance : Flt fs := { (inferInstance : Base fs) with b1 := ⟨⟨f11, rfl, rfl, rfl, rfl⟩⟩ }
instance : Drw fs := ⟨⟨⟨f72, rfl, rfl, rfl, rfl⟩⟩, ⟨⟨f73, rfl, rfl, rfl, rfl⟩⟩, ⟨⟨f74, rfl, rfl, rfl, rfl⟩⟩, ⟨⟨f75, rfl, rfl, rfl, rfl⟩⟩, ⟨⟨f76, rfl, rfl, rfl, rfl⟩⟩⟩
def loose0 : List Str := ["FlatError", "BadRoom", "BadRow", "BadFlat", "PRIMES", "MOST_PLACES", "is_whole", "check_room", "is_row", "check_row", "inverse", "often", "added", "summed", "product", "form_of"]
def loose1 : List Str := ["corners_of", "is_flat", "check_flat", "shares_of", "cross_at", "Answer", "Within", "Barred", "lies", "_law_number", "_law_room", "_law_rows", "_law_less", "_law_form", "_law_flat", "_law_whole"]
def loose2 : List Str := ["_law_is_row", "_law_product", "_law_sum", "_law_says", "_law_shares_right", "_law_cross_right"]
abbrev loose : List Str := loose0 ++ loose1 ++ loose2
abbrev RoW : PySem.W.OpenRow := PySem.W.OpenLaw.row PySem.Challenge.rw_flatroom_k04_lies_by_hand
abbrev Q : Program := PySem.W.view RoW.prog [45]
abbrev ob : PySem.W.SharedT → AlF := obF 4 (ckOf tb) (faOf fs tb) (fs.map (ddOf tb))
abbrev hk : PySem.W.Hook := hkF 4 (ckOf tb) (faOf fs tb) (fs.map (ddOf tb))
theorem run (w : World) : HandSHeadRun.RunEq RoW Q hk ob 4000 loose w := by
  intro os
  kernel_rfl
end LW
namespace LW
open PySem FR LA
open Da (dd)
theorem shares_right_sp {d p n : Nat} {f : LLI} {row sm : LI} (hp : Ro p) (hn : n ≤ 12) (h : Rws p n f) (hl : sm.length ≤ 1000) : (pgOf fs 1000000 (d + 4)).fn 110 [dd (p : Int), dd (n : Int), dd f, dd row, dd sm] = .ok (dd true, true) := by
  refine fn_rt h110 [dv (p : Int), dv (n : Int), sv f, sv row, sv sm, none, none, none] rfl rfl ?_
  refine ss_set (x := sm) (fun handed : LI => [dv (p : Int), dv (n : Int), sv f, sv row, sv sm, dv handed, none, none]) (e_listf (e_vn rfl)) (fun _ => rfl) fun handed hhanded => ?_
  subst hhanded
  refine ss_set (fun answer : Ans => [dv (p : Int), dv (n : Int), sv f, sv row, sv handed, dv handed, dv answer, none]) (e_nwi (es_cons (e_vn rfl) es_nil) within_sp) (fun _ => rfl) fun answer hanswer => ?_
  subst hanswer
  refine ss_apd (fun handed' : LI => [dv (p : Int), dv (n : Int), sv f, sv row, sv handed, dv handed', dv (Ans.wi handed), none]) rfl e_ki (by decide) (by unfold LIM; omega) rfl (fun _ => rfl) fun handed' hhanded' => ?_
  refine ss_set (fun due : Bool => [dv (p : Int), dv (n : Int), sv f, sv row, sv handed, dv handed', dv (Ans.wi handed), dv due]) (e_and (e_callf (es_cons (e_vf rfl) (es_cons (e_len (e_vn rfl)) (es_cons (e_vn rfl) es_nil))) (law_is_row_sp (by unfold LIM; omega))) fun hc => (e_eq (e_calln (es_cons (e_vf rfl) (es_cons (e_vf rfl) (es_cons (e_vn rfl) (es_cons (e_vn rfl) es_nil)))) (law_sum_sp (ro31 hp) h hn)) (e_vn rfl))) (fun _ => rfl) fun due hdue => ?_
  refine (ss_ret (e_and (e_eq (e_shares (e_vn rfl)) (e_vn rfl)) fun hc => (e_callf (es_cons (e_meth (e_vn rfl) (es_cons (e_vf rfl) (es_cons (e_vf rfl) (es_cons (e_vn rfl) (es_cons (e_vn rfl) es_nil)))) (within_shows_sp hp hn h (by unfold LIM; omega))) (es_cons (e_vf rfl) es_nil)) law_says_sp))).trans ?_
  rw [hdue]
  simp [wiN]
theorem cross_right_sp {d p n : Nat} {f : LLI} {row sm : LI} (hp : Ro p) (hn : n ≤ 12) (h : Rws p n f) (hr : Rw p n row) (hl : sm.length ≤ 1000) (hf : f.length ≤ 1000) : (pgOf fs 1000000 (d + 4)).fn 111 [dd (p : Int), dd (n : Int), dd f, dd row, dd sm] = .ok (dd true, true) := by
  refine fn_rt h111 [dv (p : Int), dv (n : Int), sv f, sv row, sv sm, none, none, none, none] rfl rfl ?_
  refine ss_set (x := sm) (fun handed : LI => [dv (p : Int), dv (n : Int), sv f, sv row, sv sm, dv handed, none, none, none]) (e_listf (e_vn rfl)) (fun _ => rfl) fun handed hhanded => ?_
  subst hhanded
  refine ss_set (fun answer : Ans => [dv (p : Int), dv (n : Int), sv f, sv row, sv handed, dv handed, dv answer, none, none]) (e_nba (es_cons (e_vn rfl) es_nil) barred_sp) (fun _ => rfl) fun answer hanswer => ?_
  subst hanswer
  refine ss_apd (fun handed' : LI => [dv (p : Int), dv (n : Int), sv f, sv row, sv handed, dv handed', dv (Ans.ba handed), none, none]) rfl e_ki (by decide) (by unfold LIM; omega) rfl (fun _ => rfl) fun handed' hhanded' => ?_
  refine ss_set (fun due : Bool => [dv (p : Int), dv (n : Int), sv f, sv row, sv handed, dv handed', dv (Ans.ba handed), dv due, none]) (e_and (e_callf (es_cons (e_vf rfl) (es_cons (e_vf rfl) (es_cons (e_vn rfl) es_nil))) (law_is_row_sp (by unfold LIM; omega))) fun hc => (e_ne (e_callf (es_cons (e_vf rfl) (es_cons (e_vn rfl) (es_cons (e_vn rfl) es_nil))) (law_product_sp (ro31 hp) hr hn)) e_ki)) (fun _ => rfl) fun due hdue => ?_
  refine ss_set (fun due' : Bool => [dv (p : Int), dv (n : Int), sv f, sv row, sv handed, dv handed', dv (Ans.ba handed), dv due', none]) (e_and (e_vf rfl) fun hc => (e_not (e_anyi (e_lc (it_lst (e_vn rfl)) ?_ (fun z hz => el_k [sv (p : Int), sv (n : Int), sv f, sv row, sv handed, sv handed', sv (Ans.ba handed), sv due, sv z] rfl rfl (e_callf (es_cons (e_vf rfl) (es_cons (e_vn rfl) (es_cons (e_vn rfl) es_nil))) (law_product_sp (ro31 hp) (h z hz) hn))))))) (fun _ => rfl) fun due' hdue' => ?_
  · unfold LIM; omega
  refine (ss_ret (e_and (e_eq (e_cross (e_vn rfl)) (e_vn rfl)) fun hc => (e_callf (es_cons (e_meth (e_vn rfl) (es_cons (e_vf rfl) (es_cons (e_vf rfl) (es_cons (e_vn rfl) (es_cons (e_vn rfl) es_nil)))) (barred_shows_sp hp hn h hr (by unfold LIM; omega) (by unfold LIM; omega))) (es_cons (e_vf rfl) es_nil)) law_says_sp))).trans ?_
  have e1 : (!((f.map fun z => prodN p handed z).any fun x => x != 0)) = f.all fun z => decide (prodN p handed z = 0) := by
    rw [List.any_map, List.not_any_eq_all_not]
    congr 1
    funext z
    show (!(prodN p handed z != 0)) = _
    by_cases e : prodN p handed z = 0
    · simp [e]
    · simp [e]
  rw [hdue', e1, hdue]
  simp [baN]
theorem law_true (ns : List Int) (hl : ns.length ≤ 63) (hb : ∀ z ∈ ns, PySem.Builtin.Int.intBits z ≤ 1048576) : ∃ fr, (pgOf fs 1000000 14).fn 112 [scrD ns] = .ok (.bl true, fr) := by
  have hs : Bd 1048576 ns := bd_of hb
  obtain ⟨most, hm, em⟩ := most_of (decide ((cutL ns none (some 63)).sum % 32 = 9))
  obtain ⟨p, n, hp, hn1, hn2, hroom⟩ := law_room_sp (fs := fs) (N := 1000000) (s := ns) (most := most) (by omega)
  have hn : 1 ≤ n ∧ n ≤ 6 := by omega
  have := (pm_of hp.pm).1
  refine ⟨true, fn_rt h112 [sv ns, none, none, none, none, none, none, none, none, none, none] rfl rfl ?_⟩
  refine ss_unp2 (x := (p : Int)) (y := (n : Int)) (fun (prime : Int) (places : Int) => [sv ns, dv prime, dv places, none, none, none, none, none, none, none, none]) (e_calln (es_cons (e_vn rfl) (es_cons (e_ife (e_eq (e_mod (e_sum (e_slf (e_vn rfl) b_nil (b_some e_ki rfl))) e_ki (by decide)) e_ki) (fun hc => e_ki) (fun hc => e_ki)) es_nil)) ?_) (fun _ _ => rfl) fun prime places hprime hplaces => ?_
  · rw [em]; exact hroom _
  subst hprime hplaces
  refine ss_for [sv ns, dv (p : Int), dv (n : Int), none, none, none, none, none, none, none, none] (it_rng1 e_ki (by decide)) rfl (for_stay _ fun k hk => ?_) ?_
  · have hk : k < 4 := by simpa using hk
    have F : IsF p n (flatN ns p n k) := flatN_isF hp
    have lf := F.len_le
    have D3 : Rws p n (rowsN ns p n (k + 2) 3) := rowsN_rws hp.pos
    have ld : (rowsN ns p n (k + 2) 3).length = 3 := rowsN_len
    refine bdn [sv ns, dv (p : Int), dv (n : Int), dv (k : Int), none, none, none, none, none, none, none] [sv ns, dv (p : Int), dv (n : Int), dv (k : Int), sv (flatN ns p n k), sv (rowsN ns p n (k + 2) 3), none, none, none, none, none] rfl rfl ?_ rfl
    refine ss_set (fun flat : LLI => [sv ns, dv (p : Int), dv (n : Int), dv (k : Int), sv flat, none, none, none, none, none, none]) (e_callsh (es_cons (e_vn rfl) (es_cons (e_vf rfl) (es_cons (e_vf rfl) (es_cons (e_vf rfl) es_nil)))) (law_flat_sp hp (by omega) hs (by decide) (by omega))) (fun _ => rfl) fun flat hflat => ?_
    refine ss_set (fun drawn : LLI => [sv ns, dv (p : Int), dv (n : Int), dv (k : Int), sv flat, dv drawn, none, none, none, none, none]) (e_calln (x := rowsN ns p n (k + 2) 3) (es_cons (e_vn rfl) (es_cons (e_vf rfl) (es_cons (e_vf rfl) (es_cons (e_add (e_vf rfl) e_ki) (es_cons e_ki es_nil))))) (law_rows_sp (by_ := k + 2) (many := 3) hp.pos (by omega) hs (by decide) (by omega) (by omega))) (fun _ => rfl) fun drawn hdrawn => ?_
    rw [← hflat] at F lf ⊢
    rw [← hdrawn] at D3 ld ⊢
    clear hflat hdrawn
    have w0 : Rw p n (drawn.getD (pix drawn.length 0) []) := D3 _ (getD_mem (by rw [ld]; decide))
    have w2 : Rw p n (drawn.getD (pix drawn.length 2) []) := D3 _ (getD_mem (by rw [ld]; decide))
    refine ss_for [sv ns, dv (p : Int), dv (n : Int), dv (k : Int), sv flat, sv drawn, none, none, none, none, none] (it_lst (xs := [drawn.getD (pix drawn.length 0) [], sumN p n flat (drawn.getD (pix drawn.length 1) [])]) (e_lstn (α := LI) (es_cons (e_ixn [] (e_vn rfl) e_ki (by rw [ld]; decide)) (es_cons (e_calln (es_cons (e_vf rfl) (es_cons (e_vf rfl) (es_cons (e_vn rfl) (es_cons (e_ixn [] (e_vn rfl) e_ki (by rw [ld]; decide)) es_nil)))) (law_sum_sp (ro31 hp) F.rws (by omega))) es_nil)) rfl)) rfl (for_stay _ fun z hz => ?_) ss_nil
    have hz : Rw p n z := by
      simp only [List.mem_cons, List.not_mem_nil, or_false] at hz
      rcases hz with rfl | rfl
      · exact w0
      · exact sumN_rw F.rws _
    obtain ⟨sm, lsm, hsm⟩ := lies_some (row := z) hp F
    have big : ∀ lists : LLI, lists.length ≤ 100 → (∀ r ∈ lists, r.length ≤ 1000) → evSs (pgOf fs 1000000 13) 1000000 [.for_ [10] .lst (.v 9) (.nil) [.if_ (.nt (.call 110 [.v 1, .v 2, .v 4, .v 6, .v 10])) [.ret (.k (.bl false))] [], .if_ (.nt (.call 111 [.v 1, .v 2, .v 4, .v 6, .v 10])) [.ret (.k (.bl false))] []] [10]] [sv ns, dv (p : Int), dv (n : Int), dv (k : Int), sv flat, sv drawn, sv z, sv (liesN p n flat z), sv sm, tv lists, none] = .ok (.nx [sv ns, dv (p : Int), dv (n : Int), dv (k : Int), sv flat, sv drawn, sv z, sv (liesN p n flat z), sv sm, sv lists, none]) := fun lists hl hr => by
      refine ss_for [sv ns, dv (p : Int), dv (n : Int), dv (k : Int), sv flat, sv drawn, sv z, sv (liesN p n flat z), sv sm, sv lists, none] (it_lst (e_vn rfl)) rfl (for_stay _ fun y hy => ?_) ss_nil
      have ly := hr y hy
      refine bdn [sv ns, dv (p : Int), dv (n : Int), dv (k : Int), sv flat, sv drawn, sv z, sv (liesN p n flat z), sv sm, sv lists, sv y] [sv ns, dv (p : Int), dv (n : Int), dv (k : Int), sv flat, sv drawn, sv z, sv (liesN p n flat z), sv sm, sv lists, sv y] rfl rfl ?_ rfl
      refine ss_iff (e_not (e_callf (es_cons (e_vf rfl) (es_cons (e_vf rfl) (es_cons (e_vn rfl) (es_cons (e_vn rfl) (es_cons (e_vn rfl) es_nil))))) (shares_right_sp hp (by omega) F.rws ly))) rfl ?_
      exact ss_iff (e_not (e_callf (es_cons (e_vf rfl) (es_cons (e_vf rfl) (es_cons (e_vn rfl) (es_cons (e_vn rfl) (es_cons (e_vn rfl) es_nil))))) (cross_right_sp hp (by omega) F.rws hz ly (by omega)))) rfl ss_nil
    let L7 : LLI := [sm, sm ++ [0], cutL sm (some 1) none, sm.map fun y => -y, sm.map fun y => y + (p : Int), drawn.getD (pix drawn.length 2) [], []]
    have l7 : ∀ r ∈ L7, r.length ≤ 1000 := by
      intro r hr
      simp only [L7, List.mem_cons, List.not_mem_nil, or_false] at hr
      rcases hr with rfl | rfl | rfl | rfl | rfl | rfl | rfl
      · omega
      · simp; omega
      · have := cut_from sm 1
        rw [show ((1 : Nat) : Int) = 1 from rfl] at this
        rw [this, List.length_drop]; omega
      · simp; omega
      · simp; omega
      · rw [w2.1]; omega
      · simp
    have go : ∀ {r : R Out}, evSs (pgOf fs 1000000 13) 1000000 [.if_ (.cmp .ne (.v 8) (.lst [])) [.app 9 (.bin .add (.sl (.v 8) (.nil) (.neg (.k (.int 1)))) (.lst [.bin .mod (.bin .add (.ix (.v 8) (.neg (.k (.int 1)))) (.k (.int 1))) (.v 1)]))] [], .for_ [10] .lst (.v 9) (.nil) [.if_ (.nt (.call 110 [.v 1, .v 2, .v 4, .v 6, .v 10])) [.ret (.k (.bl false))] [], .if_ (.nt (.call 111 [.v 1, .v 2, .v 4, .v 6, .v 10])) [.ret (.k (.bl false))] []] [10]] [sv ns, dv (p : Int), dv (n : Int), dv (k : Int), sv flat, sv drawn, sv z, sv (liesN p n flat z), sv sm, tv L7, none] = r → evSs (pgOf fs 1000000 13) 1000000 [.set 7 (.call 30 [.v 1, .v 2, .v 4, .v 6]), .set 8 (.ife (.isin (.v 7) (.cls 11)) (.attr (.v 7) 0) (.attr (.v 7) 1)), .set 9 (.lst [.v 8, .bin .add (.v 8) (.lst [.k (.int 0)]), .sl (.v 8) (.k (.int 1)) (.nil), .lc (.neg (.v 10)) [10] .lst (.v 8) (.nil) (.k (.bl true)), .lc (.bin .add (.v 10) (.v 1)) [10] .lst (.v 8) (.nil) (.k (.bl true)), .ix (.v 5) (.k (.int 2)), .lst []]), .if_ (.cmp .ne (.v 8) (.lst [])) [.app 9 (.bin .add (.sl (.v 8) (.nil) (.neg (.k (.int 1)))) (.lst [.bin .mod (.bin .add (.ix (.v 8) (.neg (.k (.int 1)))) (.k (.int 1))) (.v 1)]))] [], .for_ [10] .lst (.v 9) (.nil) [.if_ (.nt (.call 110 [.v 1, .v 2, .v 4, .v 6, .v 10])) [.ret (.k (.bl false))] [], .if_ (.nt (.call 111 [.v 1, .v 2, .v 4, .v 6, .v 10])) [.ret (.k (.bl false))] []] [10]] [sv ns, dv (p : Int), dv (n : Int), dv (k : Int), sv flat, sv drawn, sv z, none, none, none, none] = r := fun {r} hr => by
      refine ss_set (fun told : Ans => [sv ns, dv (p : Int), dv (n : Int), dv (k : Int), sv flat, sv drawn, sv z, dv told, none, none, none]) (e_calln (es_cons (e_vf rfl) (es_cons (e_vf rfl) (es_cons (e_vn rfl) (es_cons (e_vn rfl) es_nil)))) (lies_sp hp hn F hz)) (fun _ => rfl) fun told htold => ?_
      rw [← htold] at hsm hr
      refine ss_set (fun some_ : LI => [sv ns, dv (p : Int), dv (n : Int), dv (k : Int), sv flat, sv drawn, sv z, sv told, sv some_, none, none]) (e_some hsm (e_vn rfl)) (fun _ => rfl) fun some_ hsome_ => ?_
      subst hsome_
      refine ss_set (fun lists : LLI => [sv ns, dv (p : Int), dv (n : Int), dv (k : Int), sv flat, sv drawn, sv z, sv told, sv some_, tv lists, none]) (e_lstn (α := LI) (xs := L7) (es_cons (e_vn rfl) (es_cons (e_catf (e_vn rfl) (e_lstf (α := Int) (es_cons e_ki es_nil) rfl) ?_) (es_cons (e_slf (e_vn rfl) (b_some e_ki rfl) b_nil) (es_cons (e_lc (it_lst (e_vn rfl)) ?_ (fun y hy => el_k [sv ns, sv (p : Int), sv (n : Int), sv (k : Int), sv flat, sv drawn, sv z, sv told, sv some_, none, dv y] rfl rfl (e_neg (e_vf rfl)))) (es_cons (e_lc (it_lst (e_vn rfl)) ?_ (fun y hy => el_k [sv ns, sv (p : Int), sv (n : Int), sv (k : Int), sv flat, sv drawn, sv z, sv told, sv some_, none, dv y] rfl rfl (e_add (e_vf rfl) (e_vf rfl)))) (es_cons (e_ixn [] (e_vn rfl) e_ki (by rw [ld]; decide)) (es_cons (e_lst0 (α := Int)) es_nil))))))) rfl) (fun _ => rfl) fun lists hlists => ?_
      · simp; unfold LIM; omega
      · unfold LIM; omega
      · unfold LIM; omega
      rw [hlists]
      exact hr
    refine bdne [sv ns, dv (p : Int), dv (n : Int), dv (k : Int), sv flat, sv drawn, sv z, none, none, none, none] rfl rfl ?_
    by_cases e : sm = []
    · refine ⟨[sv ns, dv (p : Int), dv (n : Int), dv (k : Int), sv flat, sv drawn, sv z, sv (liesN p n flat z), sv sm, sv L7, none], go ?_, rfl⟩
      refine ss_iff (e_ne (e_vn rfl) (e_lst0 (α := Int))) (by simp [e]) ?_
      exact big L7 (by simp [L7]) l7
    · have ls : 0 < sm.length := List.length_pos_iff.mpr e
      let x : LI := cutL sm none (some (-1)) ++ [(sm.getD (pix sm.length (-1)) 0 + 1) % (p : Int)]
      have lx : x.length ≤ 1000 := by
        simp only [x, List.length_append, List.length_singleton, cutL, List.length_take, List.length_drop]
        omega
      refine ⟨[sv ns, dv (p : Int), dv (n : Int), dv (k : Int), sv flat, sv drawn, sv z, sv (liesN p n flat z), sv sm, sv (L7 ++ [x]), none], go ?_, rfl⟩
      refine ss_ift (e_ne (e_vn rfl) (e_lst0 (α := Int))) (by simp [e]) ?_
      refine ss_apd (x := x) (fun lists' : LLI => [sv ns, dv (p : Int), dv (n : Int), dv (k : Int), sv flat, sv drawn, sv z, sv (liesN p n flat z), sv sm, tv lists', none]) rfl (e_catf (e_slf (e_vn rfl) b_nil (b_some (e_neg e_ki) rfl)) (e_lstf (α := Int) (es_cons (e_mod (e_add (e_ixf 0 (e_vn rfl) (e_neg e_ki) ?_) e_ki) (e_vf rfl) ?_) es_nil) rfl) ?_) (by decide) ?_ rfl (fun _ => rfl) fun lists' hlists' => ?_
      · omega
      · have := hp.pos; omega
      · simp only [List.length_singleton, cutL, List.length_take, List.length_drop]
        unfold LIM; omega
      · simp [L7]; decide
      · rw [hlists']
        refine big _ (by simp [L7]) fun r hr => ?_
        rcases List.mem_append.mp hr with hr | hr
        · exact l7 r hr
        · rw [List.mem_singleton.mp hr]; exact lx
  · have h1 : Rws 5 3 [[1, 0, 2], [0, 1, 3]] := by
      intro r hr
      simp only [List.mem_cons, List.not_mem_nil, or_false] at hr
      rcases hr with rfl | rfl <;> exact isRowN_iff.mp (by decide)
    have h0 : Rws 2 1 ([] : LLI) := fun r hr => by simp at hr
    have w1 : Rw 2 1 [1] := isRowN_iff.mp (by decide)
    refine ss_iff (e_isn (e_meth (e_nwi (s := [2, 4]) (es_cons (e_lstf (α := Int) (es_cons e_ki (es_cons e_ki es_nil)) rfl) es_nil) within_sp) (es_cons e_ki (es_cons e_ki (es_cons (e_lstn (α := LI) (xs := [[1, 0, 2], [0, 1, 3]]) (es_cons (e_lstf (α := Int) (es_cons e_ki (es_cons e_ki (es_cons e_ki es_nil))) rfl) (es_cons (e_lstf (α := Int) (es_cons e_ki (es_cons e_ki (es_cons e_ki es_nil))) rfl) es_nil)) rfl) (es_cons (e_lstf (α := Int) (xs := [2, 4, 1]) (es_cons e_ki (es_cons e_ki (es_cons e_ki es_nil))) rfl) es_nil)))) (within_shows_sp (p := 5) (n := 3) ⟨by decide⟩ (by decide) h1 (by decide))) e_kb) (by decide +kernel) ?_
    refine (ss_ret (e_and (e_is (e_meth (e_nba (s := [1]) (es_cons (e_lstf (α := Int) (es_cons e_ki es_nil) rfl) es_nil) barred_sp) (es_cons e_ki (es_cons e_ki (es_cons (e_lst0 (α := LI)) (es_cons (e_lstf (α := Int) (xs := [1]) (es_cons e_ki es_nil) rfl) es_nil)))) (barred_shows_sp (p := 2) (n := 1) ⟨by decide⟩ (by decide) h0 w1 (by decide) (by decide))) e_kb) fun hc => (e_is (e_meth (e_nwi (s := []) (es_cons (e_lst0 (α := Int)) es_nil) within_sp) (es_cons e_ki (es_cons e_ki (es_cons (e_lst0 (α := LI)) (es_cons (e_lstf (α := Int) (xs := [1]) (es_cons e_ki es_nil) rfl) es_nil)))) (within_shows_sp (p := 2) (n := 1) ⟨by decide⟩ (by decide) h0 (by decide))) e_kb))).trans ?_
    have e1 : baN 2 1 [1] [] [1] = true := by decide +kernel
    have e2 : wiN 2 1 [] [] [1] = false := by decide +kernel
    rw [e1, e2]; rfl
end LW

open PySem PySem.W PySem.Calls PyProof.Rows
theorem PySem.Challenge.cw_flatroom_k04_lies_by_hand_holds : PySem.Challenge.rw_flatroom_k04_lies_by_hand.Holds := by
  w_on; o_law
  refine HandSHeadRun.head_any (r := OpenLaw.row PySem.Challenge.rw_flatroom_k04_lies_by_hand) (q := LW.Q) (H := LW.hk) (ob := LW.ob) (M := 4000) (loose := LW.loose) (d := HandSHeadRun.topDef (OpenLaw.row PySem.Challenge.rw_flatroom_k04_lies_by_hand).prog 45) (kwd := []) FR.obF_eq
    (by kernel_rfl) (fun s => by kernel_rfl) LW.run (by kernel_rfl) (by kernel_rfl) (by kernel_rfl) (by rfl) (by first | assumption | decide +kernel) (by decide +kernel) ⟨rfl, rfl, rfl, rfl, rfl, by decide +kernel⟩ ?hw ?hc
  case hw => w_witness2
  case hc => exact FR.walk_law (l := PySem.Challenge.rw_flatroom_k04_lies_by_hand) (fs := LW.fs) (tb := LW.tb) (k := 112) (n := 1000000) (dp := 13) (f := LW.f112) (x := "_law_script") rfl (by kernel_rfl) ⟨rfl, by decide, by decide⟩ (by kernel_rfl) (by decide) rfl rfl rfl LW.bns LW.chk LW.chw rfl LW.law_true

