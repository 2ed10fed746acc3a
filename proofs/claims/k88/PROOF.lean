import PyProof.Rows.All
import Wide.All
import OpenK.AllK
import Wide.FinOn
import HandS.ForMost
import HandS.Wide
import HandS.TupAny
import HandS.TryOnly
import HandS.WordsExc
import KE.SortData
import KE.DataEq
import HandS.Flow
import HandS.IsInst
import HandS.TupLe
import KE.DataMinMax
import HandS.Zip
import KE.GoesEnum
import KE.GoesMore
import KE.GoesZip
import HandS.TupSets
import HandS.Defaults
import HandS.HeadEnd
import HandS.HeadHook1
import HandS.HeadHook2
import HandS.HeadHook4
import HandS.Head0
import HandS.Head1
import HandS.Head2
import PySem.Challenge.RW_countsandfloors_k88_great_numbers_in_row
set_option Elab.async false
set_option linter.all false
set_option maxRecDepth 100000
set_option maxHeartbeats 4000000
/-! A small pure evaluator over an IR of one's own, and what ties the IR to the program's text. -/
namespace L2.Mp
open PySem PySem.Spec PyProof.Rows L2

abbrev D := PyData
/-- a frame's slot: nothing told; a value that nobody changes; a list of which this slot alone knows (io: handed in to be changed) -/
inductive Slot where
  | no
  | val (d : D)
  | own (io : Bool) (ds : List D)
abbrev Fm := List Slot
/-- an expression's outcome: a value; a fresh list; the list that the slot i owns -/
inductive RV where
  | v (d : D)
  | o (ds : List D)
  | b (i : Nat)
inductive Fl where
  | nx
  | ret (r : RV)
  | brk
  | cont
structure Xc where
  cls : Str
  args : List D
inductive Val where
  | rv (r : RV)
  | rvs (rs : List RV)
  | ds (l : List D)
  | fl (f : Fl)
inductive R (α : Type) where
  | ok (a : α) (e : Fm)
  | rz (x : Xc) (e : Fm)
  | bad
def R.rv {β : Type} (m : R Val) (k : RV → Fm → R β) : R β := match m with
  | .ok (.rv r) e => k r e
  | .rz x e => .rz x e
  | _ => .bad
def R.rvs {β : Type} (m : R Val) (k : List RV → Fm → R β) : R β := match m with
  | .ok (.rvs r) e => k r e
  | .rz x e => .rz x e
  | _ => .bad
def R.dsk {β : Type} (m : R Val) (k : List D → Fm → R β) : R β := match m with
  | .ok (.ds r) e => k r e
  | .rz x e => .rz x e
  | _ => .bad
def R.bnd {α β : Type} (m : R α) (k : α → Fm → R β) : R β := match m with
  | .ok a e => k a e
  | .rz x e => .rz x e
  | .bad => .bad

inductive Ty where
  | non | bool | int | str | list | tuple | dict
  deriving DecidableEq
inductive Prim where
  | len | abs | int | tuple | list | sum | all | any | max1 | min1 | max2 | min2
  deriving DecidableEq

inductive T where
  -- expressions
  | var (i : Nat)
  | glo (x : Str) (d : D)
  | const (d : D)
  | bin (op : Operator) (a b : T)
  | neg (a : T)
  | notT (a : T)
  | cmp (op : CmpOp) (a b : T)
  | chain (op op' : CmpOp) (a b c : T)
  | one (a : T)
  | and (a b : T)
  | or (a b : T)
  | ite (c a b : T)
  | call (f : Str) (fl : List Bool) (args : T)
  | prim (p : Prim) (args : T)
  | isi (a : T) (cs : List Ty)
  | lenSet (a : T)
  | sortSet (a : T)
  | tup (es : T)
  | lst (es : T)
  | lrep (es b : T)
  | idx (a b : T)
  | slc (a lo hi : T)
  | comp (elt tg src cond : T) (own : List Nat)
  | comp2 (elt tg src cond tg2 src2 cond2 : T) (own own2 : List Nat)
  -- none told (a slice's part, a comprehension's test)
  | absent
  -- lists of expressions, of targets
  | nil
  | cons (a r : T)
  -- what is walked
  | sSeq (a : T)
  | sR1 (a : T)
  | sR2 (a b : T)
  | sZip (a b : T)
  | sEnum (a : T)
  -- targets
  | tN (i : Nat)
  | tT (es : T)
  -- statements
  | asg (tg e : T)
  | par (i j : Nat) (a b : T)
  | ifS (c a b : T)
  | forS (tg src body : T)
  | whileS (c body : T)
  | ret (e : T)
  | expr (e : T)
  | app (i : Nat) (e : T)
  | ext (i : Nat) (e : T)
  | setIx (i : Nat) (ix e : T)
  | never
  | brk
  | cont
  | pass
  | done
  | seq (a b : T)

/-! ### the values' operations -/
def LINE : Nat := 16777216
def tru : D → Option Bool
  | .none => some false
  | .bool b => some b
  | .int i => some (i != 0)
  | .str s => if s.length ≤ LINE then some ((s.length : Int) != 0) else none
  | .list xs => some (!xs.isEmpty)
  | .tuple xs => some (!xs.isEmpty)
  | .dict _ => none
def mulOk (i j : Int) : Bool := (decide (-(2 ^ 64) < i) && decide (i < 2 ^ 64)) || (decide (-(2 ^ 64) < j) && decide (j < 2 ^ 64))
def binD : Operator → D → D → Option RV
  | .Add, .int i, .int j => some (.v (.int (i + j)))
  | .Sub, .int i, .int j => some (.v (.int (i - j)))
  | .Mult, .int i, .int j => if mulOk i j then some (.v (.int (i * j))) else none
  | .FloorDiv, .int i, .int j => if 0 < j ∧ j.natAbs.log2 < 9000 then some (.v (.int (i / j))) else none
  | .Mod, .int i, .int j => if 0 < j then some (.v (.int (i % j))) else none
  | .Pow, .int i, .int j => if 0 ≤ j ∧ j ≤ 1000000 ∧ i.natAbs < 2 ^ 64 then some (.v (.int (i ^ j.toNat))) else none
  | .Add, .str x, .str y => if x.length + y.length ≤ LINE then some (.v (.str (x ++ y))) else none
  | .Add, .tuple xs, .tuple ys => if xs.length + ys.length ≤ LINE then some (.v (.tuple (xs ++ ys))) else none
  | .Add, .list xs, .list ys => if xs.length + ys.length ≤ LINE then some (.o (xs ++ ys)) else none
  | _, _, _ => none
/-- the data of a comparison: not both too deep -/
def cmpOk (x y : D) : Bool := decide (min x.depth y.depth ≤ 190)
def isNon : D → Bool
  | .none => true
  | _ => false
def cmpD : CmpOp → D → D → Option Bool
  | .Lt, .int i, .int j => some (decide (i < j))
  | .LtE, .int i, .int j => some (decide (i ≤ j))
  | .Gt, .int i, .int j => some (decide (j < i))
  | .GtE, .int i, .int j => some (decide (j ≤ i))
  | .Lt, .tuple xs, .tuple ys => if PySem.W.alikeAll xs ys && cmpOk (.tuple xs) (.tuple ys) then some (PySem.W.dataLt (.tuple xs) (.tuple ys)) else none
  | .Eq, x, y => if cmpOk x y then some (PyData.eqv x y) else none
  | .NotEq, x, y => if cmpOk x y then some (!PyData.eqv x y) else none
  | .In, x, .tuple ys => if cmpOk x (.tuple ys) then some (ys.any fun y => PyData.eqv y x) else none
  | .In, x, .list ys => if cmpOk x (.list ys) then some (ys.any fun y => PyData.eqv y x) else none
  | .NotIn, x, .tuple ys => if cmpOk x (.tuple ys) then some (!ys.any fun y => PyData.eqv y x) else none
  | .NotIn, x, .list ys => if cmpOk x (.list ys) then some (!ys.any fun y => PyData.eqv y x) else none
  | .Is, x, .none => some (isNon x)
  | .IsNot, x, .none => some (!isNon x)
  | .Is, .bool a, .bool b => some (decide (a = b))
  | .IsNot, .bool a, .bool b => some (!decide (a = b))
  | _, _, _ => none
def tyN : D → Ty
  | .none => .non
  | .bool _ => .bool
  | .int _ => .int
  | .str _ => .str
  | .list _ => .list
  | .tuple _ => .tuple
  | .dict _ => .dict
def Ty.sub : Ty → Ty → Bool
  | .bool, .int => true
  | a, b => decide (a = b)
def isD (d : D) (cs : List Ty) : Bool := cs.any (Ty.sub (tyN d))
def idxD : D → D → Option D
  | .list xs, .int i => atI xs i
  | .tuple xs, .int i => atI xs i
  | _, _ => none
def cut {α : Type} (xs : List α) (lo hi : Option Int) : List α := (xs.drop (HT.sIx xs.length 0 lo)).take (HT.sIx xs.length xs.length hi - HT.sIx xs.length 0 lo)
def slcD : D → Option Int → Option Int → Option RV
  | .list xs, lo, hi => some (.o (cut xs lo hi))
  | .tuple xs, lo, hi => some (.v (.tuple (cut xs lo hi)))
  | _, _, _ => none
def intsOf : List D → Option (List Int)
  | [] => some []
  | .int i :: r => (intsOf r).map (i :: ·)
  | _ => none
def boolsOf : List D → Option (List Bool)
  | [] => some []
  | .bool b :: r => (boolsOf r).map (b :: ·)
  | _ => none
def itemsOf : D → Option (List D)
  | .list xs => some xs
  | .tuple xs => some xs
  | _ => none
def addNew (acc : List D) (d : D) : List D := if acc.any (fun x => PyData.eqv x d) then acc else acc ++ [d]
def dedup (xs : List D) : List D := xs.foldl addNew []
def maxI : List Int → Int
  | [] => 0
  | x :: r => r.foldl max x
def minI : List Int → Int
  | [] => 0
  | x :: r => r.foldl min x
def dedI (is : List Int) : List Int := is.foldl (fun acc n => if acc.any (· == n) then acc else acc ++ [n]) []
def rowsI : List D → Option (List (List Int))
  | [] => some []
  | .tuple xs :: r => match intsOf xs, rowsI r with
    | some is, some rs => some (is :: rs)
    | _, _ => none
  | _ => none
def rowD (r : List Int) : D := .tuple (r.map .int)
def ltL : List Int → List Int → Bool
  | x :: r, y :: s => decide (x < y) || (decide (x = y) && ltL r s)
  | _, _ => false
def insU (x : List Int) : List (List Int) → List (List Int)
  | [] => [x]
  | y :: r => if x = y then y :: r else if ltL x y = true then x :: y :: r else y :: insU x r
def sortU (rs : List (List Int)) : List (List Int) := rs.foldl (fun acc x => insU x acc) []
def evenRows (rs : List (List Int)) : Bool := match rs with
  | [] => true
  | r :: _ => decide (1 ≤ r.length) && rs.all fun q => decide (q.length = r.length) && q.all fun n => decide (0 ≤ n)
def lenSetD : D → Option Int
  | .list xs => (intsOf xs).bind fun is => if is.length ≤ 4000 then some (dedI is).length else none
  | _ => none
def sortSetD (x : D) : Option (List D) := (itemsOf x).bind fun xs => (rowsI xs).bind fun rs => if rs.length < 64 ∧ evenRows rs = true then some ((sortU rs).map rowD) else none
def primD : Prim → List D → Option RV
  | .len, [.list xs] => some (.v (.int xs.length))
  | .len, [.tuple xs] => some (.v (.int xs.length))
  | .len, [.str s] => if s.length ≤ LINE then some (.v (.int s.length)) else none
  | .abs, [.int i] => some (.v (.int (if i < 0 then -i else i)))
  | .int, [.int i] => some (.v (.int i))
  | .int, [.bool b] => some (.v (.int (if b then 1 else 0)))
  | .tuple, [.list xs] => some (.v (.tuple xs))
  | .tuple, [.tuple xs] => some (.v (.tuple xs))
  | .list, [.list xs] => some (.o xs)
  | .list, [.tuple xs] => some (.o xs)
  | .sum, [x] => (itemsOf x).bind fun xs => (intsOf xs).map fun is => .v (.int is.sum)
  | .all, [.list xs] => (boolsOf xs).map fun bs => .v (.bool (bs.all id))
  | .any, [.list xs] => (boolsOf xs).map fun bs => .v (.bool (bs.any id))
  | .max1, [x] => (itemsOf x).bind fun xs => (intsOf xs).bind fun is => if is = [] then none else some (.v (.int (maxI is)))
  | .min1, [x] => (itemsOf x).bind fun xs => (intsOf xs).bind fun is => if is = [] then none else some (.v (.int (minI is)))
  | .max2, [.int i, .int j] => some (.v (.int (if j > i then j else i)))
  | .min2, [.int i, .int j] => some (.v (.int (if j < i then j else i)))
  | _, _ => none

/-! ### outcomes read -/
def rd (r : RV) (e : Fm) : Option D := match r with
  | .v d => some d
  | .o ds => some (.list ds)
  | .b i => match e[i]? with
    | some (.own _ ds) => some (.list ds)
    | some (.val d) => some d
    | _ => none
def rds : List RV → Fm → Option (List D)
  | [], _ => some []
  | r :: rs, e => match rd r e, rds rs e with
    | some d, some ds => some (d :: ds)
    | _, _ => none
/-- a value to be kept: a slot's own list is its own no more -/
def fz (r : RV) (e : Fm) : Option (D × Fm) := match r with
  | .v d => some (d, e)
  | .o ds => some (.list ds, e)
  | .b i => match e[i]? with
    | some (.own false ds) => some (.list ds, e.set i (.val (.list ds)))
    | some (.val d) => some (d, e)
    | _ => none
def fzs : List RV → Fm → Option (List D × Fm)
  | [], e => some ([], e)
  | r :: rs, e => match fz r e with
    | some (d, e1) => match fzs rs e1 with
      | some (ds, e2) => some (d :: ds, e2)
      | none => none
    | none => none
def keepS (r : RV) (e : Fm) : Option (Slot × Fm) := match r with
  | .o ds => some (.own false ds, e)
  | _ => match fz r e with
    | some (d, e1) => some (.val d, e1)
    | none => none
def storable : Option Slot → Bool
  | some (.own true _) => false
  | none => false
  | _ => true
def nrm : RV → RV
  | .o ds => .v (.list ds)
  | r => r
mutual
def nolist : D → Bool
  | .none => true
  | .bool _ => true
  | .int _ => true
  | .str _ => true
  | .list _ => false
  | .tuple xs => nolists xs
  | .dict _ => false
def nolists : List D → Bool
  | [] => true
  | x :: r => nolist x && nolists r
end
def nolistR : RV → Bool
  | .v d => nolist d
  | .o ds => nolists ds
  | .b _ => false

/-! ### calls -/
inductive Arg where
  | d (d : D)
  | io (ds : List D)
inductive CR where
  | ok (r : RV) (outs : List (List D))
  | rz (x : Xc) (outs : List (List D))
  | bad
abbrev CF := Str → List Arg → CR
def isOwnS : Option Slot → Bool
  | some (.own _ _) => true
  | _ => false
def lent (r : RV) (e : Fm) (bs : List Nat) : List Nat := match r with
  | .b i => if isOwnS e[i]? then i :: bs else bs
  | _ => bs
/-- arguments, the slots handed in to be changed, the slots lent -/
def mkArgs : List Bool → List RV → Fm → Option (List Arg × List Nat × List Nat)
  | [], [], _ => some ([], [], [])
  | true :: fl, .b i :: rs, e => match e[i]?, mkArgs fl rs e with
    | some (.own _ ds), some (as, is, bs) => some (.io ds :: as, i :: is, bs)
    | _, _ => none
  | false :: fl, r :: rs, e => match rd r e, mkArgs fl rs e with
    | some d, some (as, is, bs) => some (.d d :: as, is, lent r e bs)
    | _, _ => none
  | _, _, _ => none
def putOuts : List Nat → List (List D) → Fm → Fm
  | i :: is, ds :: outs, e => putOuts is outs (match e[i]? with
    | some (.own io _) => e.set i (.own io ds)
    | _ => e)
  | _, _, e => e
def noDup : List Nat → Bool
  | [] => true
  | i :: r => !r.contains i && noDup r
def doCall (cf : CF) (f : Str) (fl : List Bool) (rs : List RV) (e : Fm) : R Val := match mkArgs fl rs e with
  | some (as, is, bs) =>
    if noDup is && bs.all (fun b => !is.contains b) then
      match cf f as with
      | .ok r outs => if (bs.isEmpty || (nolistR r && outs.all nolists)) && outs.length == is.length then .ok (.rv r) (putOuts is outs e) else .bad
      | .rz x outs => if (bs.isEmpty || (nolists x.args && outs.all nolists)) && outs.length == is.length then .rz x (putOuts is outs e) else .bad
      | .bad => .bad
    else .bad
  | none => .bad

/-! ### targets, loops -/
mutual
def bindT : T → D → Fm → Option Fm
  | .tN i, d, e => match e[i]? with
    | some (.own true _) => none
    | some _ => some (e.set i (.val d))
    | none => none
  | .tT es, .tuple ds, e => bindTs es ds e
  | .tT es, .list ds, e => bindTs es ds e
  | _, _, _ => none
def bindTs : T → List D → Fm → Option Fm
  | .nil, [], e => some e
  | .cons t r, d :: ds, e => match bindT t d e with
    | some e1 => bindTs r ds e1
    | none => none
  | _, _, _ => none
end
def wipeS : List Nat → Fm → Fm
  | [], e => e
  | i :: r, e => (wipeS r e).set i .no
def backS (e0 : Fm) : List Nat → Fm → Fm
  | [], e => e
  | i :: r, e => (backS e0 r e).set i (e0.getD i .no)
/-- a comprehension's loop: the list so far; what a turn puts behind it -/
def cLoop (step : D → Fm → List D → R (List D)) : List D → Fm → List D → R (List D)
  | [], e, acc => .ok acc e
  | d :: ds, e, acc => match step d e acc with
    | .ok acc1 e1 => cLoop step ds e1 acc1
    | _ => .bad
def fLoop (step : D → Fm → R Val) : List D → Fm → R Val
  | [], e => .ok (.fl .nx) e
  | d :: ds, e => match step d e with
    | .ok (.fl .nx) e1 => fLoop step ds e1
    | .ok (.fl .cont) e1 => fLoop step ds e1
    | .ok (.fl .brk) e1 => .ok (.fl .nx) e1
    | .ok (.fl (.ret r)) e1 => .ok (.fl (.ret r)) e1
    | .rz x e1 => .rz x e1
    | _ => .bad
def wLoop (c : Fm → R Bool) (body : Fm → R Val) : Nat → Fm → R Val
  | 0, _ => .bad
  | n + 1, e => match c e with
    | .ok true e1 => (match body e1 with
      | .ok (.fl .nx) e2 => wLoop c body n e2
      | .ok (.fl .cont) e2 => wLoop c body n e2
      | .ok (.fl .brk) e2 => .ok (.fl .nx) e2
      | .ok (.fl (.ret r)) e2 => .ok (.fl (.ret r)) e2
      | .rz x e2 => .rz x e2
      | _ => .bad)
    | .ok false e1 => .ok (.fl .nx) e1
    | .rz x e1 => .rz x e1
    | .bad => .bad
def testR (m : R Val) : R Bool := m.rv fun r e => match rd r e with
  | some d => (match tru d with
    | some k => .ok k e
    | none => .bad)
  | none => .bad
def optR (o : Option RV) (e : Fm) : R Val := match o with
  | some r => .ok (.rv r) e
  | none => .bad
def partR (m : R Val) : R (Option Int) := m.rv fun r e => match rd r e with
  | some (.int i) => .ok (some i) e
  | _ => .bad
def iota (lo : Int) : Nat → List D
  | 0 => []
  | n + 1 => .int lo :: iota (lo + 1) n
def enumF (k : Int) : List D → List D
  | [] => []
  | d :: r => .tuple [.int k, d] :: enumF (k + 1) r
def zipF : List D → List D → List D
  | x :: r, y :: s => .tuple [x, y] :: zipF r s
  | _, _ => []
def WF : Nat := 1000000
/-- the element of a comprehension, put behind the list so far -/
def pushE (acc : List D) (m : R Val) : R (List D) := m.rv fun r e => match fz r e with
  | some (d, e1) => if acc.length < LINE then .ok (acc ++ [d]) e1 else .bad
  | none => .bad

def ev (cf : CF) : T → Fm → R Val
  | .var i, e => (match e[i]? with
    | some (.val d) => .ok (.rv (.v d)) e
    | some (.own _ _) => .ok (.rv (.b i)) e
    | _ => .bad)
  | .glo _ d, e => .ok (.rv (.v d)) e
  | .const d, e => .ok (.rv (.v d)) e
  | .bin op a b, e => (ev cf a e).rv fun ra e1 => (ev cf b e1).rv fun rb e2 => (match rd ra e2, rd rb e2 with
    | some x, some y => optR (binD op x y) e2
    | _, _ => .bad)
  | .neg a, e => (ev cf a e).rv fun ra e1 => (match rd ra e1 with
    | some (.int i) => .ok (.rv (.v (.int (-i)))) e1
    | _ => .bad)
  | .notT a, e => (testR (ev cf a e)).bnd fun k e1 => .ok (.rv (.v (.bool (!k)))) e1
  | .cmp op a b, e => (ev cf a e).rv fun ra e1 => (ev cf b e1).rv fun rb e2 => (match rd ra e2, rd rb e2 with
    | some x, some y => (match cmpD op x y with
      | some k => .ok (.rv (.v (.bool k))) e2
      | none => .bad)
    | _, _ => .bad)
  | .chain op op' a b c, e => (ev cf a e).rv fun ra e1 => (ev cf b e1).rv fun rb e2 => (match rd ra e2, rd rb e2 with
    | some x, some y => (match cmpD op x y with
      | some true => (ev cf c e2).rv fun rc e3 => (match rd rb e3, rd rc e3 with
        | some y', some z => (match cmpD op' y' z with
          | some k => .ok (.rv (.v (.bool k))) e3
          | none => .bad)
        | _, _ => .bad)
      | some false => .ok (.rv (.v (.bool false))) e2
      | none => .bad)
    | _, _ => .bad)
  | .one a, e => ev cf a e
  | .and a b, e => (ev cf a e).rv fun ra e1 => (match (rd ra e1).bind tru with
    | some true => ev cf b e1
    | some false => .ok (.rv ra) e1
    | none => .bad)
  | .or a b, e => (ev cf a e).rv fun ra e1 => (match (rd ra e1).bind tru with
    | some true => .ok (.rv ra) e1
    | some false => ev cf b e1
    | none => .bad)
  | .ite c a b, e => (testR (ev cf c e)).bnd fun k e1 => if k = true then ev cf a e1 else ev cf b e1
  | .call f fl as, e => (ev cf as e).rvs fun rs e1 => doCall cf f fl rs e1
  | .prim p as, e => (ev cf as e).rvs fun rs e1 => (match rds rs e1 with
    | some ds => optR (primD p ds) e1
    | none => .bad)
  | .isi a cs, e => (ev cf a e).rv fun ra e1 => (match rd ra e1 with
    | some d => .ok (.rv (.v (.bool (isD d cs)))) e1
    | none => .bad)
  | .lenSet a, e => (ev cf a e).rv fun ra e1 => (match (rd ra e1).bind lenSetD with
    | some n => .ok (.rv (.v (.int n))) e1
    | none => .bad)
  | .sortSet a, e => (ev cf a e).rv fun ra e1 => (match (rd ra e1).bind sortSetD with
    | some ds => .ok (.rv (.o ds)) e1
    | none => .bad)
  | .tup es, e => (ev cf es e).rvs fun rs e1 => (match fzs rs e1 with
    | some (ds, e2) => if ds.length ≤ LINE then .ok (.rv (.v (.tuple ds))) e2 else .bad
    | none => .bad)
  | .lst es, e => (ev cf es e).rvs fun rs e1 => (match fzs rs e1 with
    | some (ds, e2) => if ds.length ≤ LINE then .ok (.rv (.o ds)) e2 else .bad
    | none => .bad)
  | .lrep es b, e => (ev cf es e).rvs fun rs e1 => (match fzs rs e1 with
    | some (ds, e2) => if ds.length ≤ LINE then (ev cf b e2).rv fun rb e3 => (match rd rb e3 with
      | some (.int k) => if -(2 ^ 63) ≤ k ∧ k < 2 ^ 63 ∧ ds.length * k.toNat ≤ LINE then .ok (.rv (.o (List.replicate k.toNat ds).flatten)) e3 else .bad
      | _ => .bad) else .bad
    | none => .bad)
  | .idx a b, e => (ev cf a e).rv fun ra e1 => (ev cf b e1).rv fun rb e2 => (match rd ra e2, rd rb e2 with
    | some x, some y => (match idxD x y with
      | some d => .ok (.rv (.v d)) e2
      | none => .bad)
    | _, _ => .bad)
  | .slc a lo hi, e => (ev cf a e).rv fun ra e1 => (match lo with
    | .absent => .ok none e1
    | _ => partR (ev cf lo e1) : R (Option Int)).bnd fun i e2 => (match hi with
    | .absent => .ok none e2
    | _ => partR (ev cf hi e2) : R (Option Int)).bnd fun j e3 => (match rd ra e3 with
    | some x => optR (slcD x i j) e3
    | none => .bad)
  | .comp elt tg src cond own, e => (ev cf src e).dsk fun items e1 =>
    if own.any (fun i => isOwnS e1[i]?) then .bad else
    (match cLoop (fun d e2 acc => match bindT tg d (wipeS own e2) with
      | none => .bad
      | some e3 => ((match cond with
        | .absent => .ok true e3
        | _ => testR (ev cf cond e3)) : R Bool).bnd fun k e4 => if k = true then pushE acc (ev cf elt e4) else .ok acc e4) items e1 [] with
    | .ok acc e5 => .ok (.rv (.o acc)) (backS e1 own e5)
    | _ => .bad)
  | .comp2 elt tg src cond tg2 src2 cond2 own own2, e => (ev cf src e).dsk fun items e1 =>
    if own.any (fun i => isOwnS e1[i]?) then .bad else
    (match cLoop (fun d e2 acc => match bindT tg d (wipeS own e2) with
      | none => .bad
      | some e3 => ((match cond with
        | .absent => .ok true e3
        | _ => testR (ev cf cond e3)) : R Bool).bnd fun k e4 => if k = true then (ev cf src2 e4).dsk fun items2 e5 =>
            cLoop (fun d e6 acc => match bindT tg2 d (wipeS own2 e6) with
              | none => .bad
              | some e7 => ((match cond2 with
                | .absent => .ok true e7
                | _ => testR (ev cf cond2 e7)) : R Bool).bnd fun k e8 => if k = true then pushE acc (ev cf elt e8) else .ok acc e8) items2 e5 acc
          else .ok acc e4) items e1 [] with
    | .ok acc e5 => .ok (.rv (.o acc)) (backS e1 own e5)
    | _ => .bad)
  | .absent, _ => .bad
  | .nil, e => .ok (.rvs []) e
  | .cons a r, e => (ev cf a e).rv fun ra e1 => (ev cf r e1).rvs fun rs e2 => .ok (.rvs (nrm ra :: rs)) e2
  | .sSeq a, e => (ev cf a e).rv fun ra e1 => (match fz ra e1 with
    | some (.list xs, e2) => .ok (.ds xs) e2
    | some (.tuple xs, e2) => .ok (.ds xs) e2
    | _ => .bad)
  | .sR1 a, e => (ev cf a e).rv fun ra e1 => (match rd ra e1 with
    | some (.int n) => if -(2 ^ 62) ≤ n ∧ n < 2 ^ 62 then .ok (.ds (iota 0 n.toNat)) e1 else .bad
    | _ => .bad)
  | .sR2 a b, e => (ev cf a e).rv fun ra e1 => (ev cf b e1).rv fun rb e2 => (match rd ra e2, rd rb e2 with
    | some (.int m), some (.int n) => if -(2 ^ 62) ≤ m ∧ m < 2 ^ 62 ∧ -(2 ^ 62) ≤ n ∧ n < 2 ^ 62 then .ok (.ds (iota m (n - m).toNat)) e2 else .bad
    | _, _ => .bad)
  | .sZip a b, e => (ev cf a e).rv fun ra e1 => (ev cf b e1).rv fun rb e2 => (match fz ra e2 with
    | some (x, e3) => (match fz rb e3 with
      | some (y, e4) => (match itemsOf x, itemsOf y with
        | some xs, some ys => .ok (.ds (zipF xs ys)) e4
        | _, _ => .bad)
      | none => .bad)
    | none => .bad)
  | .sEnum a, e => (ev cf a e).rv fun ra e1 => (match fz ra e1 with
    | some (x, e2) => (match itemsOf x with
      | some xs => .ok (.ds (enumF 0 xs)) e2
      | none => .bad)
    | none => .bad)
  | .tN _, _ => .bad
  | .tT _, _ => .bad
  | .asg (.tN i) x, e => (ev cf x e).rv fun r e1 => (match e1[i]? with
    | some (.own true _) => .bad
    | none => .bad
    | some _ => (match r with
      | .o ds => .ok (.fl .nx) (e1.set i (.own false ds))
      | _ => (match fz r e1 with
        | some (d, e2) => .ok (.fl .nx) (e2.set i (.val d))
        | none => .bad)))
  | .asg tg x, e => (ev cf x e).rv fun r e1 => (match fz r e1 with
    | some (d, e2) => (match bindT tg d e2 with
      | some e3 => .ok (.fl .nx) e3
      | none => .bad)
    | none => .bad)
  | .par i j a b, e => (ev cf a e).rv fun ra e1 => (ev cf b e1).rv fun rb e2 => (match keepS ra e2 with
    | some (sa, e3) => (match keepS rb e3 with
      | some (sb, e4) => if storable e4[i]? && storable e4[j]? then .ok (.fl .nx) ((e4.set i sa).set j sb) else .bad
      | none => .bad)
    | none => .bad)
  | .ifS c a b, e => (testR (ev cf c e)).bnd fun k e1 => if k = true then ev cf a e1 else ev cf b e1
  | .forS tg src body, e => (ev cf src e).dsk fun items e1 => fLoop (fun d e2 => match bindT tg d e2 with
    | some e3 => ev cf body e3
    | none => .bad) items e1
  | .whileS c body, e => wLoop (fun e1 => testR (ev cf c e1)) (fun e1 => ev cf body e1) WF e
  | .ret x, e => (ev cf x e).rv fun r e1 => (match r with
    | .b i => (match e1[i]? with
      | some (.own false ds) => .ok (.fl (.ret (.o ds))) (e1.set i .no)
      | some (.val d) => .ok (.fl (.ret (.v d))) e1
      | _ => .bad)
    | _ => .ok (.fl (.ret r)) e1)
  | .expr x, e => (ev cf x e).rv fun _ e1 => .ok (.fl .nx) e1
  | .app i x, e => if isOwnS e[i]? then (ev cf x e).rv fun r e1 => (match fz r e1 with
    | some (d, e2) => (match e2[i]? with
      | some (.own io ds) => if ds.length < LINE then .ok (.fl .nx) (e2.set i (.own io (ds ++ [d]))) else .bad
      | _ => .bad)
    | none => .bad) else .bad
  | .ext i x, e => if isOwnS e[i]? then (ev cf x e).rv fun r e1 => (match r, e1[i]? with
    | .o es, some (.own io ds) => if ds.length + es.length ≤ LINE then .ok (.fl .nx) (e1.set i (.own io (ds ++ es))) else .bad
    | _, _ => .bad) else .bad
  | .setIx i ix x, e => (ev cf x e).rv fun r e1 => (match fz r e1 with
    | some (d, e2) => if isOwnS e2[i]? then (ev cf ix e2).rv fun ri e3 => (match rd ri e3, e3[i]? with
      | some (.int n), some (.own io ds) => (match ixN ds.length n with
        | some j => .ok (.fl .nx) (e3.set i (.own io (ds.set j d)))
        | none => .bad)
      | _, _ => .bad) else .bad
    | none => .bad)
  | .never, _ => .bad
  | .brk, e => .ok (.fl .brk) e
  | .cont, e => .ok (.fl .cont) e
  | .pass, e => .ok (.fl .nx) e
  | .done, e => .ok (.fl .nx) e
  | .seq a b, e => (match ev cf a e with
    | .ok (.fl .nx) e1 => ev cf b e1
    | r => r)

/-! ### a table of functions -/
structure Fn where
  name : Str
  ns : List Str
  np : Nat
  fl : List Bool
  body : T
def startF (n : Nat) (as : List Arg) : Fm := as.map (fun a => match a with
  | .d d => Slot.val d
  | .io ds => Slot.own true ds) ++ List.replicate (n - as.length) Slot.no
/-- what stands in the slots handed in, behind the body -/
def outsF : List Bool → Nat → Fm → Option (List (List D))
  | [], _, _ => some []
  | true :: fl, i, e => match e[i]?, outsF fl (i + 1) e with
    | some (.own true ds), some r => some (ds :: r)
    | _, _ => none
  | false :: fl, i, e => outsF fl (i + 1) e
def argsFit : List Bool → List Arg → Bool
  | [], [] => true
  | true :: fl, .io _ :: as => argsFit fl as
  | false :: fl, .d _ :: as => argsFit fl as
  | _, _ => false
/-- a body's outcome, as the caller sees it -/
def endF (fl : List Bool) : R Val → CR
  | .ok (.fl (.ret (.v d))) e1 => (match outsF fl 0 e1 with
    | some outs => .ok (.v d) outs
    | none => .bad)
  | .ok (.fl (.ret (.o ds))) e1 => (match outsF fl 0 e1 with
    | some outs => .ok (.o ds) outs
    | none => .bad)
  | .ok (.fl .nx) e1 => (match outsF fl 0 e1 with
    | some outs => .ok (.v .none) outs
    | none => .bad)
  | .rz x e1 => (match outsF fl 0 e1 with
    | some outs => .rz x outs
    | none => .bad)
  | _ => .bad
def runF (tb : List Fn) : Nat → CF
  | 0, _, _ => .bad
  | k + 1, f, as => match tb.find? (fun fn => decide (fn.name = f)) with
    | none => .bad
    | some fn => if argsFit fn.fl as then endF fn.fl (ev (runF tb k) fn.body (startF fn.ns.length as)) else .bad
end L2.Mp
set_option Elab.async false
set_option linter.all false
set_option maxRecDepth 100000
set_option maxHeartbeats 4000000
namespace L2.Mp
open PySem PySem.Spec PyProof.Rows L2

/-! ### the kernel computes ev -/
example (cf : CF) (e : Fm) : ev cf (.bin .Add (.const (.int 2)) (.const (.int 3))) e = .ok (.rv (.v (.int 5))) e := rfl
/-! ### data read off a part of the abstract heap -/
theorem Rd.same {G G' : Hp} (s : Same G G') {a : Addr} {u : HO} (h : Rd G a u) : Rd G' a u := by
  rcases h with h | ⟨o, h⟩
  · exact .inl (s _ _ h)
  · exact .inr ⟨o, s _ _ h⟩
theorem SqL.same {K : PySem.W.Frag} {G G' : Hp} (s : Same G G') {a : Addr} {xs : List V} (h : SqL K G a xs) : SqL K G' a xs := by
  rcases h with h | h
  · exact .inl (Rd.same s h)
  · exact .inr h
theorem SqT.same {K : PySem.W.Frag} {G G' : Hp} (s : Same G G') {a : Addr} {xs : List V} (h : SqT K G a xs) : SqT K G' a xs := by
  rcases h with h | h
  · exact .inl (Rd.same s h)
  · exact .inr h
mutual
theorem Dp.same {K : PySem.W.Frag} {G G' : Hp} (s : Same G G') : ∀ (d : D) (v : V), Dp K G v d → Dp K G' v d
  | .none, _, h => by cases h; exact .non
  | .bool b, _, h => by cases h; exact .bl b
  | .int i, _, h => by cases h; exact .int i
  | .str x, _, h => by cases h; exact .str x
  | .list ds, _, h => by
    cases h with
    | lst hs ha => exact .lst (SqL.same s hs) (Dp.sameAll s ds _ ha)
  | .tuple ds, _, h => by
    cases h with
    | tup hs ha => exact .tup (SqT.same s hs) (Dp.sameAll s ds _ ha)
  | .dict _, _, h => by cases h
theorem Dp.sameAll {K : PySem.W.Frag} {G G' : Hp} (s : Same G G') : ∀ (ds : List D) (vs : List V), DpAll K G vs ds → DpAll K G' vs ds
  | [], _, h => by cases h; exact .nil
  | d :: ds, _, h => by
    cases h with
    | cons h1 h2 => exact .cons (Dp.same s d _ h1) (Dp.sameAll s ds _ h2)
end
theorem DpAll.length {K : PySem.W.Frag} {G : Hp} : ∀ {vs : List V} {ds : List D}, DpAll K G vs ds → vs.length = ds.length
  | _, _, .nil => rfl
  | _, _, .cons _ h => congrArg (· + 1) (DpAll.length h)
theorem DpAll.get {K : PySem.W.Frag} {G : Hp} : ∀ {vs : List V} {ds : List D} {i : Nat} {d : D}, DpAll K G vs ds → ds[i]? = some d → ∃ v, vs[i]? = some v ∧ Dp K G v d
  | v :: _, _ :: _, 0, d, .cons h _, e => by
    cases (Option.some.inj (show some _ = some d from e))
    exact ⟨v, rfl, h⟩
  | _ :: _, _ :: _, i + 1, d, .cons _ h, e => DpAll.get (i := i) h e
  | [], [], _, _, _, e => by simp at e
theorem DpAll.append {K : PySem.W.Frag} {G : Hp} : ∀ {vs us : List V} {ds es : List D}, DpAll K G vs ds → DpAll K G us es → DpAll K G (vs ++ us) (ds ++ es)
  | [], _, [], _, _, h => h
  | _ :: _, _, _ :: _, _, .cons h1 h2, h => .cons h1 (DpAll.append h2 h)
theorem DpAll.take {K : PySem.W.Frag} {G : Hp} : ∀ {vs : List V} {ds : List D} (n : Nat), DpAll K G vs ds → DpAll K G (vs.take n) (ds.take n)
  | _, _, 0, _ => .nil
  | [], [], _ + 1, _ => .nil
  | _ :: _, _ :: _, n + 1, .cons h1 h2 => .cons h1 (DpAll.take n h2)
theorem DpAll.drop {K : PySem.W.Frag} {G : Hp} : ∀ {vs : List V} {ds : List D} (n : Nat), DpAll K G vs ds → DpAll K G (vs.drop n) (ds.drop n)
  | _, _, 0, h => h
  | [], [], _ + 1, _ => .nil
  | _ :: _, _ :: _, n + 1, .cons h1 h2 => DpAll.drop n h2
theorem DpAll.set {K : PySem.W.Frag} {G : Hp} {v : V} {d : D} (hd : Dp K G v d) : ∀ {vs : List V} {ds : List D} (i : Nat), DpAll K G vs ds → DpAll K G (vs.set i v) (ds.set i d)
  | [], [], _, _ => .nil
  | _ :: _, _ :: _, 0, .cons h1 h2 => .cons hd h2
  | _ :: _, _ :: _, i + 1, .cons h1 h2 => .cons h1 (DpAll.set hd i h2)
theorem DpAll.rep {K : PySem.W.Frag} {G : Hp} {vs : List V} {ds : List D} (h : DpAll K G vs ds) : ∀ k : Nat, DpAll K G (List.replicate k vs).flatten (List.replicate k ds).flatten
  | 0 => .nil
  | k + 1 => by
    rw [List.replicate_succ, List.replicate_succ, List.flatten_cons, List.flatten_cons]
    exact DpAll.append h (DpAll.rep h k)
/-- without what is taken out (lists) nothing is lacking to data without lists -/
theorem Rd.less {G G' : Hp} (s : ∀ b o, G b = some o → G' b = some o ∨ ∃ xs, G b = some (.lst xs)) {a : Addr} {xs : List V} (h : Rd G a (.tup xs)) : Rd G' a (.tup xs) := by
  rcases h with h | ⟨o, h⟩
  · rcases s _ _ h with e | ⟨_, e⟩
    · exact .inl e
    · rw [h] at e; cases e
  · rcases s _ _ h with e | ⟨_, e⟩
    · exact .inr ⟨o, e⟩
    · rw [h] at e; cases e
mutual
theorem Dp.less {K : PySem.W.Frag} {G G' : Hp} (s : ∀ b o, G b = some o → G' b = some o ∨ ∃ xs, G b = some (.lst xs)) : ∀ (d : D) (v : V), nolist d = true → Dp K G v d → Dp K G' v d
  | .none, _, _, h => by cases h; exact .non
  | .bool b, _, _, h => by cases h; exact .bl b
  | .int i, _, _, h => by cases h; exact .int i
  | .str x, _, _, h => by cases h; exact .str x
  | .list ds, _, z, h => by simp [nolist] at z
  | .tuple ds, _, z, h => by
    cases h with
    | tup hs ha =>
      refine .tup ?_ (Dp.lessAll s ds _ (by simpa [nolist] using z) ha)
      rcases hs with hs | hs
      · exact .inl (Rd.less s hs)
      · exact .inr hs
  | .dict _, _, _, h => by cases h
theorem Dp.lessAll {K : PySem.W.Frag} {G G' : Hp} (s : ∀ b o, G b = some o → G' b = some o ∨ ∃ xs, G b = some (.lst xs)) : ∀ (ds : List D) (vs : List V), nolists ds = true → DpAll K G vs ds → DpAll K G' vs ds
  | [], _, _, h => by cases h; exact .nil
  | d :: ds, _, z, h => by
    cases h with
    | cons h1 h2 =>
      simp only [nolists, Bool.and_eq_true] at z
      exact .cons (Dp.less s d _ z.1 h1) (Dp.lessAll s ds _ z.2 h2)
end

/-! ### the frame and the heap -/
/-- F: foreign, G: told for good, H: the abstract heap; S: the slots at the entry -/
structure Rl (K : PySem.W.Frag) (F G H : Hp) (S σ : St) (e : Fm) : Prop where
  g : Same G H
  f : Same F H
  fg : ∀ b o, G b = some o → F b = none
  len : e.length = σ.length
  val : ∀ (i : Nat) (d : D), e[i]? = some (.val d) → ∃ v, σ[i]? = some (some v) ∧ Dp K G v d
  own : ∀ (i : Nat) (io : Bool) (ds : List D), e[i]? = some (.own io ds) → ∃ (a : Addr) (vs : List V), σ[i]? = some (some (.ref a)) ∧ H a = some (.lst vs) ∧ G a = none ∧ F a = none ∧ DpAll K G vs ds ∧ (io = true → S[i]? = some (some (.ref a)))
  inj : ∀ (i j : Nat) (io jo : Bool) (ds es : List D) (a : Addr), e[i]? = some (.own io ds) → e[j]? = some (.own jo es) → σ[i]? = some (some (.ref a)) → σ[j]? = some (some (.ref a)) → i = j
/-- no slot's own list stands at a -/
def NoOwn (σ : St) (e : Fm) (a : Addr) : Prop := ∀ (i : Nat) (io : Bool) (ds : List D), e[i]? = some (.own io ds) → σ[i]? ≠ some (some (.ref a))
def RvOk (K : PySem.W.Frag) (F G H : Hp) (σ : St) (e : Fm) (v : V) : RV → Prop
  | .v d => Dp K G v d
  | .o ds => ∃ (a : Addr) (vs : List V), v = .ref a ∧ H a = some (.lst vs) ∧ G a = none ∧ F a = none ∧ NoOwn σ e a ∧ DpAll K G vs ds
  | .b i => σ[i]? = some (some v)
theorem smUpd {G H : Hp} {a : Addr} {o : HO} (s : Same G H) (h : H a = some o) : Same (upd G a o) H := fun b u e => by
  by_cases hb : b = a
  · subst hb; rw [upd_same] at e; cases e; exact h
  · rw [upd_ne hb] at e; exact s b u e
theorem smUpdN {G : Hp} {a : Addr} {o : HO} (h : G a = none) : Same G (upd G a o) := fun b u e => by rw [upd_ne (ne_of_none e h)]; exact e
theorem smUpd2 {G H : Hp} {a : Addr} {o : HO} (s : Same G H) : Same (upd G a o) (upd H a o) := fun b u e => by
  by_cases hb : b = a
  · subst hb; rw [upd_same] at e ⊢; exact e
  · rw [upd_ne hb] at e ⊢; exact s b u e
theorem smNone {G H : Hp} (s : Same G H) {a : Addr} (h : H a = none) : G a = none := s.free h
section
variable {K : PySem.W.Frag} {F G H : Hp} {S σ : St} {e : Fm}
theorem Rl.ownNe (r : Rl K F G H S σ e) {p : Addr} (hp : H p = none) : NoOwn σ e p := fun i io ds he hs => by
  obtain ⟨a, vs, h1, h2, _⟩ := r.own i io ds he
  rw [hs] at h1
  cases h1
  rw [hp] at h2
  cases h2
/-- a new object, told for good -/
theorem Rl.newG (r : Rl K F G H S σ e) {p : Addr} {o : HO} (hp : H p = none) : Rl K F (upd G p o) (upd H p o) S σ e where
  g := smUpd2 r.g
  f := r.f.trans (smUpdN hp)
  fg := fun b u h => by
    by_cases hb : b = p
    · subst hb; exact smNone r.f hp
    · rw [upd_ne hb] at h; exact r.fg b u h
  len := r.len
  val := fun i d h => by
    obtain ⟨v, h1, h2⟩ := r.val i d h
    exact ⟨v, h1, Dp.same (smUpdN (smNone r.g hp)) _ _ h2⟩
  own := fun i io ds h => by
    obtain ⟨a, vs, h1, h2, h3, h4, h5, h6⟩ := r.own i io ds h
    have ne : a ≠ p := ne_of_none h2 hp
    exact ⟨a, vs, h1, by rw [upd_ne ne]; exact h2, by rw [upd_ne ne]; exact h3, h4, Dp.sameAll (smUpdN (smNone r.g hp)) _ _ h5, h6⟩
  inj := r.inj
/-- a new object, not told of -/
theorem Rl.newH (r : Rl K F G H S σ e) {p : Addr} {o : HO} (hp : H p = none) : Rl K F G (upd H p o) S σ e where
  g := r.g.trans (smUpdN hp)
  f := r.f.trans (smUpdN hp)
  fg := r.fg
  len := r.len
  val := r.val
  own := fun i io ds h => by
    obtain ⟨a, vs, h1, h2, h3, h4, h5, h6⟩ := r.own i io ds h
    exact ⟨a, vs, h1, by rw [upd_ne (ne_of_none h2 hp)]; exact h2, h3, h4, h5, h6⟩
  inj := r.inj
/-- a thing that nobody else knows is told for good -/
theorem Rl.tell (r : Rl K F G H S σ e) {a : Addr} {o : HO} (ha : H a = some o) (hg : G a = none) (hf : F a = none) (no : NoOwn σ e a) : Rl K F (upd G a o) H S σ e where
  g := smUpd r.g ha
  f := r.f
  fg := fun b u h => by
    by_cases hb : b = a
    · subst hb; exact hf
    · rw [upd_ne hb] at h; exact r.fg b u h
  len := r.len
  val := fun i d h => by
    obtain ⟨v, h1, h2⟩ := r.val i d h
    exact ⟨v, h1, Dp.same (smUpdN hg) _ _ h2⟩
  own := fun i io ds h => by
    obtain ⟨b, vs, h1, h2, h3, h4, h5, h6⟩ := r.own i io ds h
    have ne : b ≠ a := fun z => no i io ds h (by rw [← z]; exact h1)
    exact ⟨b, vs, h1, h2, by rw [upd_ne ne]; exact h3, h4, Dp.sameAll (smUpdN hg) _ _ h5, h6⟩
  inj := r.inj
/-- .. is held as foreign for a while -/
theorem Rl.hold (r : Rl K F G H S σ e) {a : Addr} {o : HO} (ha : H a = some o) (hg : G a = none) (no : NoOwn σ e a) : Rl K (upd F a o) G H S σ e where
  g := r.g
  f := smUpd r.f ha
  fg := fun b u h => by
    by_cases hb : b = a
    · subst hb; rw [hg] at h; cases h
    · rw [upd_ne hb]; exact r.fg b u h
  len := r.len
  val := r.val
  own := fun i io ds h => by
    obtain ⟨b, vs, h1, h2, h3, h4, h5, h6⟩ := r.own i io ds h
    have ne : b ≠ a := fun z => no i io ds h (by rw [← z]; exact h1)
    exact ⟨b, vs, h1, h2, h3, by rw [upd_ne ne]; exact h4, h5, h6⟩
  inj := r.inj
theorem Rl.drop (r : Rl K (upd F a o) G H S σ e) (hf : F a = none) : Rl K F G H S σ e ∧ H a = some o ∧ G a = none ∧ NoOwn σ e a := by
  refine ⟨⟨r.g, fun b u h => r.f b u (by rw [upd_ne (ne_of_none h hf)]; exact h), fun b u h => ?_, r.len, r.val, fun i io ds h => ?_, r.inj⟩, r.f a o upd_same, ?_, fun i io ds h hs => ?_⟩
  · have q := r.fg b u h
    by_cases hb : b = a
    · subst hb; exact hf
    · rw [upd_ne hb] at q; exact q
  · obtain ⟨b, vs, h1, h2, h3, h4, h5, h6⟩ := r.own i io ds h
    refine ⟨b, vs, h1, h2, h3, ?_, h5, h6⟩
    by_cases hb : b = a
    · subst hb; exact hf
    · rw [upd_ne hb] at h4; exact h4
  · cases q : G a with
    | none => rfl
    | some u =>
      have z := r.fg a u q
      rw [upd_same] at z
      cases z
  · obtain ⟨b, vs, h1, h2, h3, h4, h5, h6⟩ := r.own i io ds h
    rw [hs] at h1
    cases h1
    rw [upd_same] at h4
    cases h4
theorem get_set {α : Type} {l : List α} {i j : Nat} {x y : α} (h : (l.set i x)[j]? = some y) : (j = i ∧ y = x ∧ i < l.length) ∨ (j ≠ i ∧ l[j]? = some y) := by
  by_cases hj : i = j
  · subst hj
    by_cases hl : i < l.length
    · rw [List.getElem?_set_self hl] at h
      cases h
      exact .inl ⟨rfl, rfl, hl⟩
    · rw [List.getElem?_eq_none (by rw [List.length_set]; omega)] at h
      cases h
  · rw [List.getElem?_set_ne hj] at h
    exact .inr ⟨fun z => hj z.symm, h⟩
/-- a slot's own list is told for good -/
theorem Rl.freeze (r : Rl K F G H S σ e) {i : Nat} {io : Bool} {ds : List D} (h : e[i]? = some (.own io ds)) : ∃ a vs, σ[i]? = some (some (.ref a)) ∧ G a = none ∧ Rl K F (upd G a (.lst vs)) H S σ (e.set i (.val (.list ds))) ∧ Dp K (upd G a (.lst vs)) (.ref a) (.list ds) := by
  obtain ⟨a, vs, h1, h2, h3, h4, h5, h6⟩ := r.own i io ds h
  have hd : Dp K (upd G a (.lst vs)) (.ref a) (.list ds) := .lst (.inl (.inl upd_same)) (Dp.sameAll (smUpdN h3) _ _ h5)
  refine ⟨a, vs, h1, h3, ⟨smUpd r.g h2, r.f, fun b u q => ?_, by rw [List.length_set]; exact r.len, fun j d q => ?_, fun j jo es q => ?_, fun j k jo ko es fs b q1 q2 => ?_⟩, hd⟩
  · by_cases hb : b = a
    · subst hb; exact h4
    · rw [upd_ne hb] at q; exact r.fg b u q
  · rcases get_set q with ⟨rfl, z, _⟩ | ⟨_, q⟩
    · cases z
      exact ⟨_, h1, hd⟩
    · obtain ⟨v, q1, q2⟩ := r.val j d q
      exact ⟨v, q1, Dp.same (smUpdN h3) _ _ q2⟩
  · rcases get_set q with ⟨rfl, z, _⟩ | ⟨hj, q⟩
    · cases z
    · obtain ⟨b, us, q1, q2, q3, q4, q5, q6⟩ := r.own j jo es q
      have ne : b ≠ a := fun z => by
        subst z
        exact hj (r.inj j i jo io es ds b q h q1 h1)
      exact ⟨b, us, q1, q2, by rw [upd_ne ne]; exact q3, q4, Dp.sameAll (smUpdN h3) _ _ q5, q6⟩
  · rcases get_set q1 with ⟨rfl, z, _⟩ | ⟨_, q1⟩
    · cases z
    · rcases get_set q2 with ⟨rfl, z, _⟩ | ⟨_, q2⟩
      · cases z
      · exact r.inj j k jo ko es fs b q1 q2
/-- a value is stored -/
theorem Rl.setVal (r : Rl K F G H S σ e) {i : Nat} {v : V} {d : D} (hd : Dp K G v d) : Rl K F G H S (σ.set i (some v)) (e.set i (.val d)) where
  g := r.g
  f := r.f
  fg := r.fg
  len := by rw [List.length_set, List.length_set]; exact r.len
  val := fun j x h => by
    rcases get_set h with ⟨rfl, z, hl⟩ | ⟨hj, h⟩
    · cases z
      exact ⟨v, by rw [List.getElem?_set_self (by rw [← r.len]; exact hl)], hd⟩
    · rw [List.getElem?_set_ne (Ne.symm hj)]
      exact r.val j x h
  own := fun j jo es h => by
    rcases get_set h with ⟨rfl, z, hl⟩ | ⟨hj, h⟩
    · cases z
    · rw [List.getElem?_set_ne (Ne.symm hj)]
      exact r.own j jo es h
  inj := fun j k jo ko es fs b q1 q2 h1 h2 => by
    rcases get_set q1 with ⟨rfl, z, _⟩ | ⟨hj, q1⟩
    · cases z
    · rcases get_set q2 with ⟨rfl, z, _⟩ | ⟨hk, q2⟩
      · cases z
      · rw [List.getElem?_set_ne (Ne.symm hj)] at h1
        rw [List.getElem?_set_ne (Ne.symm hk)] at h2
        exact r.inj j k jo ko es fs b q1 q2 h1 h2
/-- a fresh list becomes a slot's own -/
theorem Rl.setOwn (r : Rl K F G H S σ e) {i : Nat} {a : Addr} {vs : List V} {ds : List D} (ha : H a = some (.lst vs)) (hg : G a = none) (hf : F a = none) (no : NoOwn σ e a) (hd : DpAll K G vs ds) :
    Rl K F G H S (σ.set i (some (.ref a))) (e.set i (.own false ds)) where
  g := r.g
  f := r.f
  fg := r.fg
  len := by rw [List.length_set, List.length_set]; exact r.len
  val := fun j x h => by
    rcases get_set h with ⟨rfl, z, hl⟩ | ⟨hj, h⟩
    · cases z
    · rw [List.getElem?_set_ne (Ne.symm hj)]
      exact r.val j x h
  own := fun j jo es h => by
    rcases get_set h with ⟨rfl, z, hl⟩ | ⟨hj, h⟩
    · cases z
      exact ⟨a, vs, by rw [List.getElem?_set_self (by rw [← r.len]; exact hl)], ha, hg, hf, hd, fun z => by cases z⟩
    · rw [List.getElem?_set_ne (Ne.symm hj)]
      exact r.own j jo es h
  inj := fun j k jo ko es fs b q1 q2 h1 h2 => by
    rcases get_set q1 with ⟨rfl, z, hl⟩ | ⟨hj, q1'⟩
    · rcases get_set q2 with ⟨rfl, z, _⟩ | ⟨hk, q2⟩
      · rfl
      · rw [List.getElem?_set_self (by rw [← r.len]; exact hl)] at h1
        cases h1
        rw [List.getElem?_set_ne (Ne.symm hk)] at h2
        exact absurd h2 (no k ko fs q2)
    · rw [List.getElem?_set_ne (Ne.symm hj)] at h1
      rcases get_set q2 with ⟨rfl, z, hl⟩ | ⟨hk, q2⟩
      · rw [List.getElem?_set_self (by rw [← r.len]; exact hl)] at h2
        cases h2
        exact absurd h1 (no j jo es q1')
      · rw [List.getElem?_set_ne (Ne.symm hk)] at h2
        exact r.inj j k jo ko es fs b q1' q2 h1 h2
/-- a slot's own list is changed -/
theorem Rl.putOwn (r : Rl K F G H S σ e) {i : Nat} {io : Bool} {a : Addr} {vs' : List V} {ds ds' : List D} (h : e[i]? = some (.own io ds)) (hs : σ[i]? = some (some (.ref a))) (hd : DpAll K G vs' ds') :
    Rl K F G (upd H a (.lst vs')) S σ (e.set i (.own io ds')) := by
  obtain ⟨a', vs, h1, h2, h3, h4, h5, h6⟩ := r.own i io ds h
  rw [hs] at h1
  cases h1
  refine ⟨fun b u q => ?_, fun b u q => ?_, r.fg, by rw [List.length_set]; exact r.len, fun j d q => ?_, fun j jo es q => ?_, fun j k jo ko es fs b q1 q2 => ?_⟩
  · rw [upd_ne (ne_of_none q h3)]; exact r.g b u q
  · rw [upd_ne (ne_of_none q h4)]; exact r.f b u q
  · rcases get_set q with ⟨rfl, z, _⟩ | ⟨_, q⟩
    · cases z
    · exact r.val j d q
  · rcases get_set q with ⟨rfl, z, _⟩ | ⟨hj, q⟩
    · cases z
      exact ⟨a, vs', hs, upd_same, h3, h4, hd, h6⟩
    · obtain ⟨b, us, q1, q2, q3, q4, q5, q6⟩ := r.own j jo es q
      have ne : b ≠ a := fun z => by
        subst z
        exact hj (r.inj j i jo io es ds b q h q1 hs)
      exact ⟨b, us, q1, by rw [upd_ne ne]; exact q2, q3, q4, q5, q6⟩
  · have key : ∀ {j : Nat} {jo : Bool} {es : List D}, (e.set i (.own io ds'))[j]? = some (.own jo es) → ∃ jo' es', e[j]? = some (.own jo' es') := fun {j jo es} q => by
      rcases get_set q with ⟨rfl, z, _⟩ | ⟨_, q⟩
      · exact ⟨_, _, h⟩
      · exact ⟨_, _, q⟩
    obtain ⟨_, _, p1⟩ := key q1
    obtain ⟨_, _, p2⟩ := key q2
    exact r.inj j k _ _ _ _ b p1 p2
/-- a slot forgotten -/
theorem Rl.forget (r : Rl K F G H S σ e) (i : Nat) : Rl K F G H S σ (e.set i .no) where
  g := r.g
  f := r.f
  fg := r.fg
  len := by rw [List.length_set]; exact r.len
  val := fun j x h => by
    rcases get_set h with ⟨rfl, z, hl⟩ | ⟨hj, h⟩
    · cases z
    · exact r.val j x h
  own := fun j jo es h => by
    rcases get_set h with ⟨rfl, z, hl⟩ | ⟨hj, h⟩
    · cases z
    · exact r.own j jo es h
  inj := fun j k jo ko es fs b q1 q2 h1 h2 => by
    rcases get_set q1 with ⟨rfl, z, _⟩ | ⟨hj, q1⟩
    · cases z
    · rcases get_set q2 with ⟨rfl, z, _⟩ | ⟨hk, q2⟩
      · cases z
      · exact r.inj j k jo ko es fs b q1 q2 h1 h2
end

/-! ### outcomes -/
/-- data read off the heap as it stands, its items off what is told for good -/
def Dq (K : PySem.W.Frag) (G H : Hp) (v : V) (d : D) : Prop := Dp K G v d ∨ ∃ (a : Addr) (vs : List V) (ds : List D), v = .ref a ∧ d = .list ds ∧ H a = some (.lst vs) ∧ DpAll K G vs ds
theorem Dq.dp {K : PySem.W.Frag} {G H : Hp} {v : V} {d : D} (h : Dq K G H v d) (s : Same G H) : Dp K H v d := by
  rcases h with h | ⟨a, vs, ds, rfl, rfl, h1, h2⟩
  · exact Dp.same s _ _ h
  · exact .lst (.inl (.inl h1)) (Dp.sameAll s _ _ h2)
section
variable {K : PySem.W.Frag} {F G H : Hp} {S σ : St} {e : Fm} {v : V} {r : RV}
theorem RvOk.nrm (h : RvOk K F G H σ e v r) (l : Rl K F G H S σ e) : ∃ G', Same G G' ∧ Rl K F G' H S σ e ∧ RvOk K F G' H σ e v (nrm r) := by
  cases r with
  | v d => exact ⟨G, Same.refl G, l, h⟩
  | b i => exact ⟨G, Same.refl G, l, h⟩
  | o ds =>
    obtain ⟨a, vs, rfl, h1, h2, h3, h4, h5⟩ := h
    exact ⟨upd G a (.lst vs), smUpdN h2, l.tell h1 h2 h3 h4, .lst (.inl (.inl upd_same)) (Dp.sameAll (smUpdN h2) _ _ h5)⟩
/-- a kept outcome, later on -/
theorem RvOk.later {G' H' : Hp} {e' : Fm} (h : RvOk K F G H σ e v (L2.Mp.nrm r)) (s : Same G G') : RvOk K F G' H' σ e' v (L2.Mp.nrm r) := by
  cases r with
  | v d => exact Dp.same s _ _ h
  | b i => exact h
  | o ds => exact Dp.same s _ _ h
theorem rd_nrm (r : RV) (e : Fm) : rd (nrm r) e = rd r e := by cases r <;> rfl
theorem RvOk.rd (h : RvOk K F G H σ e v (L2.Mp.nrm r)) (l : Rl K F G H S σ e) {d : D} (hr : L2.Mp.rd r e = some d) : Dq K G H v d := by
  cases r with
  | v x => cases hr; exact .inl h
  | o ds => cases hr; exact .inl h
  | b i =>
    have h : σ[i]? = some (some v) := h
    have hr : (match e[i]? with
      | some (.own _ ds) => some (.list ds)
      | some (.val d) => some d
      | _ => none) = some d := hr
    cases q : e[i]? with
    | none => rw [q] at hr; cases hr
    | some z =>
      rw [q] at hr
      cases z with
      | no => cases hr
      | val x =>
        cases hr
        obtain ⟨u, h1, h2⟩ := l.val i d q
        rw [h] at h1
        cases h1
        exact .inl h2
      | own io ds =>
        cases hr
        obtain ⟨a, vs, h1, h2, _, _, h5, _⟩ := l.own i io ds q
        rw [h] at h1
        cases h1
        exact .inr ⟨a, vs, ds, rfl, rfl, h2, h5⟩
theorem RvOk.fz (h : RvOk K F G H σ e v r) (l : Rl K F G H S σ e) {d : D} {e' : Fm} (hr : fz r e = some (d, e')) : ∃ G', Same G G' ∧ Rl K F G' H S σ e' ∧ Dp K G' v d := by
  cases r with
  | v x => cases hr; exact ⟨G, Same.refl G, l, h⟩
  | o ds =>
    cases hr
    obtain ⟨a, vs, rfl, h1, h2, h3, h4, h5⟩ := h
    exact ⟨upd G a (.lst vs), smUpdN h2, l.tell h1 h2 h3 h4, .lst (.inl (.inl upd_same)) (Dp.sameAll (smUpdN h2) _ _ h5)⟩
  | b i =>
    have h : σ[i]? = some (some v) := h
    have hr : (match e[i]? with
      | some (.own false ds) => some (PyData.list ds, e.set i (.val (.list ds)))
      | some (.val d) => some (d, e)
      | _ => none) = some (d, e') := hr
    cases q : e[i]? with
    | none => rw [q] at hr; cases hr
    | some z =>
      rw [q] at hr
      cases z with
      | no => cases hr
      | val x =>
        cases hr
        obtain ⟨u, h1, h2⟩ := l.val i d q
        rw [h] at h1
        cases h1
        exact ⟨G, Same.refl G, l, h2⟩
      | own io ds =>
        cases io with
        | true => cases hr
        | false =>
          cases hr
          obtain ⟨a, vs, h1, h2, h3, h4⟩ := l.freeze q
          rw [h] at h1
          cases h1
          exact ⟨_, smUpdN h2, h3, h4⟩
theorem fz_nrm (r : RV) (e : Fm) : fz (nrm r) e = fz r e := by cases r <;> rfl
end
def RvsOk (K : PySem.W.Frag) (F G H : Hp) (σ : St) (e : Fm) : List V → List RV → Prop
  | [], [] => True
  | v :: vs, r :: rs => RvOk K F G H σ e v (nrm r) ∧ RvsOk K F G H σ e vs rs
  | _, _ => False
theorem RvsOk.later {K : PySem.W.Frag} {F G H G' H' : Hp} {σ : St} {e e' : Fm} (s : Same G G') : ∀ {vs : List V} {rs : List RV}, RvsOk K F G H σ e vs rs → RvsOk K F G' H' σ e' vs rs
  | [], [], _ => trivial
  | _ :: _, _ :: _, ⟨h1, h2⟩ => ⟨h1.later s, RvsOk.later s h2⟩
def DqAll (K : PySem.W.Frag) (G H : Hp) : List V → List D → Prop
  | [], [] => True
  | v :: vs, d :: ds => Dq K G H v d ∧ DqAll K G H vs ds
  | _, _ => False
theorem RvsOk.rds {K : PySem.W.Frag} {F G H : Hp} {S σ : St} {e : Fm} (l : Rl K F G H S σ e) : ∀ {vs : List V} {rs : List RV} {ds : List D}, RvsOk K F G H σ e vs rs → rds rs e = some ds → DqAll K G H vs ds
  | [], [], ds, _, h => by cases h; trivial
  | v :: vs, r :: rs, ds, ⟨h1, h2⟩, h => by
    have h : (match rd r e, L2.Mp.rds rs e with
      | some d, some ds => some (d :: ds)
      | _, _ => none) = some ds := h
    cases q : rd r e with
    | none => rw [q] at h; cases h
    | some d =>
      cases q2 : L2.Mp.rds rs e with
      | none => rw [q, q2] at h; cases h
      | some ds' =>
        rw [q, q2] at h
        cases h
        exact ⟨h1.rd l q, RvsOk.rds l h2 q2⟩
  | [], _ :: _, _, h, _ => h.elim
  | _ :: _, [], _, h, _ => h.elim
theorem RvsOk.fzs {K : PySem.W.Frag} {F : Hp} {S σ : St} : ∀ {G H : Hp} {e e' : Fm} {vs : List V} {rs : List RV} {ds : List D}, Rl K F G H S σ e → RvsOk K F G H σ e vs rs → fzs rs e = some (ds, e') → ∃ G', Same G G' ∧ Rl K F G' H S σ e' ∧ DpAll K G' vs ds
  | G, H, e, e', [], [], ds, l, _, h => by cases h; exact ⟨G, Same.refl G, l, .nil⟩
  | G, H, e, e', v :: vs, r :: rs, ds, l, ⟨h1, h2⟩, h => by
    have h : (match fz r e with
      | some (d, e1) => (match L2.Mp.fzs rs e1 with
        | some (ds, e2) => some (d :: ds, e2)
        | none => none)
      | none => none) = some (ds, e') := h
    cases q : fz r e with
    | none => rw [q] at h; cases h
    | some p =>
      obtain ⟨d, e1⟩ := p
      rw [q] at h
      dsimp only at h
      cases q2 : L2.Mp.fzs rs e1 with
      | none => rw [q2] at h; cases h
      | some p2 =>
        obtain ⟨ds', e2⟩ := p2
        rw [q2] at h
        cases h
        obtain ⟨G1, s1, l1, d1⟩ := h1.fz l (by rw [fz_nrm]; exact q)
        obtain ⟨G2, s2, l2, d2⟩ := RvsOk.fzs l1 (RvsOk.later s1 h2) q2
        exact ⟨G2, s1.trans s2, l2, .cons (Dp.same s2 _ _ d1) d2⟩
  | _, _, _, _, [], _ :: _, _, _, h, _ => h.elim
  | _, _, _, _, _ :: _, [], _, _, h, _ => h.elim
end L2.Mp
set_option Elab.async false
set_option linter.all false
set_option maxRecDepth 100000
set_option maxHeartbeats 4000000
namespace L2.Mp
open PySem PySem.Spec PyProof.Rows L2

/-! ### the weakest readings -/
abbrev wxE (X : Cx) (x : Expr) : TE := fun σ H Q => ∀ pins s, Inv X pins σ H s → wpAny (model X.prog X.w) X.A (eval x X.env) (EP X pins σ Q) X.xe s
abbrev wxT (X : Cx) (x : Expr) : TT := fun σ H Q => ∀ pins s, Inv X pins σ H s → wpAny (model X.prog X.w) X.A (isTrue x X.env (eval x X.env)) (TP X pins σ Q) X.xe s
abbrev wxW (X : Cx) (x : Expr) : TT := fun σ H Q => ∀ (wh : Sem Value) pins s, Inv X pins σ H s → wpAny (model X.prog X.w) X.A (isTrue x X.env wh) (TP X pins σ Q) X.xe s
abbrev wxA (X : Cx) (es : List Expr) : TA := fun σ H Q => ∀ (pos : Pos) pins s, Inv X pins σ H s → wpAny (model X.prog X.w) X.A (spliced (backTo pos (starEach es X.env))) (AP X pins σ Q) X.xe s
abbrev wxI (X : Cx) (tg iter : Expr) : TI := fun σ H R => ∀ pins s, Inv X pins σ H s → wpAny (model X.prog X.w) X.A (eval iter X.env) (fun v s1 => wpAny (model X.prog X.w) X.A (pyIter v) (PIE X pins σ tg R) X.xe s1) X.xe s
abbrev wxS (X : Cx) (st : Stmt) : TS := fun D σ H => ∀ pins s, Inv X pins σ H s → wpAny (model X.prog X.w) X.A (exec st X.env) (SP X pins D) X.xe s
abbrev wxB (X : Cx) (st : List Stmt) : TS := fun D σ H => ∀ pins s, Inv X pins σ H s → wpAny (model X.prog X.w) X.A (execs st X.env) (SP X pins D) X.xe s
abbrev wxG (X : Cx) (tg : Expr) : TG := fun v σ H Q => ∀ pins s u, Inv X pins σ H s → RelV v u → wpAny (model X.prog X.w) X.A (assign tg X.env u) (fun _ s' => ∃ σ' H', Inv X pins σ' H' s' ∧ Q σ' H') X.xe s
abbrev wxGs (X : Cx) (ts : List Expr) : TGs := fun vs σ H Q => ∀ pins s us, Inv X pins σ H s → Vals vs us → wpAny (model X.prog X.w) X.A (assignInOrder ((assignEach ts X.env).map (·.2)) us) (fun _ s' => ∃ σ' H', Inv X pins σ' H' s' ∧ Q σ' H') X.xe s
section
variable {X : Cx} {x tg : Expr} {es : List Expr} {st : Stmt} {sts : List Stmt} {σ : St} {H : Hp}
theorem pe_w : PE X x (wxE X x) := ⟨fun pins s σ H Q I h => h pins s I⟩
theorem pt_w : PT X x (wxT X x) := ⟨fun pins s σ H Q I h => h pins s I⟩
theorem pw_w : PW X x (wxW X x) := ⟨fun wh pins s σ H Q I h => h wh pins s I⟩
theorem pa_w : PA X es (wxA X es) := ⟨fun pos pins s σ H Q I h => h pos pins s I⟩
theorem pi_w : PI X tg x (wxI X tg x) := ⟨fun pins s σ H Q I h => h pins s I⟩
theorem ps_w : PS X st (wxS X st) := ⟨fun pins s σ H Q I h => h pins s I⟩
theorem pss_w : PSs X sts (wxB X sts) := ⟨fun pins s σ H Q I h => h pins s I⟩
theorem pg_w : PG X tg (wxG X tg) := ⟨fun pins s σ H v u Q I r h => h pins s u I r⟩
theorem pgs_w : PGs X es (wxGs X es) := ⟨fun pins s σ H v u Q I r h => h pins s u I r⟩
theorem ofE {t : TE} {Q : VK} (h : PE X x t) (q : t σ H Q) : wxE X x σ H Q := fun pins s I => h.run pins s σ H Q I q
theorem ofT {t : TT} {Q : Bool → Hp → Prop} (h : PT X x t) (q : t σ H Q) : wxT X x σ H Q := fun pins s I => h.run pins s σ H Q I q
theorem ofW {t : TT} {Q : Bool → Hp → Prop} (h : PW X x t) (q : t σ H Q) : wxW X x σ H Q := fun wh pins s I => h.run wh pins s σ H Q I q
theorem ofA {t : TA} {Q : List V → Hp → Prop} (h : PA X es t) (q : t σ H Q) : wxA X es σ H Q := fun pos pins s I => h.run pos pins s σ H Q I q
theorem ofI {t : TI} {Q : It → Hp → Prop} (h : PI X tg x t) (q : t σ H Q) : wxI X tg x σ H Q := fun pins s I => h.run pins s σ H Q I q
theorem ofS {t : TS} {Q : Ends} (h : PS X st t) (q : t Q σ H) : wxS X st Q σ H := fun pins s I => h.run pins s σ H Q I q
theorem ofB {t : TS} {Q : Ends} (h : PSs X sts t) (q : t Q σ H) : wxB X sts Q σ H := fun pins s I => h.run pins s σ H Q I q
theorem ofG {t : TG} {v : V} {Q : St → Hp → Prop} (h : PG X tg t) (q : t v σ H Q) : wxG X tg v σ H Q := fun pins s u I r => h.run pins s σ H v u Q I r q
theorem ofGs {t : TGs} {v : List V} {Q : St → Hp → Prop} (h : PGs X es t) (q : t v σ H Q) : wxGs X es v σ H Q := fun pins s u I r => h.run pins s σ H v u Q I r q
end

/-- nothing of the module's own data is read as a list or a tuple -/
abbrev KZ : PySem.W.Frag := []
/-! ### what the functions promise -/
def ArgOk (K : PySem.W.Frag) (F G H : Hp) (v : V) : Arg → Prop
  | .d d => Dp K G v d
  | .io ds => ∃ (a : Addr) (vs : List V), v = .ref a ∧ H a = some (.lst vs) ∧ G a = none ∧ F a = none ∧ DpAll K G vs ds
def OutsOk (K : PySem.W.Frag) (G H : Hp) : List V → List Arg → List (List D) → Prop
  | v :: vs, .io _ :: as, ds :: outs => (∃ (a : Addr) (us : List V), v = .ref a ∧ H a = some (.lst us) ∧ G a = none ∧ DpAll K G us ds) ∧ OutsOk K G H vs as outs
  | _ :: vs, .d _ :: as, outs => OutsOk K G H vs as outs
  | [], [], [] => True
  | _, _, _ => False
/-- a is not among the lists handed in -/
def NotIo (vs : List V) (as : List Arg) (a : Addr) : Prop := ∀ (i : Nat) (ds : List D), as[i]? = some (.io ds) → vs[i]? ≠ some (.ref a)
def ResOk (K : PySem.W.Frag) (F G H : Hp) (vs : List V) (as : List Arg) (v : V) : RV → Prop
  | .v d => Dp K G v d
  | .o ds => ∃ (a : Addr) (us : List V), v = .ref a ∧ H a = some (.lst us) ∧ G a = none ∧ F a = none ∧ NotIo vs as a ∧ DpAll K G us ds
  | .b _ => False
def XcOk (mg : Str → Option Value) (K : PySem.W.Frag) (G H : Hp) (x : Xc) (cls : Value) (dd : Option Addr) : Prop :=
  ∃ C, mg x.cls = some (.ref C) ∧ cls = .ref C ∧ ∃ fs : List (Str × V), ((dd = none ∧ fs = []) ∨ ∃ dx, dd = some dx ∧ H dx = some (.xd fs)) ∧ DpAll K G (fs.map (·.2)) x.args
def CPost (mg : Str → Option Value) (K : PySem.W.Frag) (F G : Hp) (vs : List V) (as : List Arg) (Q : VK) (E : XK) : CR → Prop
  | .ok r outs => ∀ v H' G', Same G G' → Same G' H' → Same F H' → (∀ b o, G' b = some o → F b = none) → ResOk K F G' H' vs as v r → OutsOk K G' H' vs as outs → Q v H'
  | .rz x outs => ∀ cls dd H' G', Same G G' → Same G' H' → Same F H' → (∀ b o, G' b = some o → F b = none) → XcOk mg K G' H' x cls dd → OutsOk K G' H' vs as outs → E cls dd H'
  | .bad => False
def spF (mg : Str → Option Value) (K : PySem.W.Frag) (cf : CF) (f : Str) (np : Nat) : Sp := fun vs H Q E => vs.length = np ∧ ∃ (F G : Hp) (as : List Arg), Same G H ∧ Same F H ∧ (∀ b o, G b = some o → F b = none) ∧ Paired (ArgOk K F G H) vs as ∧
  (∀ (i j : Nat) (a : Addr) (ds es : List D), as[i]? = some (.io ds) → as[j]? = some (.io es) → vs[i]? = some (.ref a) → vs[j]? = some (.ref a) → i = j) ∧ CPost mg K F G vs as Q E (cf f as)
structure GbOk (P : Program) (w : World) (K : PySem.W.Frag) (mg : Str → Option Value) (base : Heap) (cf : CF) (k : Nat) (fns : List (Str × Nat)) (gl : List (Str × D)) (fr : List Str) : Prop where
  fn : ∀ f n, (f, n) ∈ fns → ∃ (a : Addr) (fd : FuncData) (ps : List Str), ps.length = n ∧ mg f = some (.ref a) ∧ PySem.W.keepIn K (.ref a) = true ∧ Binds K fd ps [] ∧ FnOk P w K mg base (L2.CX P w) k a fd ps (spF mg KZ cf f n)
  gl : ∀ x d, gl.lookup x = some d → ∃ v u, mg x = some u ∧ RelV v u ∧ ∀ G, Dp KZ G v d
  fr : ∀ x, x ∈ fr → mg x = none

/-! ### where one stands -/
structure Ct where
  fns : List (Str × Nat)
  gl : List (Str × D)
  fr : List Str
  N : List Str
  sc : Scope
structure XOk (c : Ct) (cf : CF) (k : Nat) (X : Cx) : Prop where
  N : X.N = c.N
  nd : c.N.Nodup
  calm : X.calm = true
  room : Room k X.A
  kind : X.env.scope.kind = .function
  sc : ∀ x q, c.sc.names.lookup x = some q → (q ≠ .free → X.env.scope.names.lookup x = some q) ∧ (q = .free → X.env.scope.names.lookup x = some .cell ∨ X.env.scope.names.lookup x = some .free)
  fnc : ∀ x, c.sc.names.lookup x = some .cell → X.fn x = true
  gb : GbOk X.prog X.w X.K X.mg X.base cf k c.fns c.gl c.fr
def visB (sc : Scope) (x : Str) : Bool := match sc.names.lookup x with
  | some .local => true
  | some .cell => true
  | some .free => true
  | _ => false
def locB (sc : Scope) (x : Str) : Bool := match sc.names.lookup x with
  | some .local => true
  | some .cell => true
  | _ => false
def gloB (sc : Scope) (x : Str) : Bool := match sc.names.lookup x with
  | some .globalImplicit => true
  | _ => false
section
variable {c : Ct} {cf : CF} {k : Nat} {X : Cx} {x : Str}
theorem XOk.vis (ok : XOk c cf k X) (h : visB c.sc x = true) : Vis X.env.scope x := by
  unfold visB at h
  cases q : c.sc.names.lookup x with
  | none => rw [q] at h; cases h
  | some z =>
    rw [q] at h
    obtain ⟨h1, h2⟩ := ok.sc x z q
    cases z with
    | «local» => exact .inl (h1 (by decide))
    | cell => exact .inr (.inl (h1 (by decide)))
    | free => exact .inr (h2 rfl)
    | _ => cases h
theorem XOk.loc (ok : XOk c cf k X) (h : locB c.sc x = true) : Loc X.env.scope x ∧ (X.fn x = true ∨ X.env.scope.names.lookup x = some .local) := by
  unfold locB at h
  cases q : c.sc.names.lookup x with
  | none => rw [q] at h; cases h
  | some z =>
    rw [q] at h
    obtain ⟨h1, h2⟩ := ok.sc x z q
    cases z with
    | «local» => exact ⟨.inl (h1 (by decide)), .inr (h1 (by decide))⟩
    | cell => exact ⟨.inr (h1 (by decide)), .inl (ok.fnc x q)⟩
    | _ => cases h
theorem XOk.glo (ok : XOk c cf k X) (h : gloB c.sc x = true) : Gl X x := by
  unfold gloB at h
  cases q : c.sc.names.lookup x with
  | none => rw [q] at h; cases h
  | some z =>
    rw [q] at h
    cases z with
    | globalImplicit => exact (ok.sc x _ q).1 (by decide)
    | _ => cases h
theorem XOk.at (ok : XOk c cf k X) {i : Nat} (h : c.N[i]? = some x) : X.N[i]? = some x := by rw [ok.N]; exact h
theorem XOk.nd' (ok : XOk c cf k X) : X.N.Nodup := by rw [ok.N]; exact ok.nd
end

/-! ### what is asked of an outcome -/
structure Pp (β : Type) where
  ok : Hp → β → Fm → Prop
  mono : ∀ {G G' : Hp} {b : β} {e : Fm}, Same G G' → ok G b e → ok G' b e
def Po (X : Cx) (F : Hp) (S : St) (W : WX) {β : Type} (p : Pp β) (G : Hp) : R β → Prop
  | .ok b e => p.ok G b e
  | .rz x e => ∀ cls dd σ H' G', Same G G' → Rl KZ F G' H' S σ e → XcOk X.mg KZ G' H' x cls dd → W cls dd σ H'
  | .bad => False
section
variable {X : Cx} {F G G' H : Hp} {S σ : St} {W : WX} {β : Type} {p : Pp β} {r : R β}
theorem Po.mono (s : Same G G') (h : Po X F S W p G r) : Po X F S W p G' r := by
  cases r with
  | ok b e => exact p.mono s h
  | rz x e => exact fun cls dd σ H' G2 s2 => h cls dd σ H' G2 (s.trans s2)
  | bad => exact h
end
def pE (X : Cx) (F : Hp) (S σ : St) (Q : VK) : Pp Val where
  ok := fun G v e => match v with
    | .rv r => ∀ u H' G', Same G G' → Rl KZ F G' H' S σ e → RvOk KZ F G' H' σ e u r → Q u H'
    | _ => False
  mono := fun {G G' v e} s h => by
    cases v with
    | rv r => exact fun u H' G2 s2 => h u H' G2 (s.trans s2)
    | _ => exact h
def pA (X : Cx) (F : Hp) (S σ : St) (Q : List V → Hp → Prop) : Pp Val where
  ok := fun G v e => match v with
    | .rvs r => ∀ u H' G', Same G G' → Rl KZ F G' H' S σ e → RvsOk KZ F G' H' σ e u r → Q u H'
    | _ => False
  mono := fun {G G' v e} s h => by
    cases v with
    | rvs r => exact fun u H' G2 s2 => h u H' G2 (s.trans s2)
    | _ => exact h
def pT (X : Cx) (F : Hp) (S σ : St) {α : Type} (Q : α → Hp → Prop) : Pp α where
  ok := fun G b e => ∀ H' G', Same G G' → Rl KZ F G' H' S σ e → Q b H'
  mono := fun {G G' v e} s h H' G2 s2 => h H' G2 (s.trans s2)
/-- an iterator that yields these data -/
def ItD (K : PySem.W.Frag) (G : Hp) (J : It) (items : List D) : Prop := ∀ G1 H1, Same G G1 → Same G1 H1 → (∀ i, i < items.length → J.go i H1) ∧ J.stop items.length H1 ∧
  ∀ (i : Nat) d x H2, items[i]? = some d → J.yld i H1 x H2 → (H2 = H1 ∧ Dp K G1 x d) ∨ ∃ (T : Addr) (xs : List V) (ds : List D), x = .ref T ∧ d = .tuple ds ∧ H1 T = none ∧ H2 = upd H1 T (.tup xs) ∧ DpAll K G1 xs ds
def pI (X : Cx) (F : Hp) (S σ : St) (Q : It → Hp → Prop) : Pp Val where
  ok := fun G v e => match v with
    | .ds items => ∀ J H' G', Same G G' → Rl KZ F G' H' S σ e → ItD KZ G' J items → Q J H'
    | _ => False
  mono := fun {G G' v e} s h => by
    cases v with
    | ds r => exact fun u H' G2 s2 => h u H' G2 (s.trans s2)
    | _ => exact h
def pS (X : Cx) (F : Hp) (S : St) (E : Ends) : Pp Val where
  ok := fun G v e => match v with
    | .fl .nx => ∀ σ H' G', Same G G' → Rl KZ F G' H' S σ e → E.nx σ H'
    | .fl .brk => ∀ σ H' G', Same G G' → Rl KZ F G' H' S σ e → E.bk σ H'
    | .fl .cont => ∀ σ H' G', Same G G' → Rl KZ F G' H' S σ e → E.ct σ H'
    | .fl (.ret r) => ∀ σ u H' G', Same G G' → Rl KZ F G' H' S σ e → RvOk KZ F G' H' σ e u r → E.rt u H'
    | _ => False
  mono := fun {G G' v e} s h => by
    cases v with
    | fl f => cases f with
      | ret r => exact fun σ u H' G2 s2 => h σ u H' G2 (s.trans s2)
      | _ => exact fun σ H' G2 s2 => h σ H' G2 (s.trans s2)
    | _ => exact h

/-! ### good pieces -/
def GoodE (c : Ct) (cf : CF) (k : Nat) (t : T) (x : Expr) : Prop := ∀ X, XOk c cf k X → ∀ F G H S σ e Q W, Takes X W → Rl KZ F G H S σ e → Po X F S W (pE X F S σ Q) G (ev cf t e) → wxE X x σ H Q
def GoodT (c : Ct) (cf : CF) (k : Nat) (t : T) (x : Expr) : Prop := ∀ X, XOk c cf k X → ∀ F G H S σ e Q W, Takes X W → Rl KZ F G H S σ e → Po X F S W (pT X F S σ Q) G (testR (ev cf t e)) → wxT X x σ H Q
def GoodW (c : Ct) (cf : CF) (k : Nat) (t : T) (x : Expr) : Prop := ∀ X, XOk c cf k X → ∀ F G H S σ e Q W, Takes X W → Rl KZ F G H S σ e → Po X F S W (pT X F S σ Q) G (testR (ev cf t e)) → wxW X x σ H Q
def GoodL (c : Ct) (cf : CF) (k : Nat) (t : T) (xs : List Expr) : Prop := ∀ X, XOk c cf k X → ∀ F G H S σ e Q W, Takes X W → Rl KZ F G H S σ e → Po X F S W (pA X F S σ Q) G (ev cf t e) → wxA X xs σ H Q
def GoodI (c : Ct) (cf : CF) (k : Nat) (t : T) (tg x : Expr) : Prop := ∀ X, XOk c cf k X → ∀ F G H S σ e Q W, Takes X W → Rl KZ F G H S σ e → Po X F S W (pI X F S σ Q) G (ev cf t e) → wxI X tg x σ H Q
/-- statements: exceptions are noted by the frame -/
def GoodS (c : Ct) (cf : CF) (k : Nat) (t : T) (st : Stmt) : Prop := ∀ X, XOk c cf k X → PassesOwn (model X.prog X.w) X.A X.env X.xe → ∀ F G H S σ e E W, Takes X W → Rl KZ F G H S σ e → Po X F S W (pS X F S E) G (ev cf t e) → wxS X st E σ H
def GoodB (c : Ct) (cf : CF) (k : Nat) (t : T) (st : List Stmt) : Prop := ∀ X, XOk c cf k X → PassesOwn (model X.prog X.w) X.A X.env X.xe → ∀ F G H S σ e E W, Takes X W → Rl KZ F G H S σ e → Po X F S W (pS X F S E) G (ev cf t e) → wxB X st E σ H
/-- the names that a target stores -/
def idxs : T → List Nat
  | .tN i => [i]
  | .tT es => idxs es
  | .cons a r => idxs a ++ idxs r
  | _ => []
def Apart (vs : List Nat) (σ σ' : St) : Prop := σ'.length = σ.length ∧ ∀ i, i ∉ vs → σ'[i]? = σ[i]?
def GoodG (c : Ct) (cf : CF) (k : Nat) (t : T) (tg : Expr) : Prop := ∀ X, XOk c cf k X → ∀ F G H S σ e v d e' (Q : St → Hp → Prop), Rl KZ F G H S σ e → Dp KZ G v d → bindT t d e = some e' → (∀ σ', Apart (idxs t) σ σ' → Rl KZ F G H S σ' e' → Q σ' H) → wxG X tg v σ H Q
def GoodGs (c : Ct) (cf : CF) (k : Nat) (t : T) (tgs : List Expr) : Prop := ∀ X, XOk c cf k X → ∀ F G H S σ e vs ds e' (Q : St → Hp → Prop), Rl KZ F G H S σ e → DpAll KZ G vs ds → bindTs t ds e = some e' → (∀ σ', Apart (idxs t) σ σ' → Rl KZ F G H S σ' e' → Q σ' H) → wxGs X tgs vs σ H Q

section
variable {c : Ct} {cf : CF} {k : Nat} {t a b : T} {x y : Expr} {X : Cx} {F G H : Hp} {S σ : St} {e : Fm} {W : WX} {β : Type} {p : Pp β}
theorem rvE (h : GoodE c cf k t x) (ok : XOk c cf k X) (tk : Takes X W) (l : Rl KZ F G H S σ e) {kk : RV → Fm → R β} (hp : Po X F S W p G ((ev cf t e).rv kk)) {Q : VK}
    (hk : ∀ r e1 v H1 G1, Same G G1 → Rl KZ F G1 H1 S σ e1 → RvOk KZ F G1 H1 σ e1 v r → Po X F S W p G1 (kk r e1) → Q v H1) : wxE X x σ H Q := by
  refine h X ok F G H S σ e Q W tk l ?_
  cases q : ev cf t e with
  | bad => rw [q] at hp; exact hp
  | rz z e1 => rw [q] at hp; exact hp
  | ok v e1 =>
    rw [q] at hp
    cases v with
    | rv r => exact fun u H' G' s l' r' => hk r e1 u H' G' s l' r' (Po.mono s hp)
    | _ => exact hp
theorem bndT (h : GoodT c cf k t x) (ok : XOk c cf k X) (tk : Takes X W) (l : Rl KZ F G H S σ e) {kk : Bool → Fm → R β} (hp : Po X F S W p G ((testR (ev cf t e)).bnd kk)) {Q : Bool → Hp → Prop}
    (hk : ∀ r e1 H1 G1, Same G G1 → Rl KZ F G1 H1 S σ e1 → Po X F S W p G1 (kk r e1) → Q r H1) : wxT X x σ H Q := by
  refine h X ok F G H S σ e Q W tk l ?_
  cases q : testR (ev cf t e) with
  | bad => rw [q] at hp; exact hp
  | rz z e1 => rw [q] at hp; exact hp
  | ok r e1 =>
    rw [q] at hp
    exact fun H' G' s l' => hk r e1 H' G' s l' (Po.mono s hp)
theorem rvsL {xs : List Expr} (h : GoodL c cf k t xs) (ok : XOk c cf k X) (tk : Takes X W) (l : Rl KZ F G H S σ e) {kk : List RV → Fm → R β} (hp : Po X F S W p G ((ev cf t e).rvs kk)) {Q : List V → Hp → Prop}
    (hk : ∀ r e1 v H1 G1, Same G G1 → Rl KZ F G1 H1 S σ e1 → RvsOk KZ F G1 H1 σ e1 v r → Po X F S W p G1 (kk r e1) → Q v H1) : wxA X xs σ H Q := by
  refine h X ok F G H S σ e Q W tk l ?_
  cases q : ev cf t e with
  | bad => rw [q] at hp; exact hp
  | rz z e1 => rw [q] at hp; exact hp
  | ok v e1 =>
    rw [q] at hp
    cases v with
    | rvs r => exact fun u H' G' s l' r' => hk r e1 u H' G' s l' r' (Po.mono s hp)
    | _ => exact hp
theorem dsI {tg : Expr} (h : GoodI c cf k t tg x) (ok : XOk c cf k X) (tk : Takes X W) (l : Rl KZ F G H S σ e) {kk : List D → Fm → R β} (hp : Po X F S W p G ((ev cf t e).dsk kk)) {Q : It → Hp → Prop}
    (hk : ∀ r e1 J H1 G1, Same G G1 → Rl KZ F G1 H1 S σ e1 → ItD KZ G1 J r → Po X F S W p G1 (kk r e1) → Q J H1) : wxI X tg x σ H Q := by
  refine h X ok F G H S σ e Q W tk l ?_
  cases q : ev cf t e with
  | bad => rw [q] at hp; exact hp
  | rz z e1 => rw [q] at hp; exact hp
  | ok v e1 =>
    rw [q] at hp
    cases v with
    | ds r => exact fun u H' G' s l' r' => hk r e1 u H' G' s l' r' (Po.mono s hp)
    | _ => exact hp
/-- two in a row -/
theorem rvE2 (ha : GoodE c cf k a x) (hb : GoodE c cf k b y) (ok : XOk c cf k X) (tk : Takes X W) (l : Rl KZ F G H S σ e) {kk : RV → RV → Fm → R β}
    (hp : Po X F S W p G ((ev cf a e).rv fun ra e1 => (ev cf b e1).rv fun rb e2 => kk ra rb e2)) {Q : V → V → Hp → Prop}
    (hk : ∀ ra rb e2 v u H2 G2, Same G G2 → Rl KZ F G2 H2 S σ e2 → RvOk KZ F G2 H2 σ e2 v (nrm ra) → RvOk KZ F G2 H2 σ e2 u (nrm rb) → Po X F S W p G2 (kk ra rb e2) → Q v u H2) :
    wxE X x σ H fun v H1 => wxE X y σ H1 fun u H2 => Q v u H2 := by
  refine rvE ha ok tk l hp fun ra e1 v H1 G1 s1 l1 r1 hp1 => ?_
  obtain ⟨G1', s1', l1', r1'⟩ := r1.nrm l1
  refine rvE hb ok tk l1' (Po.mono s1' hp1) fun rb e2 u H2 G2 s2 l2 r2 hp2 => ?_
  obtain ⟨G2', s2', l2', r2'⟩ := r2.nrm l2
  exact hk ra rb e2 v u H2 G2' (s1.trans (s1'.trans (s2.trans s2'))) l2' (r1'.later (s2.trans s2')) r2' (Po.mono s2' hp2)
end
end L2.Mp
set_option Elab.async false
set_option linter.all false
set_option maxRecDepth 100000
set_option maxHeartbeats 4000000
namespace L2.Mp
open PySem PySem.Spec PyProof.Rows L2

theorem line_eq : LINE = sizeLine := sizeLine_eq.symm
theorem rd_of {H : Hp} {a : Addr} {xs : List V} (h : SqL KZ H a xs) : Rd H a (.lst xs) := by
  rcases h with h | ⟨o, its, n, h, _⟩
  · exact h
  · cases h
theorem rt_of {H : Hp} {a : Addr} {xs : List V} (h : SqT KZ H a xs) : Rd H a (.tup xs) := by
  rcases h with h | ⟨o, its, n, h, _⟩
  · exact h
  · cases h
mutual
theorem toK {K : PySem.W.Frag} {H : Hp} : ∀ (d : D) (v : V), Dp KZ H v d → Dp K H v d
  | .none, _, h => by cases h; exact .non
  | .bool b, _, h => by cases h; exact .bl b
  | .int i, _, h => by cases h; exact .int i
  | .str x, _, h => by cases h; exact .str x
  | .list ds, _, h => by
    cases h with
    | lst hs ha => exact .lst (.inl (rd_of hs)) (toKs ds _ ha)
  | .tuple ds, _, h => by
    cases h with
    | tup hs ha => exact .tup (.inl (rt_of hs)) (toKs ds _ ha)
  | .dict _, _, h => by cases h
theorem toKs {K : PySem.W.Frag} {H : Hp} : ∀ (ds : List D) (vs : List V), DpAll KZ H vs ds → DpAll K H vs ds
  | [], _, h => by cases h; exact .nil
  | d :: ds, _, h => by
    cases h with
    | cons h1 h2 => exact .cons (toK d _ h1) (toKs ds _ h2)
end
mutual
theorem plain_dp {K : PySem.W.Frag} {H : Hp} : ∀ (d : D) (v : V), Dp K H v d → d.plain = true
  | .none, _, h => rfl
  | .bool b, _, h => rfl
  | .int i, _, h => rfl
  | .str x, _, h => rfl
  | .list ds, _, h => by
    cases h with
    | lst hs ha => exact plain_dps ds _ ha
  | .tuple ds, _, h => by
    cases h with
    | tup hs ha => exact plain_dps ds _ ha
  | .dict _, _, h => by cases h
theorem plain_dps {K : PySem.W.Frag} {H : Hp} : ∀ (ds : List D) (vs : List V), DpAll K H vs ds → PyData.plainAll ds = true
  | [], _, h => rfl
  | d :: ds, _, h => by
    cases h with
    | cons h1 h2 =>
      show (d.plain && PyData.plainAll ds) = true
      rw [plain_dp d _ h1, plain_dps ds _ h2]
      rfl
end
section
variable {G H : Hp} {v : V}
theorem Dq.int {i : Int} (h : Dq KZ G H v (.int i)) : v = .int i := by
  rcases h with h | ⟨_, _, _, _, e, _⟩
  · cases h; rfl
  · cases e
theorem Dq.bl {b : Bool} (h : Dq KZ G H v (.bool b)) : v = .bl b := by
  rcases h with h | ⟨_, _, _, _, e, _⟩
  · cases h; rfl
  · cases e
theorem Dq.str {x : Str} (h : Dq KZ G H v (.str x)) : v = .str x := by
  rcases h with h | ⟨_, _, _, _, e, _⟩
  · cases h; rfl
  · cases e
theorem Dq.non (h : Dq KZ G H v .none) : v = .non := by
  rcases h with h | ⟨_, _, _, _, e, _⟩
  · cases h; rfl
  · cases e
theorem Dq.tup {ds : List D} (h : Dq KZ G H v (.tuple ds)) : ∃ a vs, v = .ref a ∧ Rd G a (.tup vs) ∧ DpAll KZ G vs ds := by
  rcases h with h | ⟨_, _, _, _, e, _⟩
  · cases h with
    | tup h1 h2 => exact ⟨_, _, rfl, rt_of h1, h2⟩
  · cases e
theorem Dq.lst {ds : List D} (h : Dq KZ G H v (.list ds)) (s : Same G H) : ∃ a vs, v = .ref a ∧ Rd H a (.lst vs) ∧ DpAll KZ G vs ds := by
  rcases h with h | ⟨a, vs, es, e0, e, h1, h2⟩
  · cases h with
    | lst h1 h2 => exact ⟨_, _, rfl, Rd.same s (rd_of h1), h2⟩
  · cases e
    exact ⟨a, vs, e0, .inl h1, h2⟩
end

/-! ### operators by values -/
def oOp (X : Cx) (f : Value → Value → Sem Value) : R2 := fun x y H Q => ∀ pins s σ v u, Inv X pins σ H s → RelV x v → RelV y u → wpAny (model X.prog X.w) X.A (f v u) (EP X pins σ Q) X.xe s
theorem oOp_ok {X : Cx} {f : Value → Value → Sem Value} : OpR X f (oOp X f) := fun pins s σ H x y v u Q I rx ry h => h pins s σ v u I rx ry
theorem oOp_of {X : Cx} {f : Value → Value → Sem Value} {r : R2} (h : OpR X f r) {x y : V} {H : Hp} {Q : VK} (q : r x y H Q) : oOp X f x y H Q := fun pins s σ v u I rx ry => h pins s σ H x y v u Q I rx ry q
theorem rd_lst {P : Program} {w : World} {H : Hp} {h : Heap} {a : Addr} {xs : List V} (r : Rd H a (.lst xs)) (x : HOk P w H h) : xs.length ≤ sizeLine ∧ ∃ (its : List Value) (n : Nat), Vals xs its ∧ h.get? a = some { cls := .type "list", data := .seq its.toArray n } := r.ok x
/-- two lists, one behind the other -/
theorem op_catR {X : Cx} : OpR X (binaryOp .Add) (fun x y H Q => ∃ a b xs ys, x = .ref a ∧ y = .ref b ∧ Rd H a (.lst xs) ∧ Rd H b (.lst ys) ∧ xs.length + ys.length ≤ sizeLine ∧ ∀ p, H p = none → Q (.ref p) (upd H p (.lst (xs ++ ys)))) := by
  intro pins s σ H x y v u Q I rx ry h
  obtain ⟨a, b, xs, ys, rfl, rfl, ha, hb, hz, q⟩ := h
  cases rx
  cases ry
  obtain ⟨_, i1, n1, r1, e1⟩ := rd_lst ha I.hok
  obtain ⟨_, i2, n2, r2, e2⟩ := rd_lst hb I.hok
  have l1 := r1.length
  have l2 := r2.length
  refine PySem.P.add_list e1 e2 ?_ (by simp only [List.size_toArray]; omega)
  rw [List.append_toArray]
  exact ⟨.ref _, _, I.lnew (t' := s.toks) (Vals.append r1 r2) (by simpa using hz), rfl, q _ I.fresh⟩
section
variable {X : Cx} {F G H : Hp} {S σ : St} {e : Fm} {v u : V} {x y : D}
/-- a result that is one value -/
theorem fin_v (l : Rl KZ F G H S σ e) {w : V} {d : D} {Q : VK} (h : Dp KZ G w d) (q : ∀ z H' G', Same G G' → Rl KZ F G' H' S σ e → RvOk KZ F G' H' σ e z (.v d) → Q z H') : Q w H := q w H G (Same.refl G) l h
/-- a new tuple -/
theorem fin_t (l : Rl KZ F G H S σ e) {p : Addr} (hp : H p = none) {vs : List V} {ds : List D} {Q : VK} (h : DpAll KZ G vs ds) (q : ∀ z H' G', Same G G' → Rl KZ F G' H' S σ e → RvOk KZ F G' H' σ e z (.v (.tuple ds)) → Q z H') : Q (.ref p) (upd H p (.tup vs)) :=
  q _ _ (upd G p (.tup vs)) (smUpdN (smNone l.g hp)) (l.newG hp) (.tup (.inl (.inl upd_same)) (Dp.sameAll (smUpdN (smNone l.g hp)) _ _ h))
/-- a new list -/
theorem fin_l (l : Rl KZ F G H S σ e) {p : Addr} (hp : H p = none) {vs : List V} {ds : List D} {Q : VK} (h : DpAll KZ G vs ds) (q : ∀ z H' G', Same G G' → Rl KZ F G' H' S σ e → RvOk KZ F G' H' σ e z (.o ds) → Q z H') : Q (.ref p) (upd H p (.lst vs)) :=
  q _ _ G (Same.refl G) (l.newH hp) ⟨p, vs, rfl, upd_same, smNone l.g hp, smNone l.f hp, l.ownNe hp, h⟩
theorem binOk {op : Operator} {r : RV} {Q : VK} (l : Rl KZ F G H S σ e) (dx : Dq KZ G H v x) (dy : Dq KZ G H u y) (hb : binD op x y = some r) (q : ∀ w H' G', Same G G' → Rl KZ F G' H' S σ e → RvOk KZ F G' H' σ e w r → Q w H') : oOp X (binaryOp op) v u H Q := by
  unfold binD at hb
  split at hb
  · obtain rfl := dx.int; obtain rfl := dy.int; cases hb
    exact oOp_of op_add ⟨_, _, rfl, rfl, fin_v l (.int _) q⟩
  · obtain rfl := dx.int; obtain rfl := dy.int; cases hb
    exact oOp_of op_sub ⟨_, _, rfl, rfl, fin_v l (.int _) q⟩
  · obtain rfl := dx.int; obtain rfl := dy.int
    split at hb
    · rename_i hm
      cases hb
      refine oOp_of op_mul ⟨_, _, rfl, rfl, ?_, fin_v l (.int _) q⟩
      unfold mulOk at hm
      simp only [Bool.or_eq_true, Bool.and_eq_true, decide_eq_true_eq] at hm
      exact hm
    · cases hb
  · obtain rfl := dx.int; obtain rfl := dy.int
    split at hb
    · rename_i hm
      cases hb
      exact oOp_of op_fdivW ⟨_, _, rfl, rfl, hm, fin_v l (.int _) q⟩
    · cases hb
  · obtain rfl := dx.int; obtain rfl := dy.int
    split at hb
    · rename_i hm
      cases hb
      exact oOp_of op_mod ⟨_, _, rfl, rfl, hm, fin_v l (.int _) q⟩
    · cases hb
  · obtain rfl := dx.int; obtain rfl := dy.int
    split at hb
    · rename_i hm
      cases hb
      exact oOp_of op_pow ⟨_, _, rfl, rfl, hm, fin_v l (.int _) q⟩
    · cases hb
  · obtain rfl := dx.str; obtain rfl := dy.str
    split at hb
    · rename_i hm
      cases hb
      exact oOp_of op_add_str ⟨_, _, rfl, rfl, by rw [← line_eq]; exact hm, fin_v l (.str _) q⟩
    · cases hb
  · obtain ⟨a, vs, rfl, h1, h2⟩ := dx.tup
    obtain ⟨b, us, rfl, k1, k2⟩ := dy.tup
    split at hb
    · rename_i hm
      cases hb
      refine oOp_of op_catA ⟨a, b, vs, us, rfl, rfl, .inl (Rd.same l.g h1), .inl (Rd.same l.g k1), ?_, fun z => ?_, fun z1 z2 => ?_, fun z1 z2 p hp => ?_⟩
      · rw [DpAll.length h2, DpAll.length k2, ← line_eq]; exact hm
      · subst z
        cases h2
        exact fin_v l (.tup (.inl k1) k2) q
      · subst z2
        cases k2
        rw [List.append_nil] at q
        exact fin_v l (.tup (.inl h1) h2) q
      · exact fin_t l hp (DpAll.append h2 k2) q
    · cases hb
  · obtain ⟨a, vs, rfl, h1, h2⟩ := dx.lst l.g
    obtain ⟨b, us, rfl, k1, k2⟩ := dy.lst l.g
    split at hb
    · rename_i hm
      cases hb
      refine oOp_of op_catR ⟨a, b, vs, us, rfl, rfl, h1, k1, ?_, fun p hp => ?_⟩
      · rw [DpAll.length h2, DpAll.length k2, ← line_eq]; exact hm
      · exact fin_l l hp (DpAll.append h2 k2) q
    · cases hb
  · cases hb
theorem Dq.reads {pins : List (Addr × Obj)} {s : Shared} {vv : Value} {d : D} (h : Dq KZ G H v d) (sm : Same G H) (I : Inv X pins σ H s) (rv : RelV v vv) : ∃ as, Reads s.heap vv d as := Dp.reads I d v vv (toK d v (h.dp sm)) rv
theorem Dq.plain {d : D} (h : Dq KZ G H v d) (sm : Same G H) : d.plain = true := plain_dp d v (h.dp sm)
theorem room_cmp {k : Nat} (hr : Room k X.A) {n : Nat} (h : n ≤ 190) : X.A.units + n < cLine := by
  have := hr.un
  omega
theorem cmpOk_le {x y : D} (h : cmpOk x y = true) : min x.depth y.depth ≤ 190 := of_decide_eq_true h
theorem cmpGood {k : Nat} (hr : Room k X.A) {op : CmpOp} {b : Bool} {Q : VK} (l : Rl KZ F G H S σ e) (dx : Dq KZ G H v x) (dy : Dq KZ G H u y) (hb : cmpD op x y = some b) (q : Q (.bl b) H) : oOp X (compareOp op) v u H Q := by
  unfold cmpD at hb
  split at hb
  · obtain rfl := dx.int; obtain rfl := dy.int; cases hb
    exact oOp_of op_lt ⟨_, _, rfl, rfl, q⟩
  · obtain rfl := dx.int; obtain rfl := dy.int; cases hb
    exact oOp_of op_le ⟨_, _, rfl, rfl, q⟩
  · obtain rfl := dx.int; obtain rfl := dy.int; cases hb
    exact oOp_of op_gt ⟨_, _, rfl, rfl, q⟩
  · obtain rfl := dx.int; obtain rfl := dy.int; cases hb
    exact oOp_of op_ge ⟨_, _, rfl, rfl, q⟩
  · rename_i xs ys
    split at hb
    · rename_i hm
      cases hb
      simp only [Bool.and_eq_true] at hm
      intro pins s σ' vv uu I rx ry
      obtain ⟨as, r1⟩ := dx.reads l.g I rx
      obtain ⟨bs, r2⟩ := dy.reads l.g I ry
      exact PySem.W.rcLt_alike _ _ X.A s vv uu as bs r1 r2 (by simpa [PySem.W.alike] using hm.1) (by intro z; cases z) (room_cmp hr (cmpOk_le hm.2)) X.prog X.w X.xe _ ⟨.bl _, H, I, rfl, q⟩
    · cases hb
  · split at hb
    · rename_i hm
      cases hb
      intro pins s σ' vv uu I rx ry
      obtain ⟨as, r1⟩ := dx.reads l.g I rx
      obtain ⟨bs, r2⟩ := dy.reads l.g I ry
      exact PySem.SeqAt.eq_plain r1 r2 (dx.plain l.g) (dy.plain l.g) (room_cmp hr (cmpOk_le hm)) ⟨.bl _, H, I, rfl, q⟩
    · cases hb
  · split at hb
    · rename_i hm
      cases hb
      intro pins s σ' vv uu I rx ry
      obtain ⟨as, r1⟩ := dx.reads l.g I rx
      obtain ⟨bs, r2⟩ := dy.reads l.g I ry
      exact PySem.SeqAt.ne_plain r1 r2 (dx.plain l.g) (dy.plain l.g) (room_cmp hr (cmpOk_le hm)) ⟨.bl _, H, I, rfl, q⟩
    · cases hb
  · rename_i ys
    split at hb
    · rename_i hm
      cases hb
      intro pins s σ' vv uu I rx ry
      obtain ⟨as, r1⟩ := dx.reads l.g I rx
      obtain ⟨bs, r2⟩ := dy.reads l.g I ry
      have hp : PyData.plainAll ys = true := dy.plain l.g
      refine PySem.SeqAt.in_tuple_data r2 r1 hp (dx.plain l.g) ?_ ⟨.bl _, H, I, rfl, q⟩
      have h1 := cmpOk_le hm
      have h2 : (PyData.tuple ys).depth = PyData.depthAll ys + 1 := rfl
      have h3 := hr.un
      omega
    · cases hb
  · rename_i ys
    split at hb
    · rename_i hm
      cases hb
      intro pins s σ' vv uu I rx ry
      obtain ⟨as, r1⟩ := dx.reads l.g I rx
      obtain ⟨bs, r2⟩ := dy.reads l.g I ry
      have hp : PyData.plainAll ys = true := dy.plain l.g
      refine PySem.SeqAt.in_list_data r2 r1 hp (dx.plain l.g) ?_ ⟨.bl _, H, I, rfl, q⟩
      have h1 := cmpOk_le hm
      have h2 : (PyData.list ys).depth = PyData.depthAll ys + 1 := rfl
      have h3 := hr.un
      omega
    · cases hb
  · rename_i ys
    split at hb
    · rename_i hm
      cases hb
      intro pins s σ' vv uu I rx ry
      obtain ⟨as, r1⟩ := dx.reads l.g I rx
      obtain ⟨bs, r2⟩ := dy.reads l.g I ry
      have hp : PyData.plainAll ys = true := dy.plain l.g
      refine PySem.SeqAt.notIn_tuple_data r2 r1 hp (dx.plain l.g) ?_ ⟨.bl _, H, I, rfl, q⟩
      have h1 := cmpOk_le hm
      have h2 : (PyData.tuple ys).depth = PyData.depthAll ys + 1 := rfl
      have h3 := hr.un
      omega
    · cases hb
  · rename_i ys
    split at hb
    · rename_i hm
      cases hb
      intro pins s σ' vv uu I rx ry
      obtain ⟨as, r1⟩ := dx.reads l.g I rx
      obtain ⟨bs, r2⟩ := dy.reads l.g I ry
      have hp : PyData.plainAll ys = true := dy.plain l.g
      refine PySem.SeqAt.notIn_list_data r2 r1 hp (dx.plain l.g) ?_ ⟨.bl _, H, I, rfl, q⟩
      have h1 := cmpOk_le hm
      have h2 : (PyData.list ys).depth = PyData.depthAll ys + 1 := rfl
      have h3 := hr.un
      omega
    · cases hb
  · obtain rfl := dy.non
    cases hb
    refine oOp_of op_isN ⟨rfl, ?_⟩
    have e : decide (v = .non) = isNon x := by
      rcases dx with h | ⟨_, _, _, rfl, rfl, _⟩
      · cases h <;> simp [isNon]
      · simp [isNon]
    rw [e]
    exact q
  · obtain rfl := dy.non
    cases hb
    refine oOp_of op_notN ⟨rfl, ?_⟩
    have e : (!decide (v = .non)) = !isNon x := by
      rcases dx with h | ⟨_, _, _, rfl, rfl, _⟩
      · cases h <;> simp [isNon]
      · simp [isNon]
    rw [e]
    exact q
  · obtain rfl := dx.bl; obtain rfl := dy.bl; cases hb
    exact oOp_of op_is_bl ⟨_, _, rfl, rfl, q⟩
  · obtain rfl := dx.bl; obtain rfl := dy.bl; cases hb
    exact oOp_of op_isnot_bl ⟨_, _, rfl, rfl, q⟩
  · cases hb
end
end L2.Mp
set_option Elab.async false
set_option linter.all false
set_option maxRecDepth 100000
set_option maxHeartbeats 4000000
namespace L2.Mp
open PySem PySem.Spec PyProof.Rows L2
section
variable {c : Ct} {cf : CF} {k : Nat} {a b d lo hi : T} {x y z : Expr} {pos : Pos}

/-! ### truth -/
theorem truOk {K : PySem.W.Frag} {G H : Hp} {v : V} {x : D} {q : Bool} (h : Dq KZ G H v x) (s : Same G H) (e : tru x = some q) : TruV K v H q := by
  cases x with
  | none => obtain rfl := h.non; cases e; rfl
  | bool b => obtain rfl := h.bl; cases e; rfl
  | int i => obtain rfl := h.int; cases e; rfl
  | str t =>
    obtain rfl := h.str
    have e : (if t.length ≤ LINE then some ((t.length : Int) != 0) else none) = some q := e
    split at e
    · rename_i hm
      cases e
      exact ⟨by rw [← line_eq]; exact hm, rfl⟩
    · cases e
  | list ds =>
    cases e
    obtain ⟨a, vs, rfl, h1, h2⟩ := h.lst s
    refine .inl ⟨vs, .inl h1, ?_⟩
    cases h2 <;> rfl
  | tuple ds =>
    cases e
    obtain ⟨a, vs, rfl, h1, h2⟩ := h.tup
    refine .inr (.inl ⟨vs, .inl (Rd.same s h1), ?_⟩)
    cases h2 <;> rfl
  | dict _ => cases e
def Plainly (x : Expr) : Prop := ∀ (env : Env) (wh : Sem Value), isTrue x env wh = (do let v ← wh; standAt x.pos; holding [v] (truthy v))
theorem goodT_of (h : GoodE c cf k a x) (hp : Plainly x) : GoodT c cf k a x := by
  intro X ok F G H S σ e Q W tk l hq
  refine ofT (pt_truth pe_w (hp X.env)) ?_
  refine rvE h ok tk l hq fun r e1 v H1 G1 s1 l1 r1 hp1 => ?_
  obtain ⟨G2, s2, l2, r2⟩ := r1.nrm l1
  cases q : rd r e1 with
  | none => rw [q] at hp1; exact hp1.elim
  | some w =>
    rw [q] at hp1
    dsimp only at hp1
    cases q2 : tru w with
    | none => rw [q2] at hp1; exact hp1.elim
    | some t =>
      rw [q2] at hp1
      exact ⟨t, truOk (r2.rd l2 q) l2.g q2, (Po.mono s2 hp1) H1 G2 (Same.refl G2) l2⟩

/-! ### names, constants -/
theorem good_var {i : Nat} {n : Str} (hN : c.N[i]? = some n) (hv : visB c.sc n = true) (hd : (n == ("__debug__" : Str)) = false) (hcd : (n == ("__classdict__" : Str)) = false) : GoodE c cf k (.var i) (.Name n pos) := by
  intro X ok F G H S σ e Q W tk l hq
  refine ofE (pe_var (ok.at hN) (ok.vis hv) hd hcd) ?_
  have hq : Po X F S W (pE X F S σ Q) G (match e[i]? with
    | some (.val d) => .ok (.rv (.v d)) e
    | some (.own _ _) => .ok (.rv (.b i)) e
    | _ => .bad) := hq
  cases q : e[i]? with
  | none => rw [q] at hq; exact hq.elim
  | some w =>
    rw [q] at hq
    cases w with
    | no => exact hq.elim
    | val d =>
      obtain ⟨v, h1, h2⟩ := l.val i d q
      exact ⟨v, h1, hq v H G (Same.refl G) l h2⟩
    | own io ds =>
      obtain ⟨p, vs, h1, h2, _⟩ := l.own i io ds q
      exact ⟨_, h1, hq _ H G (Same.refl G) l h1⟩
theorem good_glo {n : Str} {d : D} (hg : gloB c.sc n = true) (hl : c.gl.lookup n = some d) (hd : (n == ("__debug__" : Str)) = false) : GoodE c cf k (.glo n d) (.Name n pos) := by
  intro X ok F G H S σ e Q W tk l hq
  obtain ⟨v, u, h1, h2, h3⟩ := ok.gb.gl n d hl
  exact ofE (pe_glob (ok.glo hg) h1 h2 hd) (hq v H G (Same.refl G) l (h3 G))
theorem good_int {i : Int} {j : Nat} : GoodE c cf k (.const (.int i)) (.Constant (.int i) j pos) := fun X ok F G H S σ e Q W tk l hq => ofE pe_int (hq (.int i) H G (Same.refl G) l (.int i))
theorem good_bl {i : Bool} {j : Nat} : GoodE c cf k (.const (.bool i)) (.Constant (.bool i) j pos) := fun X ok F G H S σ e Q W tk l hq => ofE pe_bl (hq (.bl i) H G (Same.refl G) l (.bl i))
theorem good_non {j : Nat} : GoodE c cf k (.const .none) (.Constant .none j pos) := fun X ok F G H S σ e Q W tk l hq => ofE pe_non (hq .non H G (Same.refl G) l .non)
theorem good_str {i : Str} {j : Nat} : GoodE c cf k (.const (.str i)) (.Constant (.str i) j pos) := fun X ok F G H S σ e Q W tk l hq => ofE pe_str (hq (.str i) H G (Same.refl G) l (.str i))

/-! ### operators -/
theorem good_bin {op : Operator} (ha : GoodE c cf k a x) (hb : GoodE c cf k b y) : GoodE c cf k (.bin op a b) (.BinOp x op y pos) := by
  intro X ok F G H S σ e Q W tk l hq
  refine ofE (pe_op (oOp_ok (X := X)) pe_w pe_w) ?_
  refine rvE2 ha hb ok tk l hq fun ra rb e2 v u H2 G2 s2 l2 r1 r2 hp => ?_
  cases q1 : rd ra e2 with
  | none => rw [q1] at hp; exact hp.elim
  | some p =>
    cases q2 : rd rb e2 with
    | none => rw [q1, q2] at hp; exact hp.elim
    | some q =>
      rw [q1, q2] at hp
      dsimp only [optR] at hp
      cases q3 : binD op p q with
      | none => rw [q3] at hp; exact hp.elim
      | some r =>
        rw [q3] at hp
        exact binOk l2 (r1.rd l2 q1) (r2.rd l2 q2) q3 fun w H' G' s' l' r' => hp w H' G' s' l' r'
theorem good_neg (ha : GoodE c cf k a x) : GoodE c cf k (.neg a) (.UnaryOp .USub x pos) := by
  intro X ok F G H S σ e Q W tk l hq
  refine ofE (pe_un un_neg pe_w) ?_
  refine rvE ha ok tk l hq fun ra e1 v H1 G1 s1 l1 r1 hp => ?_
  obtain ⟨G2, s2, l2, r2⟩ := r1.nrm l1
  cases q1 : rd ra e1 with
  | none => rw [q1] at hp; exact hp.elim
  | some p =>
    rw [q1] at hp
    cases p with
    | int i =>
      obtain rfl := (r2.rd l2 q1).int
      exact ⟨i, rfl, (Po.mono s2 hp) _ H1 G2 (Same.refl G2) l2 (.int _)⟩
    | _ => exact hp.elim
theorem testR_bnd {β : Type} (m : R Val) (f : Bool → Fm → R β) : (testR m).bnd f = m.rv fun r e => match rd r e with
    | some d => (match tru d with
      | some q => f q e
      | none => .bad)
    | none => .bad := by
  unfold testR R.bnd R.rv
  cases m with
  | ok v e =>
    cases v with
    | rv r =>
      dsimp only
      cases rd r e with
      | none => rfl
      | some d =>
        dsimp only
        cases tru d <;> rfl
    | _ => rfl
  | _ => rfl
theorem good_not (ha : GoodE c cf k a x) : GoodE c cf k (.notT a) (.UnaryOp .Not x pos) := by
  intro X ok F G H S σ e Q W tk l hq
  refine ofE (pe_notT pe_w) ?_
  have hq : Po X F S W (pE X F S σ Q) G ((testR (ev cf a e)).bnd fun k e1 => .ok (.rv (.v (.bool (!k)))) e1) := hq
  rw [testR_bnd] at hq
  refine rvE ha ok tk l hq fun ra e1 v H1 G1 s1 l1 r1 hp => ?_
  obtain ⟨G2, s2, l2, r2⟩ := r1.nrm l1
  cases q1 : rd ra e1 with
  | none => rw [q1] at hp; exact hp.elim
  | some p =>
    rw [q1] at hp
    dsimp only at hp
    cases q2 : tru p with
    | none => rw [q2] at hp; exact hp.elim
    | some t =>
      rw [q2] at hp
      exact ⟨t, truOk (r2.rd l2 q1) l2.g q2, (Po.mono s2 hp) _ H1 G2 (Same.refl G2) l2 (.bl _)⟩
theorem test_val (m : R Val) (f : Bool → Bool) : testR ((testR m).bnd fun q e1 => .ok (.rv (.v (.bool (f q)))) e1) = (testR m).bnd fun q e1 => .ok (f q) e1 := by
  cases h : testR m <;> rfl
theorem goodT_not (ha : GoodT c cf k a x) : GoodT c cf k (.notT a) (.UnaryOp .Not x pos) := by
  intro X ok F G H S σ e Q W tk l hq
  refine ofT (pt_not pt_w) ?_
  have hq : Po X F S W (pT X F S σ Q) G (testR ((testR (ev cf a e)).bnd fun k e1 => .ok (.rv (.v (.bool (!k)))) e1)) := hq
  rw [test_val] at hq
  exact bndT ha ok tk l hq fun r e1 H1 G1 s1 l1 hp => hp H1 G1 (Same.refl G1) l1
theorem good_cmp {op : CmpOp} (ha : GoodE c cf k a x) (hb : GoodE c cf k b y) (hm : behindInMarks op y = false) : GoodE c cf k (.cmp op a b) (.Compare x [op] [y] pos) := by
  intro X ok F G H S σ e Q W tk l hq
  refine ofE (pe_cmpR (oOp_ok (X := X)) pe_w pe_w hm) ?_
  refine rvE2 ha hb ok tk l hq fun ra rb e2 v u H2 G2 s2 l2 r1 r2 hp => ?_
  cases q1 : rd ra e2 with
  | none => rw [q1] at hp; exact hp.elim
  | some p =>
    cases q2 : rd rb e2 with
    | none => rw [q1, q2] at hp; exact hp.elim
    | some q =>
      rw [q1, q2] at hp
      dsimp only at hp
      cases q3 : cmpD op p q with
      | none => rw [q3] at hp; exact hp.elim
      | some r =>
        rw [q3] at hp
        exact cmpGood ok.room l2 (r1.rd l2 q1) (r2.rd l2 q2) q3 (hp _ H2 G2 (Same.refl G2) l2 (.bl _))
theorem testR_rv (m : R Val) (f : RV → Fm → R Val) : testR (m.rv f) = m.rv fun r e => testR (f r e) := by
  unfold testR R.rv
  cases m with
  | ok v e => cases v <;> rfl
  | _ => rfl
theorem goodT_cmp {op : CmpOp} (ha : GoodE c cf k a x) (hb : GoodE c cf k b y) (hm : behindInMarks op y = false) : GoodT c cf k (.cmp op a b) (.Compare x [op] [y] pos) := by
  intro X ok F G H S σ e Q W tk l hq
  refine ofT (pt_cmpR (oOp_ok (X := X)) pe_w pe_w hm) ?_
  have hq : Po X F S W (pT X F S σ Q) G (testR ((ev cf a e).rv fun ra e1 => (ev cf b e1).rv fun rb e2 => (match rd ra e2, rd rb e2 with
    | some x, some y => (match cmpD op x y with
      | some k => .ok (.rv (.v (.bool k))) e2
      | none => .bad)
    | _, _ => .bad))) := hq
  rw [testR_rv] at hq
  refine rvE ha ok tk l hq fun ra e1 v H1 G1 s1 l1 r1 hp1 => ?_
  obtain ⟨G1', s1', l1', r1'⟩ := r1.nrm l1
  rw [testR_rv] at hp1
  refine rvE hb ok tk l1' (Po.mono s1' hp1) fun rb e2 u H2 G2 s2 l2 r2 hp => ?_
  obtain ⟨G2', s2', l2', r2'⟩ := r2.nrm l2
  cases q1 : rd ra e2 with
  | none => rw [q1] at hp; exact hp.elim
  | some p =>
    cases q2 : rd rb e2 with
    | none => rw [q1, q2] at hp; exact hp.elim
    | some q =>
      rw [q1, q2] at hp
      dsimp only at hp
      cases q3 : cmpD op p q with
      | none => rw [q3] at hp; exact hp.elim
      | some r =>
        rw [q3] at hp
        exact cmpGood ok.room l2' ((r1'.later (s2.trans s2')).rd l2' q1) (r2'.rd l2' q2) q3 ⟨r, rfl, (Po.mono s2' hp) H2 G2' (Same.refl G2') l2'⟩
theorem good_chain0 {op op' : CmpOp} (ha : GoodE c cf k a x) (hb : GoodE c cf k b y) (hd : GoodE c cf k d z) {X : Cx} (ok : XOk c cf k X) {F G H : Hp} {S σ : St} {e : Fm} {W : WX} (tk : Takes X W) (l : Rl KZ F G H S σ e) {β : Type} {p : Pp β} {g : Bool → Fm → R β} {Q : Bool → Hp → Prop}
    (hq : Po X F S W p G ((ev cf a e).rv fun ra e1 => (ev cf b e1).rv fun rb e2 => (match rd ra e2, rd rb e2 with
      | some x, some y => (match cmpD op x y with
        | some true => (ev cf d e2).rv fun rc e3 => (match rd rb e3, rd rc e3 with
          | some y', some z => (match cmpD op' y' z with
            | some k => g k e3
            | none => .bad)
          | _, _ => .bad)
        | some false => g false e2
        | none => .bad)
      | _, _ => .bad))) (hg : ∀ b e' H' G', Same G G' → Rl KZ F G' H' S σ e' → Po X F S W p G' (g b e') → Q b H') :
    tChain (oOp X (compareOp op)) (oOp X (compareOp op')) (wxE X x) (wxE X y) (wxE X z) σ H fun v H' => ∃ b, v = .bl b ∧ Q b H' := by
  refine rvE2 ha hb ok tk l hq fun ra rb e2 v u H2 G2 s2 l2 r1 r2 hp => ?_
  cases q1 : rd ra e2 with
  | none => rw [q1] at hp; exact hp.elim
  | some p1 =>
    cases q2 : rd rb e2 with
    | none => rw [q1, q2] at hp; exact hp.elim
    | some p2 =>
      rw [q1, q2] at hp
      dsimp only at hp
      cases q3 : cmpD op p1 p2 with
      | none => rw [q3] at hp; exact hp.elim
      | some r =>
        rw [q3] at hp
        refine cmpGood ok.room l2 (r1.rd l2 q1) (r2.rd l2 q2) q3 ⟨r, rfl, ?_⟩
        cases r with
        | false =>
          rw [if_neg Bool.false_ne_true]
          exact ⟨false, rfl, hg false e2 H2 G2 s2 l2 hp⟩
        | true =>
          rw [if_pos rfl]
          refine rvE hd ok tk l2 hp fun rc e3 w H3 G3 s3 l3 r3 hp3 => ?_
          obtain ⟨G4, s4, l4, r4⟩ := r3.nrm l3
          cases q4 : rd rb e3 with
          | none => rw [q4] at hp3; exact hp3.elim
          | some p4 =>
            cases q5 : rd rc e3 with
            | none => rw [q4, q5] at hp3; exact hp3.elim
            | some p5 =>
              rw [q4, q5] at hp3
              dsimp only at hp3
              cases q6 : cmpD op' p4 p5 with
              | none => rw [q6] at hp3; exact hp3.elim
              | some r' =>
                rw [q6] at hp3
                have r2' : RvOk KZ F G4 H3 σ e3 u (nrm rb) := by
                  cases rb with
                  | v d => exact Dp.same (s3.trans s4) _ _ r2
                  | o d => exact Dp.same (s3.trans s4) _ _ r2
                  | b i => exact r2
                exact cmpGood ok.room l4 (RvOk.rd (r := rb) (by cases rb <;> exact r2') l4 q4) (r4.rd l4 q5) q6 ⟨r', rfl, hg r' e3 H3 G4 (s2.trans (s3.trans s4)) l4 (Po.mono s4 hp3)⟩
end
end L2.Mp
set_option Elab.async false
set_option linter.all false
set_option maxRecDepth 100000
set_option maxHeartbeats 4000000
namespace L2.Mp
open PySem PySem.Spec PyProof.Rows L2
section
variable {c : Ct} {cf : CF} {k : Nat} {a b d lo hi : T} {x y z : Expr} {pos : Pos}
theorem good_chain {op op' : CmpOp} (ha : GoodE c cf k a x) (hb : GoodE c cf k b y) (hd : GoodE c cf k d z) (hm : lastMarks [op, op'] [y, z] = false) : GoodE c cf k (.chain op op' a b d) (.Compare x [op, op'] [y, z] pos) := by
  intro X ok F G H S σ e Q W tk l hq
  refine fun pins s I => thn ((pe_chain (oOp_ok (X := X)) (oOp_ok (X := X)) (pe_w (x := x)) (pe_w (x := y)) (pe_w (x := z)) hm).run pins s σ H (fun v H' => ∃ b, v = .bl b ∧ Q (.bl b) H') I (good_chain0 ha hb hd ok tk l (β := Val) (p := pE X F S σ Q) (g := fun b e' => R.ok (Val.rv (RV.v (PyData.bool b))) e') hq fun b e' H' G' s' l' hp => hp (.bl b) H' G' (Same.refl G') l' (.bl b))) fun u s' ⟨v, H', I', r', b, e1, q⟩ => ⟨v, H', I', r', by rw [e1]; exact q⟩
theorem test_chain (op op' : CmpOp) (e : Fm) : testR (ev cf (.chain op op' a b d) e) = (ev cf a e).rv fun ra e1 => (ev cf b e1).rv fun rb e2 => (match rd ra e2, rd rb e2 with
      | some x, some y => (match cmpD op x y with
        | some true => (ev cf d e2).rv fun rc e3 => (match rd rb e3, rd rc e3 with
          | some y', some z => (match cmpD op' y' z with
            | some k => .ok k e3
            | none => .bad)
          | _, _ => .bad)
        | some false => .ok false e2
        | none => .bad)
      | _, _ => .bad) := by
  show testR ((ev cf a e).rv _) = _
  rw [testR_rv]
  congr 1
  funext ra e1
  rw [testR_rv]
  congr 1
  funext rb e2
  cases rd ra e2 with
  | none => rfl
  | some p1 =>
    cases rd rb e2 with
    | none => rfl
    | some p2 =>
      dsimp only
      cases cmpD op p1 p2 with
      | none => rfl
      | some t =>
        cases t with
        | false => rfl
        | true =>
          dsimp only
          rw [testR_rv]
          congr 1
          funext rc e3
          cases rd rb e3 with
          | none => rfl
          | some p4 =>
            cases rd rc e3 with
            | none => rfl
            | some p5 =>
              dsimp only
              cases cmpD op' p4 p5 <;> rfl
theorem goodT_chain {op op' : CmpOp} (ha : GoodE c cf k a x) (hb : GoodE c cf k b y) (hd : GoodE c cf k d z) (hm : lastMarks [op, op'] [y, z] = false) : GoodT c cf k (.chain op op' a b d) (.Compare x [op, op'] [y, z] pos) := by
  intro X ok F G H S σ e Q W tk l hq
  rw [test_chain] at hq
  refine ofT (pt_chain (oOp_ok (X := X)) (oOp_ok (X := X)) pe_w pe_w pe_w hm) ?_
  exact good_chain0 ha hb hd ok tk l (β := Bool) (p := pT X F S σ Q) (g := fun b e' => R.ok b e') hq fun b e' H' G' s' l' hp => hp H' G' (Same.refl G') l'

/-! ### and, or -/
theorem good_one {op : BoolOp} (ha : GoodE c cf k a x) : GoodE c cf k (.one a) (.BoolOp op [x] pos) := fun X ok F G H S σ e Q W tk l hq => ofE (pe_one pe_w) (ha X ok F G H S σ e Q W tk l hq)
theorem goodW_one {op : BoolOp} (ha : GoodT c cf k a x) : GoodW c cf k (.one a) (.BoolOp op [x] pos) := fun X ok F G H S σ e Q W tk l hq => by
  have q := ha X ok F G H S σ e Q W tk l hq
  cases op with
  | And => exact ofW (pw_and1 pt_w) q
  | Or => exact ofW (pw_or1 pt_w) q
theorem goodT_of_W (ha : GoodW c cf k a x) : GoodT c cf k a x := fun X ok F G H S σ e Q W tk l hq pins s I => ha X ok F G H S σ e Q W tk l hq _ pins s I
theorem good_and {rest : List Expr} (ha : GoodE c cf k a x) (hb : GoodE c cf k b (.BoolOp .And (y :: rest) pos)) : GoodE c cf k (.and a b) (.BoolOp .And (x :: y :: rest) pos) := by
  intro X ok F G H S σ e Q W tk l hq
  refine ofE (pe_andT pe_w (pe_w (x := .BoolOp .And (y :: rest) pos))) ?_
  refine rvE ha ok tk l hq fun ra e1 v H1 G1 s1 l1 r1 hp => ?_
  cases q1 : rd ra e1 with
  | none => rw [q1] at hp; exact hp.elim
  | some p =>
    rw [q1] at hp
    dsimp only [Option.bind] at hp
    cases q2 : tru p with
    | none => rw [q2] at hp; exact hp.elim
    | some t =>
      rw [q2] at hp
      obtain ⟨G2, s2, l2, r2⟩ := r1.nrm l1
      refine ⟨t, truOk (r2.rd l2 q1) l2.g q2, ?_⟩
      cases t with
      | true =>
        rw [if_pos rfl]
        exact hb X ok F G2 H1 S σ e1 Q W tk l2 (Po.mono s2 hp)
      | false =>
        rw [if_neg Bool.false_ne_true]
        exact hp v H1 G1 (Same.refl G1) l1 r1
theorem good_or {rest : List Expr} (ha : GoodE c cf k a x) (hb : GoodE c cf k b (.BoolOp .Or (y :: rest) pos)) : GoodE c cf k (.or a b) (.BoolOp .Or (x :: y :: rest) pos) := by
  intro X ok F G H S σ e Q W tk l hq
  refine ofE (pe_orT pe_w (pe_w (x := .BoolOp .Or (y :: rest) pos))) ?_
  refine rvE ha ok tk l hq fun ra e1 v H1 G1 s1 l1 r1 hp => ?_
  cases q1 : rd ra e1 with
  | none => rw [q1] at hp; exact hp.elim
  | some p =>
    rw [q1] at hp
    dsimp only [Option.bind] at hp
    cases q2 : tru p with
    | none => rw [q2] at hp; exact hp.elim
    | some t =>
      rw [q2] at hp
      obtain ⟨G2, s2, l2, r2⟩ := r1.nrm l1
      refine ⟨t, truOk (r2.rd l2 q1) l2.g q2, ?_⟩
      cases t with
      | false =>
        rw [if_neg Bool.false_ne_true]
        exact hb X ok F G2 H1 S σ e1 Q W tk l2 (Po.mono s2 hp)
      | true =>
        rw [if_pos rfl]
        exact hp v H1 G1 (Same.refl G1) l1 r1
theorem test_and (e : Fm) : testR (ev cf (.and a b) e) = (testR (ev cf a e)).bnd fun q e1 => if q = true then testR (ev cf b e1) else .ok false e1 := by
  rw [testR_bnd]
  show testR ((ev cf a e).rv _) = _
  rw [testR_rv]
  congr 1
  funext r e1
  cases q : rd r e1 with
  | none => rfl
  | some p =>
    dsimp only [Option.bind]
    cases q2 : tru p with
    | none => rfl
    | some t =>
      cases t with
      | true => rfl
      | false =>
        dsimp only
        unfold testR R.rv
        dsimp only
        rw [q]
        dsimp only
        rw [q2]
        rfl
theorem test_or (e : Fm) : testR (ev cf (.or a b) e) = (testR (ev cf a e)).bnd fun q e1 => if q = true then .ok true e1 else testR (ev cf b e1) := by
  rw [testR_bnd]
  show testR ((ev cf a e).rv _) = _
  rw [testR_rv]
  congr 1
  funext r e1
  cases q : rd r e1 with
  | none => rfl
  | some p =>
    dsimp only [Option.bind]
    cases q2 : tru p with
    | none => rfl
    | some t =>
      cases t with
      | false => rfl
      | true =>
        dsimp only
        unfold testR R.rv
        dsimp only
        rw [q]
        dsimp only
        rw [q2]
        rfl
theorem goodW_and {rest : List Expr} (ha : GoodT c cf k a x) (hb : GoodW c cf k b (.BoolOp .And (y :: rest) pos)) : GoodW c cf k (.and a b) (.BoolOp .And (x :: y :: rest) pos) := by
  intro X ok F G H S σ e Q W tk l hq
  rw [test_and] at hq
  refine ofW (pw_and pt_w (pw_w (x := .BoolOp .And (y :: rest) pos))) ?_
  refine bndT ha ok tk l hq fun t e1 H1 G1 s1 l1 hp => ?_
  cases t with
  | true =>
    rw [if_pos rfl] at hp ⊢
    exact hb X ok F G1 H1 S σ e1 Q W tk l1 hp
  | false =>
    rw [if_neg Bool.false_ne_true] at hp ⊢
    exact hp H1 G1 (Same.refl G1) l1
theorem goodW_or {rest : List Expr} (ha : GoodT c cf k a x) (hb : GoodW c cf k b (.BoolOp .Or (y :: rest) pos)) : GoodW c cf k (.or a b) (.BoolOp .Or (x :: y :: rest) pos) := by
  intro X ok F G H S σ e Q W tk l hq
  rw [test_or] at hq
  refine ofW (pw_or pt_w (pw_w (x := .BoolOp .Or (y :: rest) pos))) ?_
  refine bndT ha ok tk l hq fun t e1 H1 G1 s1 l1 hp => ?_
  cases t with
  | false =>
    rw [if_neg Bool.false_ne_true] at hp ⊢
    exact hb X ok F G1 H1 S σ e1 Q W tk l1 hp
  | true =>
    rw [if_pos rfl] at hp ⊢
    exact hp H1 G1 (Same.refl G1) l1

/-! ### a if c else b -/
theorem good_ite (hd : GoodT c cf k d z) (ha : GoodE c cf k a x) (hb : GoodE c cf k b y) : GoodE c cf k (.ite d a b) (.IfExp z x y pos) := by
  intro X ok F G H S σ e Q W tk l hq
  refine ofE (pe_ifExp pt_w pe_w pe_w) ?_
  refine bndT hd ok tk l hq fun t e1 H1 G1 s1 l1 hp => ?_
  cases t with
  | true =>
    rw [if_pos rfl] at hp ⊢
    exact ha X ok F G1 H1 S σ e1 Q W tk l1 hp
  | false =>
    rw [if_neg Bool.false_ne_true] at hp ⊢
    exact hb X ok F G1 H1 S σ e1 Q W tk l1 hp
theorem test_bnd_ite (m : R Bool) (f g : Fm → R Val) : testR (m.bnd fun q e1 => if q = true then f e1 else g e1) = m.bnd fun q e1 => if q = true then testR (f e1) else testR (g e1) := by
  cases m with
  | ok t e => cases t <;> rfl
  | _ => rfl
theorem goodT_ite (hd : GoodT c cf k d z) (ha : GoodT c cf k a x) (hb : GoodT c cf k b y) : GoodT c cf k (.ite d a b) (.IfExp z x y pos) := by
  intro X ok F G H S σ e Q W tk l hq
  have hq : Po X F S W (pT X F S σ Q) G (testR ((testR (ev cf d e)).bnd fun q e1 => if q = true then ev cf a e1 else ev cf b e1)) := hq
  rw [test_bnd_ite] at hq
  intro pins s I
  refine isTrue_IfExp (thn ((bndT hd ok tk l hq (Q := fun t H' => if t = true then wxT X x σ H' Q else wxT X y σ H' Q) fun t e1 H1 G1 s1 l1 hp => ?_) pins s I) fun t s1 ⟨H1, I1, q1⟩ => ?_)
  · cases t with
    | true =>
      rw [if_pos rfl] at hp ⊢
      exact ha X ok F G1 H1 S σ e1 Q W tk l1 hp
    | false =>
      rw [if_neg Bool.false_ne_true] at hp ⊢
      exact hb X ok F G1 H1 S σ e1 Q W tk l1 hp
  · cases t with
    | true =>
      rw [if_pos rfl] at q1 ⊢
      exact q1 pins s1 I1
    | false =>
      rw [if_neg Bool.false_ne_true] at q1 ⊢
      exact q1 pins s1 I1

/-! ### displays -/
theorem good_nil : GoodL c cf k .nil [] := fun X ok F G H S σ e Q W tk l hq => ofA pa_nil (hq [] H G (Same.refl G) l True.intro)
def isStar : Expr → Bool
  | .Starred _ _ => true
  | _ => false
theorem star_cons {x : Expr} {xs : List Expr} {env : Env} (h : isStar x = false) : starEach (x :: xs) env = (false, eval x env) :: starEach xs env := by
  cases x <;> first | rfl | cases h
theorem good_cons {xs : List Expr} (ha : GoodE c cf k a x) (hb : GoodL c cf k b xs) (hs : isStar x = false) : GoodL c cf k (.cons a b) (x :: xs) := by
  intro X ok F G H S σ e Q W tk l hq
  refine ofA (pa_cons pe_w pa_w (star_cons hs)) ?_
  refine rvE ha ok tk l hq fun ra e1 v H1 G1 s1 l1 r1 hp => ?_
  obtain ⟨G2, s2, l2, r2⟩ := r1.nrm l1
  refine rvsL hb ok tk l2 (Po.mono s2 hp) fun rs e2 vs H3 G3 s3 l3 r3 hp3 => ?_
  refine hp3 (v :: vs) H3 G3 (Same.refl G3) l3 ⟨?_, r3⟩
  have : nrm (nrm ra) = nrm ra := by cases ra <;> rfl
  rw [this]
  exact r2.later s3
theorem good_tup {xs : List Expr} {j : Nat} (ha : GoodL c cf k a xs) : GoodE c cf k (.tup a) (.Tuple xs j pos) := by
  intro X ok F G H S σ e Q W tk l hq
  refine ofE (pe_tup pa_w) ?_
  refine rvsL ha ok tk l hq fun rs e1 vs H1 G1 s1 l1 r1 hp => ?_
  cases q : fzs rs e1 with
  | none => rw [q] at hp; exact hp.elim
  | some p =>
    obtain ⟨ds, e2⟩ := p
    rw [q] at hp
    dsimp only at hp
    split at hp
    · rename_i hz
      obtain ⟨G2, s2, l2, d2⟩ := RvsOk.fzs l1 r1 q
      refine ⟨by rw [DpAll.length d2, ← line_eq]; exact hz, fun p np => ?_⟩
      exact fin_t l2 np d2 fun z H' G' s' l' r' => (Po.mono s2 hp) z H' G' s' l' r'
    · exact hp.elim
theorem good_lst {xs : List Expr} (ha : GoodL c cf k a xs) : GoodE c cf k (.lst a) (.List xs pos) := by
  intro X ok F G H S σ e Q W tk l hq
  refine ofE (pe_lst pa_w) ?_
  refine rvsL ha ok tk l hq fun rs e1 vs H1 G1 s1 l1 r1 hp => ?_
  cases q : fzs rs e1 with
  | none => rw [q] at hp; exact hp.elim
  | some p =>
    obtain ⟨ds, e2⟩ := p
    rw [q] at hp
    dsimp only at hp
    split at hp
    · rename_i hz
      obtain ⟨G2, s2, l2, d2⟩ := RvsOk.fzs l1 r1 q
      refine ⟨by rw [DpAll.length d2, ← line_eq]; exact hz, fun p np => ?_⟩
      exact fin_l l2 np d2 fun z H' G' s' l' r' => (Po.mono s2 hp) z H' G' s' l' r'
    · exact hp.elim
/-- [..] * n -/
theorem good_lrep {xs : List Expr} {pos' : Pos} (ha : GoodL c cf k a xs) (hb : GoodE c cf k b y) : GoodE c cf k (.lrep a b) (.BinOp (.List xs pos') .Mult y pos) := by
  intro X ok F G H S σ e Q W tk l hq
  refine ofE (pe_op op_rep (pe_lst pa_w) pe_w) ?_
  refine rvsL ha ok tk l hq fun rs e1 vs H1 G1 s1 l1 r1 hp => ?_
  cases q : fzs rs e1 with
  | none => rw [q] at hp; exact hp.elim
  | some p =>
    obtain ⟨ds, e2⟩ := p
    rw [q] at hp
    dsimp only at hp
    split at hp
    · rename_i hz
      obtain ⟨G2, s2, l2, d2⟩ := RvsOk.fzs l1 r1 q
      refine ⟨by rw [DpAll.length d2, ← line_eq]; exact hz, fun p np => ?_⟩
      refine rvE hb ok tk (l2.newG (o := .lst vs) np) (Po.mono (s2.trans (smUpdN (smNone l2.g np))) hp) fun rb e3 u H3 G3 s3 l3 r3 hp3 => ?_
      obtain ⟨G4, s4, l4, r4⟩ := r3.nrm l3
      cases q1 : rd rb e3 with
      | none => rw [q1] at hp3; exact hp3.elim
      | some w =>
        rw [q1] at hp3
        cases w with
        | int i =>
          dsimp only at hp3
          split at hp3
          · rename_i hm
            obtain rfl := (r4.rd l4 q1).int
            refine ⟨p, i, vs, rfl, rfl, l3.g _ _ (s3 _ _ upd_same), hm.1, hm.2.1, ?_, fun p2 np2 => ?_⟩
            · rw [DpAll.length d2, ← line_eq]; exact hm.2.2
            · exact fin_l l4 np2 (DpAll.rep (Dp.sameAll ((smUpdN (smNone l2.g np)).trans (s3.trans s4)) _ _ d2) _) fun z H' G' s' l' r' => (Po.mono s4 hp3) z H' G' s' l' r'
          · exact hp3.elim
        | _ => exact hp3.elim
    · exact hp.elim

/-! ### items, slices -/
def isSlice : Expr → Bool
  | .Slice _ _ _ _ => true
  | _ => false
theorem plainIx {y : Expr} (h : isSlice y = false) : PlainIx y := by
  intro o i
  cases y <;> first | rfl | cases h
theorem atI_vs {K : PySem.W.Frag} {G : Hp} {vs : List V} {ds : List D} {i : Int} {d : D} (h : DpAll K G vs ds) (e : atI ds i = some d) : ∃ v, atI vs i = some v ∧ Dp K G v d := by
  unfold atI at e ⊢
  rw [DpAll.length h]
  cases q : ixN ds.length i with
  | none => rw [q] at e; cases e
  | some j =>
    rw [q] at e
    exact DpAll.get h e
theorem good_idx (ha : GoodE c cf k a x) (hb : GoodE c cf k b y) (hs : isSlice y = false) : GoodE c cf k (.idx a b) (.Subscript x y pos) := by
  intro X ok F G H S σ e Q W tk l hq
  refine ofE (pe_ix (ix_list.or ix_tup) pe_w pe_w (plainIx hs)) ?_
  refine rvE2 ha hb ok tk l hq fun ra rb e2 v u H2 G2 s2 l2 r1 r2 hp => ?_
  cases q1 : rd ra e2 with
  | none => rw [q1] at hp; exact hp.elim
  | some p =>
    cases q2 : rd rb e2 with
    | none => rw [q1, q2] at hp; exact hp.elim
    | some q =>
      rw [q1, q2] at hp
      dsimp only at hp
      cases q3 : idxD p q with
      | none => rw [q3] at hp; exact hp.elim
      | some d =>
        rw [q3] at hp
        unfold idxD at q3
        split at q3
        · obtain ⟨a1, vs, rfl, h1, h2⟩ := (r1.rd l2 q1).lst l2.g
          obtain rfl := (r2.rd l2 q2).int
          obtain ⟨w, h3, h4⟩ := atI_vs h2 q3
          exact .inl ⟨a1, vs, _, w, rfl, rfl, .inl h1, h3, hp w H2 G2 (Same.refl G2) l2 h4⟩
        · obtain ⟨a1, vs, rfl, h1, h2⟩ := (r1.rd l2 q1).tup
          obtain rfl := (r2.rd l2 q2).int
          obtain ⟨w, h3, h4⟩ := atI_vs h2 q3
          exact .inr ⟨a1, vs, _, w, rfl, rfl, .inl (Rd.same l2.g h1), h3, hp w H2 G2 (Same.refl G2) l2 h4⟩
        · cases q3
/-- a slice's part -/
abbrev wxO (X : Cx) (o : Option Expr) : TO := fun σ H Q => ∀ pins s, Inv X pins σ H s → wpAny (model X.prog X.w) X.A (evalPart o X.env) (fun u s' => ∃ o H', Inv X pins σ H' s' ∧ IsPart u o ∧ Q o H') X.xe s
theorem po_w {X : Cx} {o : Option Expr} : PO X o (wxO X o) := ⟨fun pins s σ H Q I h => h pins s I⟩
theorem ofO {X : Cx} {o : Option Expr} {t : TO} {σ : St} {H : Hp} {Q : Option Int → Hp → Prop} (h : PO X o t) (q : t σ H Q) : wxO X o σ H Q := fun pins s I => h.run pins s σ H Q I q
def evO (cf : CF) (t : T) (e : Fm) : R (Option Int) := match t with
  | .absent => .ok none e
  | _ => partR (ev cf t e)
def GoodO (c : Ct) (cf : CF) (k : Nat) (t : T) (o : Option Expr) : Prop := ∀ X, XOk c cf k X → ∀ F G H S σ e Q W, Takes X W → Rl KZ F G H S σ e → Po X F S W (pT X F S σ Q) G (evO cf t e) → wxO X o σ H Q
theorem good_absent : GoodO c cf k .absent none := fun X ok F G H S σ e Q W tk l hq => ofO po_none (hq H G (Same.refl G) l)
theorem good_part (ha : GoodE c cf k a x) (hn : ∀ e, evO cf a e = partR (ev cf a e)) : GoodO c cf k a (some x) := by
  intro X ok F G H S σ e Q W tk l hq
  rw [hn] at hq
  refine ofO (po_some pe_w) ?_
  refine rvE ha ok tk l hq fun ra e1 v H1 G1 s1 l1 r1 hp => ?_
  obtain ⟨G2, s2, l2, r2⟩ := r1.nrm l1
  cases q1 : rd ra e1 with
  | none => rw [q1] at hp; exact hp.elim
  | some w =>
    rw [q1] at hp
    cases w with
    | int i =>
      obtain rfl := (r2.rd l2 q1).int
      exact ⟨i, rfl, (Po.mono s2 hp) H1 G2 (Same.refl G2) l2⟩
    | _ => exact hp.elim
theorem bndO {o : Option Expr} {X : Cx} {F G H : Hp} {S σ : St} {e : Fm} {W : WX} {β : Type} {p : Pp β} (h : GoodO c cf k a o) (ok : XOk c cf k X) (tk : Takes X W) (l : Rl KZ F G H S σ e) {kk : Option Int → Fm → R β} (hp : Po X F S W p G ((evO cf a e).bnd kk)) {Q : Option Int → Hp → Prop}
    (hk : ∀ r e1 H1 G1, Same G G1 → Rl KZ F G1 H1 S σ e1 → Po X F S W p G1 (kk r e1) → Q r H1) : wxO X o σ H Q := by
  refine h X ok F G H S σ e Q W tk l ?_
  cases q : evO cf a e with
  | bad => rw [q] at hp; exact hp
  | rz z e1 => rw [q] at hp; exact hp
  | ok r e1 =>
    rw [q] at hp
    exact fun H' G' s l' => hk r e1 H' G' s l' (Po.mono s hp)
theorem DpAll.cut {K : PySem.W.Frag} {G : Hp} {vs : List V} {ds : List D} (h : DpAll K G vs ds) (lo hi : Option Int) : DpAll K G (cutV vs lo hi) (cut ds lo hi) := by
  unfold cutV L2.Mp.cut
  rw [DpAll.length h]
  exact DpAll.take _ (DpAll.drop _ h)
def oSl (X : Cx) : V → Option Int → Option Int → Hp → VK → Prop := fun x lo hi H Q => ∀ pins s σ v vl vu sl, Inv X pins σ H s → RelV x v → s.heap.IsSliceOf sl vl vu .none → IsPart vl lo → IsPart vu hi →
    ∃ T id, typeLookup (.type T) "__getitem__" = pure (some (.builtin id)) ∧ s.TypeIs v T ∧ wpAny (model X.prog X.w) X.A (getItem v (.ref sl)) (EP X pins σ Q) X.xe s
theorem oSl_ok {X : Cx} : SlR X (oSl X) := fun pins s σ H x v vl vu lo hi sl Q I rx hs pl pu h => h pins s σ v vl vu sl I rx hs pl pu
theorem oSl_of {X : Cx} {r : V → Option Int → Option Int → Hp → VK → Prop} (h : SlR X r) {x : V} {lo hi : Option Int} {H : Hp} {Q : VK} (q : r x lo hi H Q) : oSl X x lo hi H Q := fun pins s σ v vl vu sl I rx hs pl pu => h pins s σ H x v vl vu lo hi sl Q I rx hs pl pu q
theorem slcOk {X : Cx} {F G H : Hp} {S σ : St} {e : Fm} {v : V} {x : D} {lo hi : Option Int} {r : RV} {Q : VK} (l : Rl KZ F G H S σ e) (dx : Dq KZ G H v x) (hb : slcD x lo hi = some r) (q : ∀ w H' G', Same G G' → Rl KZ F G' H' S σ e → RvOk KZ F G' H' σ e w r → Q w H') : oSl X v lo hi H Q := by
  unfold slcD at hb
  split at hb
  · cases hb
    obtain ⟨a1, vs, rfl, h1, h2⟩ := dx.lst l.g
    exact oSl_of sl_list ⟨a1, vs, rfl, .inl h1, fun p np => fin_l l np (DpAll.cut h2 lo hi) q⟩
  · cases hb
    obtain ⟨a1, vs, rfl, h1, h2⟩ := dx.tup
    refine oSl_of sl_tupA ⟨a1, vs, rfl, .inl (Rd.same l.g h1), fun hw => ?_, fun _ p np => fin_t l np (DpAll.cut h2 lo hi) q⟩
    refine fin_v l (.tup (.inl h1) ?_) q
    have hc := DpAll.cut h2 lo hi
    have e1 : cutV vs lo hi = vs := by
      unfold cutV
      rw [hw.1, hw.2, List.drop_zero, Nat.sub_zero, List.take_length]
    rw [e1] at hc
    exact hc
  · cases hb
theorem ev_slc (e : Fm) : ev cf (.slc a lo hi) e = (ev cf a e).rv fun ra e1 => (evO cf lo e1).bnd fun i e2 => (evO cf hi e2).bnd fun j e3 => (match rd ra e3 with
    | some x => optR (slcD x i j) e3
    | none => .bad) := rfl
theorem good_slc {olo ohi : Option Expr} {pos' : Pos} (ha : GoodE c cf k a x) (hl : GoodO c cf k lo olo) (hh : GoodO c cf k hi ohi) : GoodE c cf k (.slc a lo hi) (.Subscript x (.Slice olo ohi none pos') pos) := by
  intro X ok F G H S σ e Q W tk l hq
  rw [ev_slc] at hq
  refine ofE (pe_slice oSl_ok pe_w po_w po_w) ?_
  refine rvE ha ok tk l hq fun ra e1 v H1 G1 s1 l1 r1 hp => ?_
  obtain ⟨G2, s2, l2, r2⟩ := r1.nrm l1
  refine bndO hl ok tk l2 (Po.mono s2 hp) fun i e3 H3 G3 s3 l3 hp3 => ?_
  refine bndO hh ok tk l3 hp3 fun j e4 H4 G4 s4 l4 hp4 => ?_
  cases q1 : rd ra e4 with
  | none => rw [q1] at hp4; exact hp4.elim
  | some w =>
    rw [q1] at hp4
    dsimp only [optR] at hp4
    cases q2 : slcD w i j with
    | none => rw [q2] at hp4; exact hp4.elim
    | some r =>
      rw [q2] at hp4
      exact slcOk l4 ((r2.later (s3.trans s4)).rd l4 q1) q2 fun z H' G' s' l' r' => hp4 z H' G' s' l' r'
end
end L2.Mp
set_option Elab.async false
set_option linter.all false
set_option maxRecDepth 100000
set_option maxHeartbeats 4000000
namespace L2.Mp
open PySem PySem.Spec PyProof.Rows L2

/-! ### a call's arguments -/
inductive MA (e : Fm) : List RV → List Arg → List Nat → List Nat → Prop
  | nil : MA e [] [] [] []
  | io {i : Nat} {q : Bool} {ds : List D} {rs : List RV} {as : List Arg} {is bs : List Nat} : e[i]? = some (.own q ds) → MA e rs as is bs → MA e (.b i :: rs) (.io ds :: as) (i :: is) bs
  | own {i : Nat} {q : Bool} {ds : List D} {rs : List RV} {as : List Arg} {is bs : List Nat} : e[i]? = some (.own q ds) → MA e rs as is bs → MA e (.b i :: rs) (.d (.list ds) :: as) is (i :: bs)
  | val {r : RV} {d : D} {rs : List RV} {as : List Arg} {is bs : List Nat} : rd r e = some d → (∀ i, r = .b i → e[i]? = some (.val d)) → MA e rs as is bs → MA e (r :: rs) (.d d :: as) is bs
theorem ma_of {e : Fm} : ∀ {fl : List Bool} {rs : List RV} {as : List Arg} {is bs : List Nat}, mkArgs fl rs e = some (as, is, bs) → MA e rs as is bs
  | [], [], _, _, _, h => by cases h; exact .nil
  | true :: fl, .b i :: rs, as, is, bs, h => by
    have h : (match e[i]?, mkArgs fl rs e with
      | some (.own _ ds), some (as, is, bs) => some (.io ds :: as, i :: is, bs)
      | _, _ => none) = some (as, is, bs) := h
    cases q1 : e[i]? with
    | none => rw [q1] at h; cases h
    | some w =>
      cases w with
      | no => rw [q1] at h; cases h
      | val d => rw [q1] at h; cases h
      | own q ds =>
        cases q2 : mkArgs fl rs e with
        | none => rw [q1, q2] at h; cases h
        | some p =>
          obtain ⟨a1, i1, b1⟩ := p
          rw [q1, q2] at h
          cases h
          exact .io q1 (ma_of q2)
  | false :: fl, r :: rs, as, is, bs, h => by
    have h : (match rd r e, mkArgs fl rs e with
      | some d, some (as, is, bs) => some (.d d :: as, is, lent r e bs)
      | _, _ => none) = some (as, is, bs) := h
    cases q1 : rd r e with
    | none => rw [q1] at h; cases h
    | some d =>
      cases q2 : mkArgs fl rs e with
      | none => rw [q1, q2] at h; cases h
      | some p =>
        obtain ⟨a1, i1, b1⟩ := p
        rw [q1, q2] at h
        cases r with
        | v d' => cases h; exact .val q1 (fun i z => by cases z) (ma_of q2)
        | o d' => cases h; exact .val q1 (fun i z => by cases z) (ma_of q2)
        | b i =>
          have q1' : (match e[i]? with
            | some (.own _ ds) => some (PyData.list ds)
            | some (.val d) => some d
            | _ => none) = some d := q1
          have h : some (Arg.d d :: a1, i1, if isOwnS e[i]? then i :: b1 else b1) = some (as, is, bs) := h
          cases q3 : e[i]? with
          | none => rw [q3] at q1'; cases q1'
          | some w =>
            cases w with
            | no => rw [q3] at q1'; cases q1'
            | val d' =>
              rw [q3] at h q1'
              cases q1'
              cases h
              exact .val q1 (fun j z => by cases z; exact q3) (ma_of q2)
            | own q ds =>
              rw [q3] at h q1'
              cases q1'
              cases h
              exact .own q3 (ma_of q2)
  | true :: _, .v _ :: _, _, _, _, h => by cases h
  | true :: _, .o _ :: _, _, _, _, h => by cases h
  | [], _ :: _, _, _, _, h => by cases h
  | true :: _, [], _, _, _, h => by cases h
  | false :: _, [], _, _, _, h => by cases h
theorem MA.ios {e : Fm} {rs : List RV} {as : List Arg} {is bs : List Nat} (h : MA e rs as is bs) : ∀ i ∈ is, ∃ q ds, e[i]? = some (.own q ds) := by
  induction h with
  | nil => intro i z; cases z
  | io h1 _ ih =>
    intro i z
    rcases List.mem_cons.mp z with rfl | z
    · exact ⟨_, _, h1⟩
    · exact ih i z
  | own h1 _ ih => exact ih
  | val h1 _ _ ih => exact ih
theorem MA.bos {e : Fm} {rs : List RV} {as : List Arg} {is bs : List Nat} (h : MA e rs as is bs) : ∀ i ∈ bs, ∃ q ds, e[i]? = some (.own q ds) := by
  induction h with
  | nil => intro i z; cases z
  | io h1 _ ih => exact ih
  | own h1 _ ih =>
    intro i z
    rcases List.mem_cons.mp z with rfl | z
    · exact ⟨_, _, h1⟩
    · exact ih i z
  | val h1 _ _ ih => exact ih
theorem MA.args {F G H : Hp} {S σ : St} {e : Fm} {rs : List RV} {as : List Arg} {is bs : List Nat} (h : MA e rs as is bs) (l : Rl KZ F G H S σ e) {Fc Gc : Hp} (s : Same G Gc)
    (hb : ∀ i a, i ∈ bs → σ[i]? = some (some (.ref a)) → Gc a = H a) (hi : ∀ i a, i ∈ is → σ[i]? = some (some (.ref a)) → Gc a = none ∧ Fc a = none) : ∀ {vs : List V}, RvsOk KZ F G H σ e vs rs → Paired (ArgOk KZ Fc Gc H) vs as := by
  induction h with
  | nil =>
    intro vs r
    cases vs with
    | nil => exact .nil
    | cons _ _ => exact r.elim
  | io h1 _ ih =>
    intro vs r
    cases vs with
    | nil => exact r.elim
    | cons v vs =>
      obtain ⟨r1, r2⟩ := r
      obtain ⟨a, us, q1, q2, q3, q4, q5, _⟩ := l.own _ _ _ h1
      have r1 : σ[_]? = some (some v) := r1
      rw [r1] at q1
      cases q1
      obtain ⟨z1, z2⟩ := hi _ a List.mem_cons_self r1
      exact .cons ⟨a, us, rfl, q2, z1, z2, Dp.sameAll s _ _ q5⟩ (ih hb (fun i a m => hi i a (List.mem_cons_of_mem _ m)) r2)
  | own h1 _ ih =>
    intro vs r
    cases vs with
    | nil => exact r.elim
    | cons v vs =>
      obtain ⟨r1, r2⟩ := r
      obtain ⟨a, us, q1, q2, q3, q4, q5, _⟩ := l.own _ _ _ h1
      have r1 : σ[_]? = some (some v) := r1
      rw [r1] at q1
      cases q1
      refine .cons (.lst (.inl (.inl ?_)) (Dp.sameAll s _ _ q5)) (ih (fun i a m => hb i a (List.mem_cons_of_mem _ m)) hi r2)
      rw [hb _ a List.mem_cons_self r1]
      exact q2
  | @val rr d rs as is bs h1 h2 _ ih =>
    intro vs r
    cases vs with
    | nil => exact r.elim
    | cons v vs =>
      obtain ⟨r1, r2⟩ := r
      refine .cons ?_ (ih hb hi r2)
      refine Dp.same s _ _ ?_
      cases rr with
      | v d' => cases h1; exact r1
      | o d' => cases h1; exact r1
      | b i =>
        obtain ⟨u, z1, z2⟩ := l.val i d (h2 i rfl)
        have r1 : σ[i]? = some (some v) := r1
        rw [r1] at z1
        cases z1
        exact z2
theorem MA.notIo {F G H : Hp} {σ : St} {e : Fm} {rs : List RV} {as : List Arg} {is bs : List Nat} (h : MA e rs as is bs) {a : Addr} : ∀ {vs : List V}, RvsOk KZ F G H σ e vs rs → NotIo vs as a → ∀ i ∈ is, σ[i]? ≠ some (some (.ref a)) := by
  induction h with
  | nil => intro vs _ _ i z; cases z
  | io h1 _ ih =>
    intro vs r n i z
    cases vs with
    | nil => exact r.elim
    | cons v vs =>
      obtain ⟨r1, r2⟩ := r
      rcases List.mem_cons.mp z with rfl | z
      · intro hs
        have r1 : σ[i]? = some (some v) := r1
        rw [hs] at r1
        cases r1
        exact n 0 _ rfl rfl
      · exact ih r2 (fun j ds hj => n (j + 1) ds hj) i z
  | own h1 _ ih =>
    intro vs r n
    cases vs with
    | nil => exact r.elim
    | cons v vs => exact ih r.2 (fun j ds hj => n (j + 1) ds hj)
  | val h1 _ _ ih =>
    intro vs r n
    cases vs with
    | nil => exact r.elim
    | cons v vs => exact ih r.2 (fun j ds hj => n (j + 1) ds hj)
/-- the n-th thing handed in is the slot is[n] -/
theorem MA.ioAt {F G H : Hp} {σ : St} {e : Fm} {rs : List RV} {as : List Arg} {is bs : List Nat} (h : MA e rs as is bs) : ∀ {vs : List V}, RvsOk KZ F G H σ e vs rs → ∀ (i : Nat) (ds : List D) (a : Addr), as[i]? = some (.io ds) → vs[i]? = some (.ref a) →
    ∃ j ∈ is, σ[j]? = some (some (.ref a)) ∧ rs[i]? = some (.b j) := by
  induction h with
  | nil => intro vs _ i ds a z; simp at z
  | io h1 _ ih =>
    intro vs r i ds a z1 z2
    cases vs with
    | nil => exact r.elim
    | cons v vs =>
      cases i with
      | zero =>
        have e1 : v = .ref a := by simpa using z2
        subst e1
        exact ⟨_, List.mem_cons_self, r.1, rfl⟩
      | succ i =>
        obtain ⟨j, hj, q⟩ := ih r.2 i ds a (by simpa using z1) (by simpa using z2)
        exact ⟨j, List.mem_cons_of_mem _ hj, q⟩
  | own h1 _ ih =>
    intro vs r i ds a z1 z2
    cases vs with
    | nil => exact r.elim
    | cons v vs =>
      cases i with
      | zero => simp at z1
      | succ i => exact ih r.2 i ds a (by simpa using z1) (by simpa using z2)
  | val h1 _ _ ih =>
    intro vs r i ds a z1 z2
    cases vs with
    | nil => exact r.elim
    | cons v vs =>
      cases i with
      | zero => simp at z1
      | succ i => exact ih r.2 i ds a (by simpa using z1) (by simpa using z2)
theorem noDup_cons {i : Nat} {r : List Nat} (h : noDup (i :: r) = true) : i ∉ r ∧ noDup r = true := by
  simp only [noDup, Bool.and_eq_true, Bool.not_eq_true', List.contains_eq_mem, decide_eq_false_iff_not] at h
  exact h
theorem MA.once {e : Fm} {rs : List RV} {as : List Arg} {is bs : List Nat} (h : MA e rs as is bs) : noDup is = true → ∀ (i j n : Nat) (ds es : List D), as[i]? = some (.io ds) → as[j]? = some (.io es) → rs[i]? = some (.b n) → rs[j]? = some (.b n) → i = j := by
  have mem : ∀ {rs : List RV} {as : List Arg} {is bs : List Nat}, MA e rs as is bs → ∀ (i n : Nat) (ds : List D), as[i]? = some (.io ds) → rs[i]? = some (.b n) → n ∈ is := by
    intro rs as is bs h
    induction h with
    | nil => intro i n ds z; simp at z
    | io h1 _ ih =>
      intro i n ds z1 z2
      cases i with
      | zero => simp at z2; subst z2; exact List.mem_cons_self
      | succ i => exact List.mem_cons_of_mem _ (ih i n ds (by simpa using z1) (by simpa using z2))
    | own h1 _ ih =>
      intro i n ds z1 z2
      cases i with
      | zero => simp at z1
      | succ i => exact ih i n ds (by simpa using z1) (by simpa using z2)
    | val h1 _ _ ih =>
      intro i n ds z1 z2
      cases i with
      | zero => simp at z1
      | succ i => exact ih i n ds (by simpa using z1) (by simpa using z2)
  induction h with
  | nil => intro _ i j n ds es z; simp at z
  | io h1 h2 ih =>
    intro nd i j n ds es z1 z2 z3 z4
    obtain ⟨d1, d2⟩ := noDup_cons nd
    cases i with
    | zero =>
      simp at z3
      subst z3
      cases j with
      | zero => rfl
      | succ j => exact absurd (mem h2 j _ es (by simpa using z2) (by simpa using z4)) d1
    | succ i =>
      cases j with
      | zero =>
        simp at z4
        subst z4
        exact absurd (mem h2 i _ ds (by simpa using z1) (by simpa using z3)) d1
      | succ j => exact congrArg (· + 1) (ih d2 i j n ds es (by simpa using z1) (by simpa using z2) (by simpa using z3) (by simpa using z4))
  | own h1 _ ih =>
    intro nd i j n ds es z1 z2 z3 z4
    cases i with
    | zero => simp at z1
    | succ i =>
      cases j with
      | zero => simp at z2
      | succ j => exact congrArg (· + 1) (ih nd i j n ds es (by simpa using z1) (by simpa using z2) (by simpa using z3) (by simpa using z4))
  | val h1 _ _ ih =>
    intro nd i j n ds es z1 z2 z3 z4
    cases i with
    | zero => simp at z1
    | succ i =>
      cases j with
      | zero => simp at z2
      | succ j => exact congrArg (· + 1) (ih nd i j n ds es (by simpa using z1) (by simpa using z2) (by simpa using z3) (by simpa using z4))
/-- what came out, by slots -/
def OutAt (G H : Hp) (σ : St) (i : Nat) (ds : List D) : Prop := ∃ (a : Addr) (us : List V), σ[i]? = some (some (.ref a)) ∧ H a = some (.lst us) ∧ G a = none ∧ DpAll KZ G us ds
theorem MA.outs {F G H G' H' : Hp} {σ : St} {e : Fm} {rs : List RV} {as : List Arg} {is bs : List Nat} (h : MA e rs as is bs) : ∀ {vs : List V} {outs : List (List D)}, RvsOk KZ F G H σ e vs rs → OutsOk KZ G' H' vs as outs → ∀ (n i : Nat) (ds : List D), is[n]? = some i → outs[n]? = some ds → OutAt G' H' σ i ds := by
  induction h with
  | nil => intro vs outs _ _ n i ds z; simp at z
  | io h1 _ ih =>
    intro vs outs r o n i ds z1 z2
    cases vs with
    | nil => exact r.elim
    | cons v vs =>
      cases outs with
      | nil => exact o.elim
      | cons ds' outs =>
        obtain ⟨⟨a, us, e1, e2, e3, e4⟩, o2⟩ := o
        cases n with
        | zero =>
          simp at z1 z2
          subst z1 z2 e1
          exact ⟨a, us, r.1, e2, e3, e4⟩
        | succ n => exact ih r.2 o2 n i ds (by simpa using z1) (by simpa using z2)
  | @own i0 q0 ds0 rs0 as0 is0 bs0 h1 _ ih =>
    intro vs outs r o
    cases vs with
    | nil => exact r.elim
    | cons v vs =>
      have o : OutsOk KZ G' H' vs as0 outs := by cases outs <;> exact o
      exact ih r.2 o
  | @val r0 d0 rs0 as0 is0 bs0 h1 _ _ ih =>
    intro vs outs r o
    cases vs with
    | nil => exact r.elim
    | cons v vs =>
      have o : OutsOk KZ G' H' vs as0 outs := by cases outs <;> exact o
      exact ih r.2 o

/-! ### the slots behind a call -/
theorem put_len : ∀ (is : List Nat) (outs : List (List D)) (e : Fm), (putOuts is outs e).length = e.length
  | [], _, _ => by unfold putOuts; rfl
  | _ :: _, [], _ => rfl
  | i :: is, ds :: outs, e => by
    show (putOuts is outs _).length = _
    rw [put_len is outs]
    cases q : e[i]? with
    | none => rfl
    | some w =>
      cases w with
      | own io d => exact List.length_set
      | _ => rfl
theorem put_val {j : Nat} {d : D} : ∀ {is : List Nat} {outs : List (List D)} {e : Fm}, (putOuts is outs e)[j]? = some (.val d) → e[j]? = some (.val d)
  | [], _, _, h => by unfold putOuts at h; exact h
  | _ :: _, [], _, h => h
  | i :: is, ds :: outs, e, h => by
    have h2 := put_val (is := is) (outs := outs) h
    cases q : e[i]? with
    | none => rw [q] at h2; exact h2
    | some w =>
      rw [q] at h2
      cases w with
      | own io d' =>
        rcases get_set h2 with ⟨_, z, _⟩ | ⟨_, z⟩
        · cases z
        · exact z
      | _ => exact h2
theorem put_own {j : Nat} {io : Bool} {ds : List D} : ∀ {is : List Nat} {outs : List (List D)} {e : Fm}, noDup is = true → (∀ i ∈ is, ∃ q d, e[i]? = some (.own q d)) → is.length = outs.length → (putOuts is outs e)[j]? = some (.own io ds) →
    (∃ (n : Nat) (d0 : List D), is[n]? = some j ∧ outs[n]? = some ds ∧ e[j]? = some (.own io d0)) ∨ (j ∉ is ∧ e[j]? = some (.own io ds))
  | [], _, _, _, _, _, h => by unfold putOuts at h; exact .inr ⟨by simp, h⟩
  | _ :: _, [], _, _, _, z, _ => by simp at z
  | i :: is, ds1 :: outs, e, nd, ho, hl, h => by
    obtain ⟨d1, d2⟩ := noDup_cons nd
    obtain ⟨q, d0, hi⟩ := ho i List.mem_cons_self
    have h : (putOuts is outs (match e[i]? with
      | some (.own io _) => e.set i (.own io ds1)
      | _ => e))[j]? = some (.own io ds) := h
    rw [hi] at h
    have hil : i < e.length := (List.getElem?_eq_some_iff.mp hi).1
    have ho' : ∀ i' ∈ is, ∃ q' d', (e.set i (.own q ds1))[i']? = some (.own q' d') := fun i' hm => by
      have ne : i ≠ i' := fun z => d1 (by rw [z]; exact hm)
      rw [List.getElem?_set_ne ne]
      exact ho i' (List.mem_cons_of_mem _ hm)
    rcases put_own d2 ho' (by simpa using hl) h with ⟨n, d', h1, h2, h3⟩ | ⟨h1, h2⟩
    · have ne : i ≠ j := fun z => d1 (by rw [z]; exact List.mem_of_getElem? h1)
      rw [List.getElem?_set_ne ne] at h3
      exact .inl ⟨n + 1, d', by simpa using h1, by simpa using h2, h3⟩
    · rcases get_set h2 with ⟨rfl, z, _⟩ | ⟨ne, z⟩
      · cases z
        exact .inl ⟨0, d0, rfl, rfl, hi⟩
      · exact .inr ⟨by simp [ne, h1], z⟩
/-! ### the call itself -/
theorem callG {X : Cx} {W : WX} {k : Nat} {f : Addr} {fd : FuncData} {ps : List Str} {sp : Sp} {x : Str} {y : Expr} {ys : List Expr} {p pos : Pos} (Fk : FnOk X.prog X.w X.K X.mg X.base (L2.CX X.prog X.w) k f fd ps sp) (hr : Room k X.A) (hg : Gl X x) (hm : X.mg x = some (.ref f)) (hk : PySem.W.keepIn X.K (.ref f) = true)
    (hb : Binds X.K fd ps []) (tk : Takes X W) (hd : (x == ("__debug__" : Str)) = false) (he : starEach (y :: ys) X.env = (false, eval y X.env) :: starEach ys X.env) (hpl : (backTo pos (starEach ys X.env)).any (·.1) = false) {σ : St} {H : Hp} {Q : VK}
    (h : wxA X (y :: ys) σ H fun vs H1 => ∃ E : XK, sp vs H1 Q E ∧ ∀ cls d H', E cls d H' → W cls d σ H') : wxE X (.Call (.Name x p) (y :: ys) [] pos) σ H Q := by
  intro pins s I
  refine wpAny_Call_Name_kw (ld_glob I hg hm (PySem.W.callWith_K (h₀ := X.base) I.ok.mod.kin hk (thn (h pos pins s I) fun us s1 hus => ?_) he hpl) hd)
  obtain ⟨vs, H1, I1, r, E, hs, hE⟩ := hus
  refine ⟨I1.kIn, wpAny_call ?_⟩
  have hl : (us ++ []).length = ps.length := by rw [List.append_nil, ← r.length]; exact Fk.len _ _ _ _ hs
  have hbt := hb s1 us I1.kIn hl
  rw [List.append_nil] at hbt
  refine codeAny_mono (Fk.run X.A X.stack s1 H1 ⟨us, []⟩ us vs Q E hr I1.env0 hbt r hs) fun res s' hq => ?_
  match res, hq with
  | .error u, hq => exact tk _ _ (XE.of_call I1 hE hq)
  | .ok (.ret u), hq => exact I1.after hq
  | .ok .next, hq => exact hq.elim
  | .ok .brk, hq => exact hq.elim
  | .ok .cont, hq => exact hq.elim
theorem nostar_back {env : Env} {pos : Pos} : ∀ {ys : List Expr}, (∀ y ∈ ys, isStar y = false) → (backTo pos (starEach ys env)).any (·.1) = false
  | [], _ => rfl
  | y :: ys, h => by
    rw [star_cons (h y List.mem_cons_self)]
    show (false || (backTo pos (starEach ys env)).any (·.1)) = false
    rw [nostar_back fun z hz => h z (List.mem_cons_of_mem _ hz)]
    rfl
open Classical in
noncomputable def lendG (σ : St) (bs : List Nat) (G H : Hp) : Hp := fun b => if ∃ i ∈ bs, σ[i]? = some (some (.ref b)) then H b else G b
open Classical in
noncomputable def restF (σ : St) (is : List Nat) (Gc H : Hp) : Hp := fun b => if Gc b ≠ none ∨ ∃ i ∈ is, σ[i]? = some (some (.ref b)) then none else H b
open Classical in
noncomputable def takeB (σ : St) (bs : List Nat) (G : Hp) : Hp := fun b => if ∃ i ∈ bs, σ[i]? = some (some (.ref b)) then none else G b
section
variable {c : Ct} {cf : CF} {k : Nat} {a : T} {pos pos' : Pos}
theorem good_call {f : Str} {fl : List Bool} {n : Nat} {y : Expr} {ys : List Expr} (ha : GoodL c cf k a (y :: ys)) (hf : (f, n) ∈ c.fns) (hn : fl.length = n) (hg : gloB c.sc f = true) (hd : (f == ("__debug__" : Str)) = false) (hs : ∀ z ∈ y :: ys, isStar z = false) :
    GoodE c cf k (.call f fl a) (.Call (.Name f pos') (y :: ys) [] pos) := by
  intro X ok F G H S σ e Q W tk l hq
  obtain ⟨fa, fd, ps, hps, hm, hkp, hbd, Fk⟩ := ok.gb.fn f n hf
  refine callG Fk ok.room (ok.glo hg) hm hkp hbd tk hd (star_cons (hs y List.mem_cons_self)) (nostar_back fun z hz => hs z (List.mem_cons_of_mem _ hz)) ?_
  refine rvsL ha ok tk l hq fun rs e1 vs H1 G1 s1 l1 r1 hp => ?_
  unfold doCall at hp
  cases q1 : mkArgs fl rs e1 with
  | none => rw [q1] at hp; exact hp.elim
  | some w =>
    obtain ⟨as, is, bs⟩ := w
    rw [q1] at hp
    dsimp only at hp
    split at hp
    case isFalse => exact hp.elim
    rename_i hcond
    simp only [Bool.and_eq_true, List.all_eq_true, Bool.not_eq_true', List.contains_eq_mem, decide_eq_false_iff_not] at hcond
    obtain ⟨nd, hdis⟩ := hcond
    have ma := ma_of q1
    have ownA : ∀ (i : Nat) (a : Addr), (∃ (q : Bool) (ds : List D), e1[i]? = some (.own q ds)) → σ[i]? = some (some (.ref a)) → (∃ us, H1 a = some (.lst us)) ∧ G1 a = none ∧ F a = none := fun i a ⟨q, ds, hi⟩ hsi => by
      obtain ⟨a', us, z1, z2, z3, z4, _, _⟩ := l1.own i q ds hi
      rw [hsi] at z1
      cases z1
      exact ⟨⟨us, z2⟩, z3, z4⟩
    have bOwn : ∀ b, (∃ i ∈ bs, σ[i]? = some (some (.ref b))) → (∃ us, H1 b = some (.lst us)) ∧ G1 b = none ∧ F b = none := fun b ⟨i, hi, hsi⟩ => ownA i b (ma.bos i hi) hsi
    have iOwn : ∀ b, (∃ i ∈ is, σ[i]? = some (some (.ref b))) → (∃ us, H1 b = some (.lst us)) ∧ G1 b = none ∧ F b = none := fun b ⟨i, hi, hsi⟩ => ownA i b (ma.ios i hi) hsi
    have nboth : ∀ b, (∃ i ∈ bs, σ[i]? = some (some (.ref b))) → ¬ ∃ i ∈ is, σ[i]? = some (some (.ref b)) := fun b ⟨i, hi, hsi⟩ ⟨j, hj, hsj⟩ => by
      obtain ⟨q, ds, z1⟩ := ma.bos i hi
      obtain ⟨q', ds', z2⟩ := ma.ios j hj
      have := l1.inj i j _ _ _ _ b z1 z2 hsi hsj
      subst this
      exact hdis i hi hj
    -- the callee's heaps
    generalize hGc : lendG σ bs G1 H1 = Gc
    generalize hFc : restF σ is Gc H1 = Fc
    have gcB : ∀ b, (∃ i ∈ bs, σ[i]? = some (some (.ref b))) → Gc b = H1 b := fun b hb => by rw [← hGc]; exact if_pos hb
    have gcN : ∀ b, ¬ (∃ i ∈ bs, σ[i]? = some (some (.ref b))) → Gc b = G1 b := fun b hb => by rw [← hGc]; exact if_neg hb
    have fcS : ∀ b, Gc b = none → ¬ (∃ i ∈ is, σ[i]? = some (some (.ref b))) → Fc b = H1 b := fun b h1 h2 => by rw [← hFc]; exact if_neg fun z => z.elim (fun z => z h1) h2
    have fcN : ∀ b, Gc b ≠ none ∨ (∃ i ∈ is, σ[i]? = some (some (.ref b))) → Fc b = none := fun b h1 => by rw [← hFc]; exact if_pos h1
    have sGc : Same G1 Gc := fun b o hb => by
      by_cases z : ∃ i ∈ bs, σ[i]? = some (some (.ref b))
      · rw [(bOwn b z).2.1] at hb; cases hb
      · rw [gcN b z]; exact hb
    have gcH : Same Gc H1 := fun b o hb => by
      by_cases z : ∃ i ∈ bs, σ[i]? = some (some (.ref b))
      · rw [gcB b z] at hb; exact hb
      · rw [gcN b z] at hb; exact l1.g b o hb
    have fcH : Same Fc H1 := fun b o hb => by
      by_cases z : Gc b ≠ none ∨ ∃ i ∈ is, σ[i]? = some (some (.ref b))
      · rw [fcN b z] at hb; cases hb
      · have z1 : Gc b = none := by
          cases q : Gc b with
          | none => rfl
          | some o => exact absurd (.inl (by rw [q]; exact fun z => by cases z)) z
        rw [fcS b z1 fun y => z (.inr y)] at hb
        exact hb
    have dis : ∀ b o, Gc b = some o → Fc b = none := fun b o hb => fcN b (.inl (by rw [hb]; exact fun z => by cases z))
    have gcI : ∀ b, (∃ i ∈ is, σ[i]? = some (some (.ref b))) → Gc b = none := fun b hb => by
      rw [gcN b fun z => nboth b z hb]
      exact (iOwn b hb).2.1
    -- what was foreign is foreign
    have fF : ∀ b o, F b = some o → Fc b = some o := fun b o hb => by
      have nb : ¬ ∃ i ∈ bs, σ[i]? = some (some (.ref b)) := fun z => by rw [(bOwn b z).2.2] at hb; cases hb
      have ni : ¬ ∃ i ∈ is, σ[i]? = some (some (.ref b)) := fun z => by rw [(iOwn b z).2.2] at hb; cases hb
      have g1 : G1 b = none := by
        cases q : G1 b with
        | none => rfl
        | some u => rw [l1.fg b u q] at hb; cases hb
      rw [fcS b (by rw [gcN b nb]; exact g1) ni]
      exact l1.f b o hb
    -- back in the caller
    have back : ∀ {H' G' : Hp} {outs : List (List D)}, Same Gc G' → Same G' H' → Same Fc H' → (∀ b o, G' b = some o → Fc b = none) → OutsOk KZ G' H' vs as outs → outs.length = is.length → (bs = [] ∨ outs.all nolists = true) →
        (∀ b o, G' b = some o → takeB σ bs G' b = some o ∨ ∃ xs, G' b = some (.lst xs)) ∧ (bs = [] → takeB σ bs G' = G') ∧ Same G1 (takeB σ bs G') ∧ Rl KZ F (takeB σ bs G') H' S σ (putOuts is outs e1) := fun {H' G' outs} sg gh fh dj oo hl hn => by
      have tB : ∀ b, (∃ i ∈ bs, σ[i]? = some (some (.ref b))) → takeB σ bs G' b = none := fun b hb => if_pos hb
      have tN : ∀ b, ¬ (∃ i ∈ bs, σ[i]? = some (some (.ref b))) → takeB σ bs G' b = G' b := fun b hb => if_neg hb
      have less : ∀ b o, G' b = some o → takeB σ bs G' b = some o ∨ ∃ xs, G' b = some (.lst xs) := fun b o hb => by
        by_cases z : ∃ i ∈ bs, σ[i]? = some (some (.ref b))
        · obtain ⟨⟨us, hu⟩, _⟩ := bOwn b z
          exact .inr ⟨us, sg b _ (by rw [gcB b z]; exact hu)⟩
        · exact .inl (by rw [tN b z]; exact hb)
      have same0 : bs = [] → takeB σ bs G' = G' := fun hb => funext fun b => tN b fun ⟨i, hi, _⟩ => by rw [hb] at hi; cases hi
      have sG : Same G1 (takeB σ bs G') := fun b o hb => by
        have nb : ¬ ∃ i ∈ bs, σ[i]? = some (some (.ref b)) := fun z => by rw [(bOwn b z).2.1] at hb; cases hb
        rw [tN b nb]
        exact sg b o (sGc b o hb)
      have sT : ∀ b o, takeB σ bs G' b = some o → G' b = some o := fun b o hb => by
        by_cases z : ∃ i ∈ bs, σ[i]? = some (some (.ref b))
        · rw [tB b z] at hb; cases hb
        · rw [tN b z] at hb; exact hb
      refine ⟨less, same0, sG, ⟨fun b o hb => gh b o (sT b o hb), fun b o hb => fh b o (fF b o hb), fun b o hb => ?_, by rw [put_len]; exact l1.len, fun i d hi => ?_, fun i io ds hi => ?_, fun i j io jo ds es a h1 h2 h3 h4 => ?_⟩⟩
      · cases q : F b with
        | none => rfl
        | some u =>
          have z1 := fF b u q
          rw [dj b o (sT b o hb)] at z1
          cases z1
      · obtain ⟨v, h1, h2⟩ := l1.val i d (put_val hi)
        exact ⟨v, h1, Dp.same sG _ _ h2⟩
      · rcases put_own nd ma.ios hl.symm hi with ⟨m, d0, z1, z2, z3⟩ | ⟨z1, z2⟩
        · obtain ⟨a, us, y1, y2, y3, y4⟩ := ma.outs r1 oo m i ds z1 z2
          have hia : ∃ i ∈ is, σ[i]? = some (some (.ref a)) := ⟨i, List.mem_of_getElem? z1, y1⟩
          have nb : ¬ ∃ i ∈ bs, σ[i]? = some (some (.ref a)) := fun z => nboth a z hia
          refine ⟨a, us, y1, y2, by rw [tN a nb]; exact y3, (iOwn a hia).2.2, ?_, ?_⟩
          · rcases hn with hn | hn
            · rw [same0 hn]; exact y4
            · exact Dp.lessAll less _ _ (List.all_eq_true.mp hn ds (List.mem_of_getElem? z2)) y4
          · obtain ⟨a', us', w1, _, _, _, _, w6⟩ := l1.own i io d0 z3
            rw [y1] at w1
            cases w1
            exact w6
        · obtain ⟨a, us, w1, w2, w3, w4, w5, w6⟩ := l1.own i io ds z2
          have ni : ¬ ∃ j ∈ is, σ[j]? = some (some (.ref a)) := fun ⟨j, hj, hsj⟩ => by
            obtain ⟨q, d', y1⟩ := ma.ios j hj
            have := l1.inj i j _ _ _ _ a z2 y1 w1 hsj
            subst this
            exact z1 hj
          by_cases nb : ∃ j ∈ bs, σ[j]? = some (some (.ref a))
          · exact ⟨a, us, w1, gh a _ (sg a _ (by rw [gcB a nb]; exact w2)), tB a nb, w4, Dp.sameAll sG _ _ w5, w6⟩
          · have g0 : Gc a = none := by rw [gcN a nb]; exact w3
            have f0 : Fc a = some (.lst us) := by rw [fcS a g0 ni]; exact w2
            refine ⟨a, us, w1, fh a _ f0, ?_, w4, Dp.sameAll sG _ _ w5, w6⟩
            rw [tN a nb]
            cases q : G' a with
            | none => rfl
            | some u => rw [dj a u q] at f0; cases f0
      · have key : ∀ {i : Nat} {io : Bool} {ds : List D}, (putOuts is outs e1)[i]? = some (.own io ds) → ∃ io' ds', e1[i]? = some (.own io' ds') := fun {i io ds} hi => by
          rcases put_own nd ma.ios hl.symm hi with ⟨_, d0, _, _, z3⟩ | ⟨_, z2⟩
          · exact ⟨_, _, z3⟩
          · exact ⟨_, _, z2⟩
        obtain ⟨_, _, y1⟩ := key h1
        obtain ⟨_, _, y2⟩ := key h2
        exact l1.inj i j _ _ _ _ a y1 y2 h3 h4
    have hvl : vs.length = n := by
      have q2 : ∀ {fl : List Bool} {rs : List RV} {as : List Arg} {is bs : List Nat}, mkArgs fl rs e1 = some (as, is, bs) → fl.length = rs.length := by
        intro fl
        induction fl with
        | nil => intro rs as is bs h; cases rs with
          | nil => rfl
          | cons _ _ => cases h
        | cons q fl ih =>
          intro rs as is bs h
          cases rs with
          | nil => cases q <;> cases h
          | cons r rs =>
            have : ∃ p, mkArgs fl rs e1 = some p := by
              cases q3 : mkArgs fl rs e1 with
              | some p => exact ⟨p, rfl⟩
              | none =>
                exfalso
                cases q with
                | false =>
                  have h : (match rd r e1, mkArgs fl rs e1 with
                    | some d, some (as, is, bs) => some (Arg.d d :: as, is, lent r e1 bs)
                    | _, _ => none) = some (as, is, bs) := h
                  rw [q3] at h
                  cases q4 : rd r e1 <;> rw [q4] at h <;> cases h
                | true =>
                  cases r with
                  | b i =>
                    have h : (match e1[i]?, mkArgs fl rs e1 with
                      | some (.own _ ds), some (as, is, bs) => some (Arg.io ds :: as, i :: is, bs)
                      | _, _ => none) = some (as, is, bs) := h
                    rw [q3] at h
                    cases q4 : e1[i]? with
                    | none => rw [q4] at h; cases h
                    | some w => cases w <;> rw [q4] at h <;> cases h
                  | _ => cases h
            obtain ⟨⟨_, _, _⟩, hp'⟩ := this
            rw [List.length_cons, List.length_cons, ih hp']
      have q3 : ∀ {vs : List V} {rs : List RV}, RvsOk KZ F G1 H1 σ e1 vs rs → vs.length = rs.length := by
        intro vs
        induction vs with
        | nil => intro rs h; cases rs with
          | nil => rfl
          | cons _ _ => exact h.elim
        | cons v vs ih => intro rs h; cases rs with
          | nil => exact h.elim
          | cons r rs => rw [List.length_cons, List.length_cons, ih h.2]
      rw [q3 r1, ← q2 q1, hn]
    refine ⟨fun cls d H' => W cls d σ H', ⟨hvl, Fc, Gc, as, gcH, fcH, dis, ?_, ?_, ?_⟩, fun _ _ _ z => z⟩
    · exact ma.args l1 sGc (fun i a hi hsi => gcB a ⟨i, hi, hsi⟩) (fun i a hi hsi => ⟨gcI a ⟨i, hi, hsi⟩, fcN a (.inr ⟨i, hi, hsi⟩)⟩) r1
    · intro i j a ds es h1 h2 h3 h4
      obtain ⟨n1, m1, o1, p1⟩ := ma.ioAt r1 i ds a h1 h3
      obtain ⟨n2, m2, o2, p2⟩ := ma.ioAt r1 j es a h2 h4
      obtain ⟨q, d', y1⟩ := ma.ios n1 m1
      obtain ⟨q', d'', y2⟩ := ma.ios n2 m2
      have := l1.inj n1 n2 _ _ _ _ a y1 y2 o1 o2
      subst this
      exact ma.once nd i j n1 ds es h1 h2 p1 p2
    · cases q2 : cf f as with
      | bad => rw [q2] at hp; exact hp.elim
      | ok r outs =>
        rw [q2] at hp
        dsimp only at hp
        split at hp
        case isFalse => exact hp.elim
        rename_i hc
        simp only [Bool.and_eq_true, Bool.or_eq_true, List.isEmpty_iff, beq_iff_eq] at hc
        obtain ⟨hc1, hc2⟩ := hc
        intro v H' G' sg gh fh dj ro oo
        obtain ⟨less, same0, sG, l2⟩ := back sg gh fh dj oo hc2 (hc1.elim .inl fun z => .inr z.2)
        refine hp v H' _ sG l2 ?_
        cases r with
        | v d =>
          rcases hc1 with z | z
          · rw [same0 z]; exact ro
          · exact Dp.less less _ _ z.1 ro
        | b i => exact ro.elim
        | o ds =>
          obtain ⟨a, us, rfl, y1, y2, y3, y4, y5⟩ := ro
          have ni := ma.notIo r1 y4
          have nb : ¬ ∃ j ∈ bs, σ[j]? = some (some (.ref a)) := fun z => by
            obtain ⟨⟨us', hu⟩, _⟩ := bOwn a z
            have := sg a _ (show Gc a = some (.lst us') by rw [gcB a z]; exact hu)
            rw [y2] at this
            cases this
          refine ⟨a, us, rfl, y1, ?_, ?_, fun i io ds' hi hsi => ?_, ?_⟩
          · show (if _ then _ else _) = _
            rw [if_neg nb]
            exact y2
          · cases q : F a with
            | none => rfl
            | some u => rw [fF a u q] at y3; cases y3
          · rcases put_own nd ma.ios hc2.symm hi with ⟨m, d0, z1, _, _⟩ | ⟨z1, z2⟩
            · exact ni i (List.mem_of_getElem? z1) hsi
            · obtain ⟨a', us', w1, w2, w3, _⟩ := l1.own i io ds' z2
              rw [hsi] at w1
              cases w1
              have ni2 : ¬ ∃ j ∈ is, σ[j]? = some (some (.ref a)) := fun ⟨j, hj, hsj⟩ => ni j hj hsj
              have := fcS a (by rw [gcN a nb]; exact w3) ni2
              rw [y3, w2] at this
              cases this
          · rcases hc1 with z | z
            · rw [same0 z]; exact y5
            · exact Dp.lessAll less _ _ z.1 y5
      | rz x outs =>
        rw [q2] at hp
        dsimp only at hp
        split at hp
        case isFalse => exact hp.elim
        rename_i hc
        simp only [Bool.and_eq_true, Bool.or_eq_true, List.isEmpty_iff, beq_iff_eq] at hc
        obtain ⟨hc1, hc2⟩ := hc
        intro cls dd H' G' sg gh fh dj ro oo
        obtain ⟨less, same0, sG, l2⟩ := back sg gh fh dj oo hc2 (hc1.elim .inl fun z => .inr z.2)
        refine hp cls dd σ H' _ sG l2 ?_
        obtain ⟨C, y1, y2, fs, y3, y4⟩ := ro
        refine ⟨C, y1, y2, fs, y3, ?_⟩
        rcases hc1 with z | z
        · rw [same0 z]; exact y4
        · exact Dp.lessAll less _ _ z.1 y4
end
end L2.Mp
set_option Elab.async false
set_option linter.all false
set_option maxRecDepth 100000
set_option maxHeartbeats 4000000
namespace L2.Mp
open PySem PySem.Spec PyProof.Rows L2
section
variable {c : Ct} {cf : CF} {k : Nat} {a b d lo hi : T} {x y z : Expr} {pos pos' : Pos}
/-! ### calls of builtins, by values -/
def oC (X : Cx) (f : Value) : List V → Hp → VK → Prop := fun vs H Q => ∀ pins s σ us, Inv X pins σ H s → Vals vs us → wpAny (model X.prog X.w) X.A (call f us) (EP X pins σ Q) X.xe s
theorem oC_ok {X : Cx} {f : Value} : CallR X f (oC X f) := fun pins s σ H xs us Q I r h => h pins s σ us I r
theorem oC_of {X : Cx} {f : Value} {r : List V → Hp → VK → Prop} (h : CallR X f r) {xs : List V} {H : Hp} {Q : VK} (q : r xs H Q) : oC X f xs H Q := fun pins s σ us I rv => h pins s σ H xs us Q I rv q
/-- a builtin keeps its promise on the data -/
def PrimOk (p : Prim) (f : Value) : Prop := ∀ (X : Cx) (k : Nat), X.calm = true → Room k X.A → ∀ {F G H : Hp} {S σ : St} {e : Fm} {vs : List V} {ds : List D} {r : RV} {Q : VK}, Rl KZ F G H S σ e → DqAll KZ G H vs ds → primD p ds = some r →
  (∀ w H' G', Same G G' → Rl KZ F G' H' S σ e → RvOk KZ F G' H' σ e w r → Q w H') → oC X f vs H Q
theorem good_prim0 {p : Prim} {nm : Str} {f : Value} {ys : List Expr} (hp : PrimOk p f) (ha : GoodL c cf k a (y :: ys)) (rd : ∀ X, XOk c cf k X → ∀ t, PA X (y :: ys) t → PE X (.Call (.Name nm pos') (y :: ys) [] pos) (tCB (oC X f) t)) : GoodE c cf k (.prim p a) (.Call (.Name nm pos') (y :: ys) [] pos) := by
  intro X ok F G H S σ e Q W tk l hq
  refine ofE (rd X ok _ pa_w) ?_
  refine rvsL ha ok tk l hq fun rs e1 vs H1 G1 s1 l1 r1 hp1 => ?_
  cases q : rds rs e1 with
  | none => rw [q] at hp1; exact hp1.elim
  | some ds =>
    rw [q] at hp1
    dsimp only [optR] at hp1
    cases q2 : primD p ds with
    | none => rw [q2] at hp1; exact hp1.elim
    | some r =>
      rw [q2] at hp1
      exact hp X k ok.calm ok.room l1 (RvsOk.rds l1 r1 q) q2 fun w H' G' s' l' r' => hp1 w H' G' s' l' r'
theorem good_primB {p : Prim} {nm : Str} {id : String} {ys : List Expr} (hp : PrimOk p (.builtin id)) (hv : bootBuiltins nm = some (.builtin id)) (ha : GoodL c cf k a (y :: ys)) (hf : nm ∈ c.fr) (hg : gloB c.sc nm = true) (hn : nm ≠ "__name__") (hd : (nm == ("__debug__" : Str)) = false) (hs : ∀ z ∈ y :: ys, isStar z = false) :
    GoodE c cf k (.prim p a) (.Call (.Name nm pos') (y :: ys) [] pos) :=
  good_prim0 hp ha fun X ok t ht => pe_callB oC_ok (ok.glo hg) (ok.gb.fr nm hf) hv ht hn hd (star_cons (hs y (List.mem_cons_self))) (nostar_back fun z hz => hs z (List.mem_cons_of_mem _ hz))
theorem good_primT {p : Prim} {nm : Str} {T : String} {ys : List Expr} (hp : PrimOk p (.type T)) (hv : bootBuiltins nm = some (.type T)) (ha : GoodL c cf k a (y :: ys)) (hf : nm ∈ c.fr) (hg : gloB c.sc nm = true) (hn : nm ≠ "__name__") (hd : (nm == ("__debug__" : Str)) = false) (hs : ∀ z ∈ y :: ys, isStar z = false) :
    GoodE c cf k (.prim p a) (.Call (.Name nm pos') (y :: ys) [] pos) :=
  good_prim0 hp ha fun X ok t ht => pe_callTy oC_ok (ok.glo hg) (ok.gb.fr nm hf) hv ht hn hd (star_cons (hs y (List.mem_cons_self))) (nostar_back fun z hz => hs z (List.mem_cons_of_mem _ hz))

/-! ### the data of the arguments -/
theorem dq1 {K : PySem.W.Frag} {G H : Hp} {vs : List V} {d : D} (h : DqAll K G H vs [d]) : ∃ v, vs = [v] ∧ Dq K G H v d := by
  cases vs with
  | nil => exact h.elim
  | cons v r =>
    cases r with
    | nil => exact ⟨v, rfl, h.1⟩
    | cons _ _ => exact h.2.elim
theorem dq2 {K : PySem.W.Frag} {G H : Hp} {vs : List V} {d d' : D} (h : DqAll K G H vs [d, d']) : ∃ v v', vs = [v, v'] ∧ Dq K G H v d ∧ Dq K G H v' d' := by
  cases vs with
  | nil => exact h.elim
  | cons v r =>
    obtain ⟨v', rfl, h'⟩ := dq1 h.2
    exact ⟨v, v', rfl, h.1, h'⟩
theorem ints_of {K : PySem.W.Frag} {G : Hp} : ∀ {vs : List V} {ds : List D} {ns : List Int}, DpAll K G vs ds → intsOf ds = some ns → vs = ns.map V.int ∧ ds = ns.map .int
  | _, _, ns, .nil, h => by cases h; exact ⟨rfl, rfl⟩
  | _, d :: _, ns, .cons h1 h2, h => by
    cases d with
    | int i =>
      cases h1
      simp only [intsOf, Option.map_eq_some_iff] at h
      obtain ⟨ms, h3, rfl⟩ := h
      obtain ⟨e1, e2⟩ := ints_of h2 h3
      rw [e1, e2]
      exact ⟨rfl, rfl⟩
    | _ => cases h
theorem bools_of {K : PySem.W.Frag} {G : Hp} : ∀ {vs : List V} {ds : List D} {ns : List Bool}, DpAll K G vs ds → boolsOf ds = some ns → vs = ns.map V.bl
  | _, _, ns, .nil, h => by cases h; rfl
  | _, d :: _, ns, .cons h1 h2, h => by
    cases d with
    | bool i =>
      cases h1
      simp only [boolsOf, Option.map_eq_some_iff] at h
      obtain ⟨ms, h3, rfl⟩ := h
      rw [bools_of h2 h3]
      rfl
    | _ => cases h
theorem pr_len : PrimOk .len (.builtin "len") := by
  intro X k hc hr F G H S σ e vs ds r Q l dv hb q
  unfold primD at hb
  split at hb
  case h_1 =>
    cases hb
    obtain ⟨v, rfl, h⟩ := dq1 dv
    obtain ⟨p, us, rfl, h1, h2⟩ := h.lst l.g
    refine oC_of call_len_seq ⟨p, us, rfl, .inl (.inl h1), ?_⟩
    rw [DpAll.length h2]
    exact fin_v l (.int _) q
  case h_2 =>
    cases hb
    obtain ⟨v, rfl, h⟩ := dq1 dv
    obtain ⟨p, us, rfl, h1, h2⟩ := h.tup
    refine oC_of call_len_seq ⟨p, us, rfl, .inr (.inl (Rd.same l.g h1)), ?_⟩
    rw [DpAll.length h2]
    exact fin_v l (.int _) q
  case h_3 =>
    split at hb
    · rename_i hm
      cases hb
      obtain ⟨v, rfl, h⟩ := dq1 dv
      obtain rfl := h.str
      exact oC_of call_len_str ⟨_, rfl, by rw [← line_eq]; exact hm, fin_v l (.int _) q⟩
    · cases hb
  all_goals first | (exfalso; contradiction) | cases hb
theorem pr_abs : PrimOk .abs (.builtin "abs") := by
  intro X k hc hr F G H S σ e vs ds r Q l dv hb q
  unfold primD at hb
  split at hb
  case h_4 =>
    cases hb
    obtain ⟨v, rfl, h⟩ := dq1 dv
    obtain rfl := h.int
    exact oC_of call_abs ⟨_, rfl, fin_v l (.int _) q⟩
  all_goals first | (exfalso; contradiction) | cases hb
theorem pr_int : PrimOk .int (.type "int") := by
  intro X k hc hr F G H S σ e vs ds r Q l dv hb q
  unfold primD at hb
  split at hb
  case h_5 =>
    cases hb
    obtain ⟨v, rfl, h⟩ := dq1 dv
    obtain rfl := h.int
    exact oC_of call_int1 (.inl ⟨_, rfl, fin_v l (.int _) q⟩)
  case h_6 =>
    cases hb
    obtain ⟨v, rfl, h⟩ := dq1 dv
    obtain rfl := h.bl
    exact oC_of call_int1 (.inr ⟨_, rfl, fin_v l (.int _) q⟩)
  all_goals first | (exfalso; contradiction) | cases hb
theorem pr_tuple : PrimOk .tuple (.type "tuple") := by
  intro X k hc hr F G H S σ e vs ds r Q l dv hb q
  unfold primD at hb
  split at hb
  case h_7 =>
    cases hb
    obtain ⟨v, rfl, h⟩ := dq1 dv
    obtain ⟨p, us, rfl, h1, h2⟩ := h.lst l.g
    exact oC_of call_tuple_of ⟨p, us, rfl, .inl ⟨.inl h1, fun p' hp => fin_t l hp h2 q⟩⟩
  case h_8 =>
    cases hb
    obtain ⟨v, rfl, h⟩ := dq1 dv
    obtain ⟨p, us, rfl, h1, h2⟩ := h.tup
    exact oC_of call_tuple_of ⟨p, us, rfl, .inr ⟨.inl (Rd.same l.g h1), fin_v l (.tup (.inl h1) h2) q⟩⟩
  all_goals first | (exfalso; contradiction) | cases hb
theorem pr_list : PrimOk .list (.type "list") := by
  intro X k hc hr F G H S σ e vs ds r Q l dv hb q
  unfold primD at hb
  split at hb
  case h_9 =>
    cases hb
    obtain ⟨v, rfl, h⟩ := dq1 dv
    obtain ⟨p, us, rfl, h1, h2⟩ := h.lst l.g
    exact oC_of call_list_of ⟨p, us, rfl, .inl (.inl h1), fun p' hp => fin_l l hp h2 q⟩
  case h_10 =>
    cases hb
    obtain ⟨v, rfl, h⟩ := dq1 dv
    obtain ⟨p, us, rfl, h1, h2⟩ := h.tup
    exact oC_of call_list_of ⟨p, us, rfl, .inr (.inl (Rd.same l.g h1)), fun p' hp => fin_l l hp h2 q⟩
  all_goals first | (exfalso; contradiction) | cases hb
end
end L2.Mp
set_option Elab.async false
set_option linter.all false
set_option maxRecDepth 100000
set_option maxHeartbeats 4000000
namespace L2.Mp
open PySem PySem.Spec PyProof.Rows L2
section
variable {c : Ct} {cf : CF} {k : Nat} {a b d lo hi : T} {x y z : Expr} {pos pos' : Pos}
/-! ### sum, all, any, max, min -/
theorem items_of {G H : Hp} {v : V} {x : D} {xs : List D} (h : Dq KZ G H v x) (s : Same G H) (e : itemsOf x = some xs) : (∃ p us, v = .ref p ∧ x = .list xs ∧ Rd H p (.lst us) ∧ DpAll KZ G us xs) ∨ (∃ p us, v = .ref p ∧ x = .tuple xs ∧ Rd G p (.tup us) ∧ DpAll KZ G us xs) := by
  cases x with
  | list ds =>
    cases e
    obtain ⟨p, us, rfl, h1, h2⟩ := h.lst s
    exact .inl ⟨p, us, rfl, rfl, h1, h2⟩
  | tuple ds =>
    cases e
    obtain ⟨p, us, rfl, h1, h2⟩ := h.tup
    exact .inr ⟨p, us, rfl, rfl, h1, h2⟩
  | _ => cases e
theorem rd_tup {P : Program} {w : World} {H : Hp} {h : Heap} {a : Addr} {xs : List V} {X : Cx} {pins : List (Addr × Obj)} {σ : St} {s : Shared} (I : Inv X pins σ H s) (r : Rd H a (.tup xs)) : ∃ its : List Value, Vals xs its ∧ s.heap.IsTuple a its.toArray := by
  obtain ⟨its, r', pl, _⟩ := I.tuple (.inl r)
  exact ⟨its, r', pl⟩
theorem sum_tup {X : Cx} (hc : X.calm = true) : CallR X (.builtin "sum") (fun vs H Q => ∃ (p : Addr) (ns : List Int), vs = [V.ref p] ∧ Rd H p (.tup (ns.map V.int)) ∧ Q (.int ns.sum) H) := by
  intro pins s σ H vs us Q I r h
  obtain ⟨p, ns, rfl, hs, q⟩ := h
  obtain ⟨its, rv, pl, _⟩ := I.tuple (.inl hs)
  rw [Vals.ref1 r]
  have hi : IntsAre its ns := rv.ints
  obtain ⟨xs, hx⟩ := hi.allInts.items
  have hn : numsOf its.toArray.toList = ns := by rw [show its.toArray.toList = its from rfl, hi.numsOf]
  rw [hx] at pl hn
  rw [nums_intItems] at hn
  refine PySem.W.ktm_sumG (I.ok.hd hc) pl fun h' tk t' hk => ?_
  rw [preSum_eq, List.take_of_length_le (by simp), hn]
  exact ⟨.int _, H, I.kept hk, ⟨_, rfl⟩, q⟩
theorem pr_sum : PrimOk .sum (.builtin "sum") := by
  intro X k hc hr F G H S σ e vs ds r Q l dv hb q
  unfold primD at hb
  split at hb
  case h_11 =>
    rename_i z
    obtain ⟨xs, h1, h2⟩ := Option.bind_eq_some_iff.mp hb
    obtain ⟨ns, h3, rfl⟩ := Option.map_eq_some_iff.mp h2
    obtain ⟨v, rfl, h⟩ := dq1 dv
    rcases items_of h l.g h1 with ⟨p, us, rfl, rfl, h4, h5⟩ | ⟨p, us, rfl, rfl, h4, h5⟩
    · obtain ⟨rfl, rfl⟩ := ints_of h5 h3
      exact oC_of (cr_sum hc) ⟨p, ns, rfl, .inl h4, fin_v l (.int _) q⟩
    · obtain ⟨rfl, rfl⟩ := ints_of h5 h3
      exact oC_of (sum_tup hc) ⟨p, ns, rfl, Rd.same l.g h4, fin_v l (.int _) q⟩
  all_goals first | (exfalso; contradiction) | cases hb
theorem pr_all : PrimOk .all (.builtin "all") := by
  intro X k hc hr F G H S σ e vs ds r Q l dv hb q
  unfold primD at hb
  split at hb
  case h_12 =>
    obtain ⟨bs, h3, rfl⟩ := Option.map_eq_some_iff.mp hb
    obtain ⟨v, rfl, h⟩ := dq1 dv
    obtain ⟨p, us, rfl, h1, h2⟩ := h.lst l.g
    obtain rfl := bools_of h2 h3
    exact oC_of (cr_all hc) ⟨p, bs, rfl, .inl h1, fin_v l (.bl _) q⟩
  all_goals first | (exfalso; contradiction) | cases hb
theorem pr_any : PrimOk .any (.builtin "any") := by
  intro X k hc hr F G H S σ e vs ds r Q l dv hb q
  unfold primD at hb
  split at hb
  case h_13 =>
    obtain ⟨bs, h3, rfl⟩ := Option.map_eq_some_iff.mp hb
    obtain ⟨v, rfl, h⟩ := dq1 dv
    obtain ⟨p, us, rfl, h1, h2⟩ := h.lst l.g
    obtain rfl := bools_of h2 h3
    exact oC_of (cr_any hc) ⟨p, bs, rfl, .inl h1, fin_v l (.bl _) q⟩
  all_goals first | (exfalso; contradiction) | cases hb
theorem alike_ints (ns : List Int) : PySem.W.AlikeAll (ns.map .int) := by
  refine ⟨fun x hx y hy => ?_, fun x hx => ?_⟩
  · obtain ⟨i, _, rfl⟩ := List.mem_map.mp hx
    obtain ⟨j, _, rfl⟩ := List.mem_map.mp hy
    rfl
  · obtain ⟨i, _, rfl⟩ := List.mem_map.mp hx
    intro z
    cases z
theorem depth_ints : ∀ ns : List Int, PyData.depthAll (ns.map .int) ≤ 1
  | [] => Nat.zero_le _
  | n :: ns => by
    have := depth_ints ns
    show max (PyData.int n).depth (PyData.depthAll (ns.map .int)) ≤ 1
    have e : (PyData.int n).depth ≤ 1 := by simp [PyData.depth]
    omega
theorem ext_int {X : Cx} {mx : Bool} {n : Int} {ns : List Int} (hc : X.calm = true) {k : Nat} (hr : Room k X.A) : CallR X (.builtin (if mx = true then "max" else "min")) (fun vs H Q => ∃ (p : Addr), vs = [V.ref p] ∧ (Rd H p (.lst ((n :: ns).map V.int)) ∨ Rd H p (.tup ((n :: ns).map V.int))) ∧ Q (.int (if mx = true then ns.foldl max n else ns.foldl min n)) H) := by
  intro pins s σ H vs us Q I r h
  obtain ⟨p, rfl, hs, q⟩ := h
  rw [Vals.ref1 r]
  have hu : X.A.units + 1 + PyData.depthAll ((.int n : D) :: ns.map .int) < cLine := by
    have h1 := depth_ints (n :: ns)
    have h2 := hr.un
    rw [List.map_cons] at h1
    omega
  have ha : PySem.W.AlikeAll ((.int n : D) :: ns.map .int) := alike_ints (n :: ns)
  have rds : ∀ its : List Value, Vals ((n :: ns).map V.int) its → ∃ as, ReadsAll s.heap its.toArray.toList ((.int n : D) :: ns.map .int) as := by
    intro its rv
    have : DpAll X.K H ((n :: ns).map V.int) ((n :: ns).map .int) := by
      generalize n :: ns = ms
      induction ms with
      | nil => exact .nil
      | cons m r ih => exact .cons (.int m) ih
    exact Dp.readsAll I _ _ its this rv
  have fin : ∀ (its : List Value) (i : Nat) (v : Value) (h' : Heap) (tk : Nat) (bs : List Addr) (m : Int), Vals ((n :: ns).map V.int) its → its.toArray[i]? = some v → Reads h' v (.int m) bs → (∀ b o, s.heap.get? b = some o → h'.get? b = some o) → Q (.int m) H → EP X pins σ Q v { s with heap := h', toks := tk } := by
    intro its i v h' tk bs m rv hv rd hk q
    have hv' : its[i]? = some v := by simpa using hv
    cases rd with
    | int _ t => exact ⟨.int m, H, I.kept hk, ⟨t, rfl⟩, q⟩
  rcases hs with hs | hs
  · obtain ⟨its, rv, pl, _⟩ := I.list (.inl hs)
    obtain ⟨as, ra⟩ := rds its rv
    cases mx with
    | true => exact PySem.W.max_list_data (I.ok.hd hc) pl.isList ra ha hu fun i v h' tk bs hv rd hk => fin its i v h' tk bs _ rv hv (by have e := PySem.W.maxD_ints n ns; rw [e] at rd; exact rd) hk q
    | false => exact PySem.W.min_list_data (I.ok.hd hc) pl.isList ra ha hu fun i v h' tk bs hv rd hk => fin its i v h' tk bs _ rv hv (by have e := PySem.W.minD_ints n ns; rw [e] at rd; exact rd) hk q
  · obtain ⟨its, rv, pl, _⟩ := I.tuple (.inl hs)
    obtain ⟨as, ra⟩ := rds its rv
    cases mx with
    | true => exact PySem.W.max_tuple_data (I.ok.hd hc) pl ra ha hu fun i v h' tk bs hv rd hk => fin its i v h' tk bs _ rv hv (by have e := PySem.W.maxD_ints n ns; rw [e] at rd; exact rd) hk q
    | false => exact PySem.W.min_tuple_data (I.ok.hd hc) pl ra ha hu fun i v h' tk bs hv rd hk => fin its i v h' tk bs _ rv hv (by have e := PySem.W.minD_ints n ns; rw [e] at rd; exact rd) hk q
theorem pr_max1 : PrimOk .max1 (.builtin "max") := by
  intro X k hc hr F G H S σ e vs ds r Q l dv hb q
  unfold primD at hb
  split at hb
  case h_14 =>
    obtain ⟨xs, h1, h2⟩ := Option.bind_eq_some_iff.mp hb
    obtain ⟨ns, h3, h6⟩ := Option.bind_eq_some_iff.mp h2
    split at h6
    · cases h6
    · rename_i hne
      cases h6
      obtain ⟨v, rfl, h⟩ := dq1 dv
      cases ns with
      | nil => exact absurd rfl hne
      | cons n ns =>
        rcases items_of h l.g h1 with ⟨p, us, rfl, rfl, h4, h5⟩ | ⟨p, us, rfl, rfl, h4, h5⟩
        · obtain ⟨rfl, rfl⟩ := ints_of h5 h3
          exact oC_of (ext_int (mx := true) hc hr) ⟨p, rfl, .inl h4, fin_v l (.int _) q⟩
        · obtain ⟨rfl, rfl⟩ := ints_of h5 h3
          exact oC_of (ext_int (mx := true) hc hr) ⟨p, rfl, .inr (Rd.same l.g h4), fin_v l (.int _) q⟩
  all_goals first | (exfalso; contradiction) | cases hb
theorem pr_min1 : PrimOk .min1 (.builtin "min") := by
  intro X k hc hr F G H S σ e vs ds r Q l dv hb q
  unfold primD at hb
  split at hb
  case h_15 =>
    obtain ⟨xs, h1, h2⟩ := Option.bind_eq_some_iff.mp hb
    obtain ⟨ns, h3, h6⟩ := Option.bind_eq_some_iff.mp h2
    split at h6
    · cases h6
    · rename_i hne
      cases h6
      obtain ⟨v, rfl, h⟩ := dq1 dv
      cases ns with
      | nil => exact absurd rfl hne
      | cons n ns =>
        rcases items_of h l.g h1 with ⟨p, us, rfl, rfl, h4, h5⟩ | ⟨p, us, rfl, rfl, h4, h5⟩
        · obtain ⟨rfl, rfl⟩ := ints_of h5 h3
          exact oC_of (ext_int (mx := false) hc hr) ⟨p, rfl, .inl h4, fin_v l (.int _) q⟩
        · obtain ⟨rfl, rfl⟩ := ints_of h5 h3
          exact oC_of (ext_int (mx := false) hc hr) ⟨p, rfl, .inr (Rd.same l.g h4), fin_v l (.int _) q⟩
  all_goals first | (exfalso; contradiction) | cases hb
theorem pr_max2 : PrimOk .max2 (.builtin "max") := by
  intro X k hc hr F G H S σ e vs ds r Q l dv hb q
  unfold primD at hb
  split at hb
  case h_16 =>
    cases hb
    obtain ⟨v, v', rfl, h, h'⟩ := dq2 dv
    obtain rfl := h.int
    obtain rfl := h'.int
    exact oC_of (call_max2 hc) ⟨_, _, rfl, fin_v l (.int _) q⟩
  all_goals first | (exfalso; contradiction) | cases hb
theorem pr_min2 : PrimOk .min2 (.builtin "min") := by
  intro X k hc hr F G H S σ e vs ds r Q l dv hb q
  unfold primD at hb
  split at hb
  case h_17 =>
    cases hb
    obtain ⟨v, v', rfl, h, h'⟩ := dq2 dv
    obtain rfl := h.int
    obtain rfl := h'.int
    exact oC_of (call_min2 hc) ⟨_, _, rfl, fin_v l (.int _) q⟩
  all_goals first | (exfalso; contradiction) | cases hb

/-! ### isinstance -/
def Ty.s : Ty → String
  | .non => "NoneType"
  | .bool => "bool"
  | .int => "int"
  | .str => "str"
  | .list => "list"
  | .tuple => "tuple"
  | .dict => "dict"
def Ty.all : List Ty := [.non, .bool, .int, .str, .list, .tuple, .dict]
def Ty.named : List Ty := [.bool, .int, .str, .list, .tuple, .dict]
theorem kit_all : ∀ t ∈ Ty.all, ∀ u ∈ Ty.named, kitB t.s u.s = some (Ty.sub t u) := by decide +kernel
theorem boot_all : ∀ u ∈ Ty.named, bootBuiltins (Str.ofString u.s) = some (.type u.s) := by decide +kernel
theorem ty_all (t : Ty) : t ∈ Ty.all := by cases t <;> decide
theorem kit_any {K : PySem.W.Frag} {t : Ty} : ∀ us : List Ty, (∀ u ∈ us, u ∈ Ty.named) → PySem.W.kitAny K (.type t.s) (us.map fun u => .type u.s) = some (us.any (Ty.sub t))
  | [], _ => kitAny_nil
  | u :: us, h => by
    refine kitAny_cons (kit_ty (kit_all t (ty_all t) u (h u (List.mem_cons_self)))) (fun z => ?_) fun z => ?_
    · rw [kit_any us fun u hu => h u (List.mem_cons_of_mem _ hu), List.any_cons, z]
      rfl
    · rw [List.any_cons, z]
      rfl
theorem tyx_of {K : PySem.W.Frag} {H : Hp} {v : V} {d : D} (h : Dp KZ H v d) : TyX K H v (.type (tyN d).s) := by
  cases h with
  | non => exact .base .non
  | bl b => exact .base (.bl b)
  | int i => exact .base (.int i)
  | str x => exact .base (.str x)
  | lst hs _ =>
    rcases rd_of hs with q | ⟨o, q⟩
    · exact .base (.lst q)
    · exact .base (.frz q)
  | tup hs _ =>
    rcases rt_of hs with q | ⟨o, q⟩
    · exact .base (.tup q)
    · exact .fTuple q
def isName (c : Ct) (t : Ty) : Expr → Bool
  | .Name n _ => decide (n = Str.ofString t.s) && decide (t ∈ Ty.named) && c.fr.contains n && gloB c.sc n && decide (n ≠ "__name__") && !(n == ("__debug__" : Str))
  | _ => false
def areNames (c : Ct) : List Ty → List Expr → Bool
  | [], [] => true
  | t :: ts, e :: es => isName c t e && areNames c ts es
  | _, _ => false
theorem pe_tyn {X : Cx} {t : Ty} (ok : XOk c cf k X) (h : isName c t x = true) : PE X x (tC (.ty t.s)) ∧ t ∈ Ty.named := by
  cases x with
  | Name n p =>
    simp only [isName, Bool.and_eq_true, decide_eq_true_eq, List.contains_iff_mem, Bool.not_eq_true'] at h
    obtain ⟨⟨⟨⟨⟨h1, h2⟩, h3⟩, h4⟩, h5⟩, h6⟩ := h
    exact ⟨pe_bltn (ok.glo h4) (ok.gb.fr n h3) (by rw [h1]; exact boot_all t h2) (show RelV (.ty t.s) (.type t.s) from rfl) h5 h6, h2⟩
  | _ => cases h
theorem star_name {t : Ty} (h : isName c t x = true) : isStar x = false := by
  cases x <;> first | rfl | cases h
theorem pa_tyn {X : Cx} (ok : XOk c cf k X) : ∀ {ts : List Ty} {es : List Expr}, areNames c ts es = true → PA X es (fun σ H Q => Q (ts.map fun t => .ty t.s) H) ∧ ∀ t ∈ ts, t ∈ Ty.named
  | [], [], _ => ⟨pa_nil, fun t h => nomatch h⟩
  | t :: ts, e :: es, h => by
    simp only [areNames, Bool.and_eq_true] at h
    obtain ⟨h1, h2⟩ := pe_tyn ok h.1
    obtain ⟨h3, h4⟩ := pa_tyn ok h.2
    refine ⟨pa_cons h1 h3 (star_cons (star_name h.1)), fun u hu => ?_⟩
    rcases List.mem_cons.mp hu with rfl | hu
    · exact h2
    · exact h4 u hu
theorem cls_names : ∀ ts : List Ty, Paired ClsV (ts.map fun t => V.ty t.s) (ts.map fun t => Value.type t.s)
  | [] => .nil
  | t :: ts => .cons (.ty _) (cls_names ts)
theorem boot_isi : bootBuiltins ("isinstance" : Str) = some (.builtin "isinstance") := by decide +kernel
theorem good_isi {t : Ty} (ha : GoodE c cf k a x) (hs : isStar x = false) (hy : isName c t y = true) (hf : ("isinstance" : Str) ∈ c.fr) (hg : gloB c.sc "isinstance" = true) : GoodE c cf k (.isi a [t]) (.Call (.Name "isinstance" pos') [x, y] [] pos) := by
  intro X ok F G H S σ e Q W tk l hq
  obtain ⟨h1, h2⟩ := pe_tyn ok hy
  refine ofE (pe_callB (id := "isinstance") oC_ok (ok.glo hg) (ok.gb.fr _ hf) boot_isi (pa_cons pe_w (pa_cons h1 pa_nil (star_cons (star_name hy))) (star_cons hs)) (by decide) (by decide) (star_cons hs) (nostar_back fun z hz => by rw [List.mem_singleton.mp hz]; exact star_name hy)) ?_
  refine rvE ha ok tk l hq fun ra e1 v H1 G1 s1 l1 r1 hp => ?_
  obtain ⟨G2, s2, l2, r2⟩ := r1.nrm l1
  cases q1 : rd ra e1 with
  | none => rw [q1] at hp; exact hp.elim
  | some w =>
    rw [q1] at hp
    dsimp only at hp
    have dv := (r2.rd l2 q1).dp l2.g
    refine oC_of call_isi ⟨v, _, _, _, _, rfl, .ty _, tyx_of dv, kit_ty (kit_all _ (ty_all _) t h2), ?_⟩
    have e3 : isD w [t] = Ty.sub (tyN w) t := by simp [isD]
    rw [← e3]
    exact hp _ H1 G1 (Same.refl G1) l1 (.bl _)
theorem good_isiT {ts : List Ty} {ys : List Expr} {j : Nat} {pos2 : Pos} (ha : GoodE c cf k a x) (hs : isStar x = false) (hy : areNames c ts ys = true) (hl : ts.length ≤ 100) (hf : ("isinstance" : Str) ∈ c.fr) (hg : gloB c.sc "isinstance" = true) : GoodE c cf k (.isi a ts) (.Call (.Name "isinstance" pos') [x, .Tuple ys j pos2] [] pos) := by
  intro X ok F G H S σ e Q W tk l hq
  obtain ⟨h1, h2⟩ := pa_tyn ok hy
  refine ofE (pe_callB (id := "isinstance") oC_ok (ok.glo hg) (ok.gb.fr _ hf) boot_isi (pa_cons pe_w (pa_cons (pe_tup h1) pa_nil rfl) (star_cons hs)) (by decide) (by decide) (star_cons hs) rfl) ?_
  refine rvE ha ok tk l hq fun ra e1 v H1 G1 s1 l1 r1 hp => ?_
  obtain ⟨G2, s2, l2, r2⟩ := r1.nrm l1
  cases q1 : rd ra e1 with
  | none => rw [q1] at hp; exact hp.elim
  | some w =>
    rw [q1] at hp
    dsimp only at hp
    refine ⟨by rw [List.length_map, sizeLine_eq]; omega, fun p np => ?_⟩
    have dv := Dp.same (smUpdN (o := .tup (ts.map fun t => .ty t.s)) np) _ _ ((r2.rd l2 q1).dp l2.g)
    refine oC_of call_isiT ⟨v, p, _, _, _, _, rfl, upd_same, cls_names ts, tyx_of dv, kit_any ts h2, ?_⟩
    exact hp _ _ G1 (Same.refl G1) (l1.newH np) (.bl _)
end
end L2.Mp
set_option Elab.async false
set_option linter.all false
set_option maxRecDepth 100000
set_option maxHeartbeats 4000000
namespace L2.Mp
open PySem PySem.Spec PyProof.Rows L2

/-! ### zip and enumerate over lists and tuples -/
def Rb (kd : Bool) (H : Hp) (a : Addr) (xs : List V) : Prop := Rd H a (if kd = true then HO.tup xs else HO.lst xs)
def isB (kd : Bool) (h : Heap) (a : Addr) (its : Array Value) : Prop := if kd = true then h.IsTuple a its else h.IsList a its
def itB (kd : Bool) (h : Heap) (it a : Addr) (i : Nat) : Prop := if kd = true then h.IsTupleIter it a i else h.IsListIter it a i
theorem rb_its {kd : Bool} {X : Cx} {pins : List (Addr × Obj)} {σ : St} {H : Hp} {s : Shared} {a : Addr} {xs : List V} (I : Inv X pins σ H s) (h : Rb kd H a xs) : ∃ its : List Value, Vals xs its ∧ isB kd s.heap a its.toArray ∧ a < s.heap.objs.size := by
  cases kd with
  | true =>
    obtain ⟨its, r, p, _⟩ := I.tuple (.inl h)
    obtain ⟨o, ho, _⟩ := id p
    exact ⟨its, r, p, Heap.lt_size ho⟩
  | false =>
    obtain ⟨its, r, p, _⟩ := I.list (.inl h)
    exact ⟨its, r, p.isList, p.lt⟩
theorem rb_inj {kd : Bool} {X : Cx} {pins : List (Addr × Obj)} {σ : St} {H : Hp} {s : Shared} {a : Addr} {xs ys : List V} (I : Inv X pins σ H s) (h : Rb kd H a xs) (h' : Rb kd H a ys) : xs = ys := by
  cases kd with
  | true => exact I.tuple_inj (.inl h) (.inl h')
  | false => exact I.list_inj (.inl h) (.inl h')
theorem rb_ne {kd : Bool} {H : Hp} {a b : Addr} {xs : List V} (h : Rb kd H a xs) (hb : H b = none) : a ≠ b := by
  rintro rfl
  rcases h with h | ⟨_, h⟩ <;> rw [hb] at h <;> cases h
theorem drawsB (kd : Bool) {prog : Program} {w : World} {A : Around} (hh : A.handled = none) (it l : Addr) (hne : l ≠ it) (items : Array Value) :
    Draws prog w A it [it, l] items.size (fun i v => items[i]? = some v) (fun i h => itB kd h it l i ∧ isB kd h l items) := by
  cases kd with
  | true => exact Draws.tuple hh it l hne items
  | false => exact Draws.list hh it l hne items
def objB (kd : Bool) (l : Addr) : Obj := if kd = true then { cls := .type "tuple_iterator", data := .fields #[.ref l, .int 0 0] } else { cls := .type "list_iterator", data := .fields #[.ref l, .int 0 0] }
theorem beginsB (kd : Bool) (l : Addr) (items : Array Value) : Begins (.ref l) (objB kd l) fun h => isB kd h l items := by
  cases kd with
  | true => exact begins_tuple l items
  | false => exact begins_list l items
theorem itB_new {kd : Bool} {h : Heap} {it l : Addr} (e : h.get? it = some (objB kd l)) : itB kd h it l 0 := by
  cases kd with
  | true => exact ⟨_, e, rfl, rfl⟩
  | false => exact ⟨_, e, rfl, rfl⟩
theorem itB_at {kd : Bool} {h h' : Heap} {it l : Addr} {i : Nat} (x : itB kd h it l i) (k : ∀ o, h.get? it = some o → h'.get? it = some o) : itB kd h' it l i := by
  cases kd with
  | true => exact Heap.IsTupleIter.at x fun o e => k o e
  | false => exact Heap.IsListIter.at x fun o e => k o e
theorem itB_ob {kd : Bool} {h : Heap} {it l : Addr} {i : Nat} (x : itB kd h it l i) : ∃ o, h.get? it = some o ∧ ∀ v, o.data ≠ .cell v := by
  cases kd with
  | true =>
    obtain ⟨o, e, c, d⟩ := x
    exact ⟨o, e, fun v q => by rw [d] at q; cases q⟩
  | false =>
    obtain ⟨o, e, c, d⟩ := x
    exact ⟨o, e, fun v q => by rw [d] at q; cases q⟩
def ItZ (k1 k2 : Bool) (a b : Addr) : It :=
  ⟨fun i H => ∃ (xs ys : List V) (x y : V), Rb k1 H a xs ∧ Rb k2 H b ys ∧ xs[i]? = some x ∧ ys[i]? = some y,
    fun i H v H' => ∃ T x y, v = .ref T ∧ H T = none ∧ H' = upd H T (.tup [x, y]) ∧ (∀ xs, Rb k1 H a xs → xs[i]? = some x) ∧ ∀ ys, Rb k2 H b ys → ys[i]? = some y,
    fun i H => ∃ xs ys : List V, Rb k1 H a xs ∧ Rb k2 H b ys ∧ i ≤ xs.length ∧ i ≤ ys.length ∧ (i = xs.length ∨ i = ys.length)⟩
def ItE (kd : Bool) (a : Addr) : It :=
  ⟨fun i H => ∃ (xs : List V) (x : V), Rb kd H a xs ∧ xs[i]? = some x,
    fun i H v H' => ∃ T x, v = .ref T ∧ H T = none ∧ H' = upd H T (.tup [.int (i : Nat), x]) ∧ ∀ xs, Rb kd H a xs → xs[i]? = some x,
    fun i H => ∃ xs : List V, Rb kd H a xs ∧ i = xs.length⟩
structure Five (z TI TO i1 i2 : Addr) : Prop where
  TIz : TI ≠ z
  TOz : TO ≠ z
  TITO : TI ≠ TO
  TIi1 : TI ≠ i1
  zi1 : z ≠ i1
  TOi1 : TO ≠ i1
  TIi2 : TI ≠ i2
  zi2 : z ≠ i2
  TOi2 : TO ≠ i2
  i12 : i1 ≠ i2
theorem Five.sep {z TI TO i1 i2 a b : Addr} (D : Five z TI TO i1 i2) (ha : a ≠ z ∧ a ≠ TO ∧ a ≠ i1 ∧ a ≠ i2) (hb : b ≠ z ∧ b ≠ TO ∧ b ≠ i1 ∧ b ≠ i2) : ZipSep2 z TI TO i1 i2 [i1, a] [i2, b] where
  TIz := D.TIz
  TOz := D.TOz
  TITO := D.TITO
  TIi1 := D.TIi1
  mem1 := List.mem_cons_self
  zf1 := fun h => by
    rcases List.mem_cons.mp h with e | h
    · exact D.zi1 e
    · exact ha.1 (List.mem_singleton.mp h).symm
  Tf1 := fun h => by
    rcases List.mem_cons.mp h with e | h
    · exact D.TOi1 e
    · exact ha.2.1 (List.mem_singleton.mp h).symm
  TIi2 := D.TIi2
  mem2 := List.mem_cons_self
  zf2 := fun h => by
    rcases List.mem_cons.mp h with e | h
    · exact D.zi2 e
    · exact hb.1 (List.mem_singleton.mp h).symm
  Tf2 := fun h => by
    rcases List.mem_cons.mp h with e | h
    · exact D.TOi2 e
    · exact hb.2.1 (List.mem_singleton.mp h).symm
  sep1_2 := fun h => by
    rcases List.mem_cons.mp h with e | h
    · exact D.i12 e
    · exact hb.2.2.1 (List.mem_singleton.mp h).symm
  sep2_1 := fun h => by
    rcases List.mem_cons.mp h with e | h
    · exact D.i12 e.symm
    · exact ha.2.2.2 (List.mem_singleton.mp h).symm
theorem turn_zipB {P : Program} {w : World} {K : PySem.W.Frag} {elts : List Expr} {kk : Nat} {tpos : Pos} {k1 k2 : Bool} {a b z TI TO i1 i2 : Addr} (D : Five z TI TO i1 i2) :
    Turn P w K (.Tuple elts kk tpos) (ItZ k1 k2 a b) [z, TI, TO, i1, i2] z (fun i h => IsZip h z TI TO .none ∧ IsPair h TI (.ref i1) (.ref i2) ∧ (∃ x y, IsPair h TO x y) ∧ itB k1 h i1 a i ∧ itB k2 h i2 b i) where
  mem := by simp
  obj := fun i h cell c calm => by
    obtain ⟨hz, cTI, ⟨x, y, cTO⟩, h1, h2⟩ := cell
    have which : c = z ∨ c = TI ∨ c = TO ∨ c = i1 ∨ c = i2 := by simpa using calm
    rcases which with q | q | q | q | q
    · rw [q]; exact ⟨_, hz, fun v q => nomatch q⟩
    · rw [q]; exact ⟨_, cTI, fun v q => nomatch q⟩
    · rw [q]; exact ⟨_, cTO, fun v q => nomatch q⟩
    · rw [q]; exact itB_ob h1
    · rw [q]; exact itB_ob h2
  keep := fun i h h' cell k => by
    obtain ⟨hz, cTI, ⟨x, y, cTO⟩, h1, h2⟩ := cell
    exact ⟨k z (by simp) _ hz, k TI (by simp) _ cTI, ⟨x, y, k TO (by simp) _ cTO⟩, itB_at h1 fun o q => k i1 (by simp) o q, itB_at h2 fun o q => k i2 (by simp) o q⟩
  item := by
    intro X eP eW eK calm i pins s σ H E I far cell nxt
    subst eP eW eK
    obtain ⟨hz, cTI, ⟨x0, y0, cTO⟩, h1, h2⟩ := cell
    obtain ⟨xs, ys, x, y, rdx, rdy, hx, hy⟩ := nxt
    obtain ⟨its, rv, p, _⟩ := rb_its I rdx
    obtain ⟨its2, rv2, p2, _⟩ := rb_its I rdy
    have nz := (far z (by simp)).1
    have nO := (far TO (by simp)).1
    have n1 := (far i1 (by simp)).1
    have n2 := (far i2 (by simp)).1
    have S := D.sep (a := a) (b := b) ⟨rb_ne rdx nz, rb_ne rdx nO, rb_ne rdx n1, rb_ne rdx n2⟩ ⟨rb_ne rdy nz, rb_ne rdy nO, rb_ne rdy n1, rb_ne rdy n2⟩
    have l1 := rv.length
    have l2 := rv2.length
    have b1 : i < xs.length := (List.getElem?_eq_some_iff.mp hx).1
    have b2 : i < ys.length := (List.getElem?_eq_some_iff.mp hy).1
    have zLt : z < s.heap.objs.size := Heap.lt_size hz
    refine wpAny_pyNext_zipD2_item S (drawsB k1 (prog := X.prog) (w := X.w) (A := X.A.in1) (I.ok.hd calm) i1 a (rb_ne rdx n1) its.toArray) (drawsB k2 (prog := X.prog) (w := X.w) (A := X.A.in1) (I.ok.hd calm) i2 b (rb_ne rdy n2) its2.toArray) hz cTI cTO ⟨h1, p⟩ ⟨h2, p2⟩ (by simp; omega) (by simp; omega) fun u u2 h' tk hu hu2 z' TO' h1' h2' hT grew kept => ?_
    have ru : RelV x u := by
      obtain ⟨u', e1, e2⟩ := rv.get hx
      have e3 : its[i]? = some u := by simpa using hu
      rw [e1] at e3
      cases e3
      exact e2
    have ru2 : RelV y u2 := by
      obtain ⟨u', e1, e2⟩ := rv2.get hy
      have e3 : its2[i]? = some u2 := by simpa using hu2
      rw [e1] at e3
      cases e3
      exact e2
    refine ⟨_, rfl, wpAny_letOwnedTupleGo_zip (s := { s with heap := h', toks := tk }) z' fun h'' z'' sbz => ?_⟩
    have atT : h''.get? s.heap.objs.size = some { cls := .type "tuple", data := .seq #[u, u2] } := (sbz.2 _ (Nat.ne_of_gt zLt)).trans hT
    have okT : ObjOk X.prog X.w (upd H s.heap.objs.size (.tup [x, y])) h'' s.heap.objs.size (.tup [x, y]) :=
      ⟨by show 2 ≤ sizeLine; decide, [u, u2], .cons ru (.cons ru2 .nil), ⟨_, atT, rfl, _, rfl⟩⟩
    have J1 : Inv X pins σ (upd H s.heap.objs.size (.tup [x, y])) { s with heap := h'', toks := tk } :=
      I.turnedNew (t' := tk) (ch := [z, TI, TO, i1, i2]) (fun c o hb q => (sbz.2 c (fun q' => hb (by simp [q']))).trans (kept c o (fun q' => hb (by simp [q'])) (fun q' => hb (by simp [q'])) (fun q' => hb (by simp [q'])) (fun q' => hb (by simp [q'])) q)) far (Nat.le_refl _) okT
    refine ⟨.ref s.heap.objs.size, _, J1, rfl, ⟨_, x, y, rfl, I.hok.fresh (Nat.le_refl _), rfl, fun l hl => by rw [rb_inj I hl rdx]; exact hx, fun l hl => by rw [rb_inj I hl rdy]; exact hy⟩, ⟨z'', ?_, ⟨u, u2, ?_⟩, ?_, ?_⟩, fun c mem5 => ?_⟩
    · exact (sbz.2 _ D.TIz).trans (kept _ _ D.TIz D.TITO D.TIi1 D.TIi2 cTI)
    · exact (sbz.2 _ D.TOz).trans TO'
    · exact itB_at h1'.1 fun o q => (sbz.2 _ D.zi1.symm).trans q
    · exact itB_at h2'.1 fun o q => (sbz.2 _ D.zi2.symm).trans q
    · have cLt : c < s.heap.objs.size := by
        have which : c = z ∨ c = TI ∨ c = TO ∨ c = i1 ∨ c = i2 := by simpa using mem5
        rcases which with q | q | q | q | q
        · rw [q]; exact zLt
        · rw [q]; exact Heap.lt_size cTI
        · rw [q]; exact Heap.lt_size cTO
        · rw [q]; obtain ⟨_, e1, _⟩ := itB_ob h1; exact Heap.lt_size e1
        · rw [q]; obtain ⟨_, e2, _⟩ := itB_ob h2; exact Heap.lt_size e2
      rw [upd_ne (Nat.ne_of_lt cLt)]
      exact (far c mem5).1
  done := by
    intro X eP eW eK calm i pins s σ H E I far cell nxt
    subst eP eW eK
    obtain ⟨hz, cTI, ⟨x0, y0, cTO⟩, h1, h2⟩ := cell
    obtain ⟨xs, ys, rdx, rdy, le1, le2, hend⟩ := nxt
    obtain ⟨its, rv, p, _⟩ := rb_its I rdx
    obtain ⟨its2, rv2, p2, _⟩ := rb_its I rdy
    have l1 := rv.length
    have l2 := rv2.length
    have nz := (far z (by simp)).1
    have nO := (far TO (by simp)).1
    have n1 := (far i1 (by simp)).1
    have n2 := (far i2 (by simp)).1
    have S := D.sep (a := a) (b := b) ⟨rb_ne rdx nz, rb_ne rdx nO, rb_ne rdx n1, rb_ne rdx n2⟩ ⟨rb_ne rdy nz, rb_ne rdy nO, rb_ne rdy n1, rb_ne rdy n2⟩
    have he : i = its.toArray.size ∨ i = its2.toArray.size := by
      rcases hend with q | q
      · exact .inl (by simp; omega)
      · exact .inr (by simp; omega)
    exact wpAny_pyNext_zipD2_end S (drawsB k1 (prog := X.prog) (w := X.w) (A := X.A.in1) (I.ok.hd calm) i1 a (rb_ne rdx n1) its.toArray) (drawsB k2 (prog := X.prog) (w := X.w) (A := X.A.in1) (I.ok.hd calm) i2 b (rb_ne rdy n2) its2.toArray) hz cTI cTO ⟨h1, p⟩ ⟨h2, p2⟩ (by simp; omega) (by simp; omega) he fun h' tk kept => ⟨rfl, I.turnedL (t' := tk) (ch := [z, TI, TO, i1, i2]) (fun c o hb q =>
      kept c o (fun q' => hb (by simp [q'])) (fun q' => hb (by simp [q'])) (fun q' => hb (by simp [q'])) (fun q' => hb (by simp [q'])) q) far⟩
  self := fun A i s Q E cell h => wpAny_pyIter_zip cell.1 h
theorem five (I : Nat) : Five (I + 4 : Nat) (I + 2 : Nat) (I + 3 : Nat) I (I + 1 : Nat) := by
  constructor <;> (intro h; have h : (_ : Nat) = _ := h; omega)
def iZipB (ta : TA) : TI := fun σ H R => ta σ H fun vs H1 => ∃ (k1 k2 : Bool) (a b : Addr) (xs ys : List V), vs = [.ref a, .ref b] ∧ Rb k1 H1 a xs ∧ Rb k2 H1 b ys ∧ R (ItZ k1 k2 a b) H1
theorem pi_zipB {X : Cx} {e e2 : Expr} {ta : TA} {p pos tpos : Pos} {elts : List Expr} {kk : Nat} (nxt : Gl X "zip") (hm : X.mg "zip" = none) (ha : PA X [e, e2] ta)
    (hs : starEach [e, e2] X.env = (false, eval e X.env) :: starEach [e2] X.env) (hpl : (backTo pos (starEach [e2] X.env)).any (·.1) = false) :
    PI X (.Tuple elts kk tpos) (.Call (.Name "zip" p) [e, e2] [] pos) (iZipB ta) := by
  refine ⟨fun pins s σ H R I h => ?_⟩
  refine Call_ (ld_blt I nxt hm PyProof.Rows.boot_zip (PyProof.Rows.callWith_type1 (thn (ha.run pos pins s σ H _ I h) fun us s1 ⟨vs, H1, J1, r1, q1⟩ => ?_) hs hpl))
  obtain ⟨k1, k2, a, b, xs, ys, ex, rdx, rdy, q⟩ := q1
  subst ex
  cases r1 with
  | cons r rr =>
    cases rr with
    | cons r' rr =>
      cases rr
      cases r
      cases r'
      obtain ⟨its, rv, p1, la⟩ := rb_its J1 rdx
      obtain ⟨its2, rv2, p2, lb⟩ := rb_its J1 rdy
      refine zip_begins2 (beginsB k1 a its.toArray) (beginsB k2 b its2.toArray) p1 p2 fun h' hz cTI cTO h1 h2 grew kept => wpAny_pyIter_zip hz ?_
      have J2 : Inv X pins σ H1 { s1 with heap := h' } := J1.kept (t' := s1.toks) kept
      refine ⟨s1.heap.objs.size + 4, [s1.heap.objs.size + 4, s1.heap.objs.size + 2, s1.heap.objs.size + 3, s1.heap.objs.size, s1.heap.objs.size + 1], _, _, H1, rfl, J2, turn_zipB (five s1.heap.objs.size), ⟨hz, cTI, ⟨_, _, cTO⟩, itB_new h1, itB_new h2⟩, fun c mem5 => ?_, q⟩
      have which : c = s1.heap.objs.size + 4 ∨ c = s1.heap.objs.size + 2 ∨ c = s1.heap.objs.size + 3 ∨ c = s1.heap.objs.size ∨ c = s1.heap.objs.size + 1 := by simpa using mem5
      have old5 : s1.heap.objs.size ≤ c := by
        rcases which with z | z | z | z | z
        · rw [z]; exact Nat.le_add_right _ _
        · rw [z]; exact Nat.le_add_right _ _
        · rw [z]; exact Nat.le_add_right _ _
        · rw [z]; exact Nat.le_refl _
        · rw [z]; exact Nat.le_add_right _ _
      exact J1.fpOk old5 (J1.hok.fresh old5)
theorem turn_enumB {P : Program} {w : World} {K : PySem.W.Frag} {elts : List Expr} {kk : Nat} {tpos : Pos} {kd : Bool} (a e it : Addr) :
    Turn P w K (.Tuple elts kk tpos) (ItE kd a) [e, it] e (fun i h => (∃ old, IsEnum h e it ((i : Nat) : Int) old) ∧ itB kd h it a i ∧ e ≠ it) where
  mem := by simp
  obj := fun i h cell b hb => by
    obtain ⟨⟨old, he⟩, cIt, _⟩ := cell
    have which : b = e ∨ b = it := by simpa using hb
    rcases which with z | z
    · rw [z]; exact ⟨_, he, fun v q => nomatch q⟩
    · rw [z]; exact itB_ob cIt
  keep := fun i h h' cell k => let ⟨⟨old, he⟩, hi, eNi⟩ := cell; ⟨⟨old, k e (by simp) _ he⟩, itB_at hi fun o q => k it (by simp) o q, eNi⟩
  item := by
    intro X eP eW eK calm i pins s σ H E I far cell nxt
    subst eP eW eK
    obtain ⟨⟨old, he⟩, cIt, eNi⟩ := cell
    obtain ⟨xs, x, hq, hx⟩ := nxt
    obtain ⟨its, rv, p, _⟩ := rb_its I hq
    have ne := (far e (by simp)).1
    have ni := (far it (by simp)).1
    have l1 := rv.length
    have b1 : i < xs.length := (List.getElem?_eq_some_iff.mp hx).1
    have eLt : e < s.heap.objs.size := Heap.lt_size he
    have iLt : it < s.heap.objs.size := by obtain ⟨_, q, _⟩ := itB_ob cIt; exact Heap.lt_size q
    refine wpAny_pyNext_enum_itemC (drawsB kd (prog := X.prog) (w := X.w) (A := X.A.in1) (I.ok.hd calm) it a (rb_ne hq ni) its.toArray) he ⟨cIt, p⟩ (by simp; omega) eNi (fun z => ?_) fun u h' tk hu ho hit' hT grew kept => ?_
    · rcases List.mem_cons.mp z with z | z
      · exact eNi z
      · exact rb_ne hq ne (List.mem_singleton.mp z).symm
    have ru : RelV x u := by
      obtain ⟨u', e1, e2⟩ := rv.get hx
      have e3 : its[i]? = some u := by simpa using hu
      rw [e1] at e3
      cases e3
      exact e2
    refine ⟨_, rfl, wpAny_letOwnedTupleGo_enum (s := { s with heap := h', toks := tk + 1 }) ho fun h'' he' sbz => ?_⟩
    have atT : h''.get? s.heap.objs.size = some { cls := .type "tuple", data := .seq #[.int i tk, u] } := (sbz.2 _ (Nat.ne_of_gt eLt)).trans hT
    have okT : ObjOk X.prog X.w (upd H s.heap.objs.size (.tup [.int (i : Nat), x])) h'' s.heap.objs.size (.tup [.int (i : Nat), x]) :=
      ⟨by show 2 ≤ sizeLine; decide, [.int i tk, u], .cons ⟨_, rfl⟩ (.cons ru .nil), ⟨_, atT, rfl, _, rfl⟩⟩
    have J1 : Inv X pins σ (upd H s.heap.objs.size (.tup [.int (i : Nat), x])) { s with heap := h'', toks := tk + 1 } :=
      I.turnedNew (ch := [e, it]) (fun b ob hb q => (sbz.2 b (fun z => hb (by simp [z]))).trans (kept b ob (fun z => hb (by simp [z])) (fun z => hb (by simp [z])) q)) far (Nat.le_refl _) okT
    refine ⟨.ref s.heap.objs.size, _, J1, rfl, ⟨_, x, rfl, I.hok.fresh (Nat.le_refl _), rfl, fun ys hy => by rw [rb_inj I hy hq]; exact hx⟩, ⟨⟨u, ?_⟩, itB_at hit'.1 fun o q => (sbz.2 it (Ne.symm eNi)).trans q, eNi⟩, fun b hb => ?_⟩
    · have e1 : ((i + 1 : Nat) : Int) = (i : Int) + 1 := by omega
      rw [e1]; exact he'
    · have hb' : b < s.heap.objs.size := by
        have which : b = e ∨ b = it := by simpa using hb
        rcases which with z | z
        · rw [z]; exact eLt
        · rw [z]; exact iLt
      rw [upd_ne (Nat.ne_of_lt hb')]
      exact (far b hb).1
  done := by
    intro X eP eW eK calm i pins s σ H E I far cell nxt
    subst eP eW eK
    obtain ⟨⟨old, he⟩, cIt, eNi⟩ := cell
    obtain ⟨xs, hq, hx⟩ := nxt
    obtain ⟨its, rv, p, _⟩ := rb_its I hq
    obtain ⟨f0, f1, f2, f3, f4, f5⟩ := far it (by simp)
    have l1 := rv.length
    have hi : i = its.toArray.size := by simp; omega
    exact wpAny_pyNext_enum_endD (drawsB kd (prog := X.prog) (w := X.w) (A := X.A.in1) (I.ok.hd calm) it a (rb_ne hq f0) its.toArray) he (by rw [← hi]; exact ⟨cIt, p⟩) fun h' eb => ⟨rfl, I.turned (t' := s.toks) (fun b o hb q => eb b o hb q) f0 f1 f3 f4 f5⟩
  self := fun A i s Q E cell h => let ⟨⟨_, he⟩, _⟩ := cell; wpAny_pyIter_enum he h
end L2.Mp
set_option Elab.async false
set_option linter.all false
set_option maxRecDepth 100000
set_option maxHeartbeats 4000000
namespace L2.Mp
open PySem PySem.Spec PyProof.Rows L2

/-! ### enumerate(xs), xs a list or a tuple -/
theorem meets_en {v : Value} {o : Obj} {H : Heap → Prop} (B : Begins v o H) :
    Meets (Builtin.«enumerate.__new__» ⟨[.type "enumerate", v], []⟩) (fun _ R s => H s.heap ∧
      R (.ok (.ret (.ref (s.heap.push o).objs.size))) { s with heap := (s.heap.push o).push { cls := .type "enumerate", data := .fields #[.none, .bool false, .ref s.heap.objs.size, rawInt 0, .none, .none] } }) :=
  .of_wp fun prog w A R s h => by
    obtain ⟨hp, g, d, tk, os⟩ := s
    obtain ⟨h1, h⟩ := h
    have hsub := sub_enumerate
    have walk : ∀ {A' : Around} {E Q : Value → Shared → Prop}, Q (.ref hp.objs.size) ⟨hp.push o, g, d, tk, os⟩ → wpAny (model prog w) A' (pyIter v) Q E ⟨hp, g, d, tk, os⟩ :=
      fun q => B.iter prog w _ _ ⟨hp, g, d, tk, os⟩ _ h1 q
    wp_walk using walk
    refine wpAny_stack_any fun st => wpAny_pure ?_
    split
    · rename_i c _ _ _ _ _
      cases (c == Value.type "enumerate") <;> wp_walk using walk <;> exact ⟨_, rfl, h⟩
    · wp_walk using walk
      exact ⟨_, rfl, h⟩
theorem call_en {prog : Program} {w : World} {A : Around} {E : Value → Shared → Prop} {s : Shared} {v : Value} {o : Obj} {H : Heap → Prop} {Q : Value → Shared → Prop} (B : Begins v o H) (h1 : H s.heap)
    (h : ∀ h', IsEnum h' (s.heap.objs.size + 1) s.heap.objs.size 0 .none → h'.get? s.heap.objs.size = some o → (∀ b o, s.heap.get? b = some o → h'.get? b = some o) → Q (.ref (s.heap.objs.size + 1)) { s with heap := h' }) :
    wpAny (model prog w) A (call (.type "enumerate") [v]) Q E s := by
  refine callType_new F.called_enumerate (by decide) (F.typeCall_enumerate_1 _) (F.newCall_enumerate_1 _) (fun obj => F.args_object_init_2 obj _) F.entry_enumerate_new (meets_en B) ⟨h1, ?_⟩
  have grew : (s.heap.push o).objs.size = s.heap.objs.size + 1 := Heap.size_push ..
  show _ ∧ _
  rw [grew]
  have at1 := Heap.get?_push_size (s.heap.push o) (o := { cls := .type "enumerate", data := .fields #[.none, .bool false, .ref s.heap.objs.size, rawInt 0, .none, .none] }) rfl
  rw [grew] at at1
  exact ⟨⟨_, at1, rfl⟩, h _ at1 (Heap.get?_push_of_some _ (Heap.get?_push_size _ B.free)) fun b o x => Heap.get?_push_of_some _ (Heap.get?_push_of_some _ x)⟩
def iEnumB (ta : TA) : TI := fun σ H R => ta σ H fun vs H1 => ∃ (kd : Bool) (a : Addr) (xs : List V), vs = [.ref a] ∧ Rb kd H1 a xs ∧ R (ItE kd a) H1
theorem pi_enumB {X : Cx} {e : Expr} {ta : TA} {p pos tpos : Pos} {elts : List Expr} {kk : Nat} (glo : Gl X "enumerate") (fre : X.mg "enumerate" = none) (ha : PA X [e] ta) (hs : starEach [e] X.env = [(false, eval e X.env)]) :
    PI X (.Tuple elts kk tpos) (.Call (.Name "enumerate" p) [e] [] pos) (iEnumB ta) := by
  refine ⟨fun pins s σ H R inv h => ?_⟩
  refine Call_ (ld_blt inv glo fre boot_enumerate (PyProof.Rows.callWith_type1 (thn (ha.run pos pins s σ H _ inv h) fun us s1 ⟨vs, H1, J1, r1, q1⟩ => ?_) hs rfl))
  obtain ⟨kd, a, xs, rfl, rb, q⟩ := q1
  rw [Vals.ref1 r1]
  obtain ⟨its, rv, p1, la⟩ := rb_its J1 rb
  refine call_en (beginsB kd a its.toArray) p1 fun h' isE itr kept => wpAny_pyIter_enum isE ?_
  have J2 : Inv X pins σ H1 { s1 with heap := h' } := J1.kept (t' := s1.toks) kept
  refine ⟨s1.heap.objs.size + 1, [s1.heap.objs.size + 1, s1.heap.objs.size], _, _, H1, rfl, J2, turn_enumB a (s1.heap.objs.size + 1) s1.heap.objs.size, ⟨⟨.none, isE⟩, itB_new itr, Nat.succ_ne_self _⟩, fun b hb => ?_, q⟩
  have old : s1.heap.objs.size ≤ b := by
    rcases (show b = s1.heap.objs.size + 1 ∨ b = s1.heap.objs.size by simpa using hb) with z | z <;> rw [z]
    · exact Nat.le_succ _
    · exact Nat.le_refl _
  exact J1.fpOk old (J1.hok.fresh old)

section
variable {c : Ct} {cf : CF} {k : Nat} {a b : T} {x y tg : Expr} {pos pos' : Pos}
/-- a list or a tuple, walked -/
theorem pi_sq {X : Cx} {t : TE} (h : PE X x t) : PI X tg x (fun σ H R => t σ H fun v H1 => ∃ (a : Addr) (xs : List V), v = .ref a ∧ ((Rd H1 a (.lst xs) ∧ R (Itl X.K a) H1) ∨ (Rd H1 a (.tup xs) ∧ R (Itt X.K a) H1))) := by
  refine ⟨fun pins s σ H R inv q => ?_⟩
  refine thn (h.run pins s σ H _ inv q) fun v s1 ⟨w, H1, J1, r1, q1⟩ => ?_
  obtain ⟨a, xs, rfl, q1⟩ := q1
  cases r1
  have one : ∀ b, b ∈ [s1.heap.objs.size] → FpOk X pins H1 b := fun b hb => by
    rw [List.mem_singleton.mp hb]
    exact J1.fpOk (Nat.le_refl _) (J1.hok.fresh (Nat.le_refl _))
  rcases q1 with ⟨rd, q⟩ | ⟨rd, q⟩
  · obtain ⟨its, rv, p, _⟩ := J1.list (.inl rd)
    exact wpAny_pyIter_list p.isList ⟨_, _, _, _, H1, rfl, J1.kept (t' := s1.toks) fun b o => Heap.get?_push_of_some _, turn_list a _, ⟨_, Heap.get?_push_size _ rfl, rfl, rfl⟩, one, q⟩
  · obtain ⟨its, rv, p, _⟩ := J1.tuple (.inl rd)
    exact wpAny_pyIter_tuple (show s1.heap.IsTuple a its.toArray from p) ⟨_, _, _, _, H1, rfl, J1.kept (t' := s1.toks) fun b o => Heap.get?_push_of_some _, turn_tuple a _, ⟨_, Heap.get?_push_size _ rfl, rfl, rfl⟩, one, q⟩
theorem DpAll.getV {K : PySem.W.Frag} {G : Hp} {vs : List V} {ds : List D} {i : Nat} {d : D} {v : V} (h : DpAll K G vs ds) (e : ds[i]? = some d) (e2 : vs[i]? = some v) : Dp K G v d := by
  obtain ⟨u, h1, h2⟩ := DpAll.get h e
  rw [e2] at h1
  cases h1
  exact h2
theorem itd_list {K : PySem.W.Frag} {G : Hp} {a : Addr} {vs : List V} {ds : List D} (h : Rd G a (.lst vs)) (hd : DpAll KZ G vs ds) : ItD KZ G (Itl K a) ds := by
  intro G1 H1 s1 s2
  have rd : SqL K H1 a vs := .inl (Rd.same (s1.trans s2) h)
  refine ⟨fun i hi => ?_, ⟨vs, rd, by rw [DpAll.length hd]; exact Nat.le_refl _⟩, fun i d v H2 e hy => .inl ?_⟩
  · obtain ⟨v, e, _⟩ := DpAll.get hd (List.getElem?_eq_getElem hi)
    exact ⟨vs, v, rd, e⟩
  · obtain ⟨e1, e2⟩ := hy
    exact ⟨e1, Dp.same s1 _ _ (DpAll.getV hd e (e2 vs rd))⟩
theorem itd_tup {K : PySem.W.Frag} {G : Hp} {a : Addr} {vs : List V} {ds : List D} (h : Rd G a (.tup vs)) (hd : DpAll KZ G vs ds) : ItD KZ G (Itt K a) ds := by
  intro G1 H1 s1 s2
  have rd : SqT K H1 a vs := .inl (Rd.same (s1.trans s2) h)
  refine ⟨fun i hi => ?_, ⟨vs, rd, by rw [DpAll.length hd]; exact Nat.le_refl _⟩, fun i d v H2 e hy => .inl ?_⟩
  · obtain ⟨v, e, _⟩ := DpAll.get hd (List.getElem?_eq_getElem hi)
    exact ⟨vs, v, rd, e⟩
  · obtain ⟨e1, e2⟩ := hy
    exact ⟨e1, Dp.same s1 _ _ (DpAll.getV hd e (e2 vs rd))⟩
theorem iota_len : ∀ (n : Nat) (lo : Int), (iota lo n).length = n
  | 0, _ => rfl
  | n + 1, lo => congrArg (· + 1) (iota_len n (lo + 1))
theorem iota_get : ∀ (n : Nat) (lo : Int) (i : Nat) (d : D), (iota lo n)[i]? = some d → d = .int (lo + i)
  | 0, lo, i, d, h => by simp [iota] at h
  | n + 1, lo, 0, d, h => by
    have h : some (PyData.int lo) = some d := h
    cases h
    simp
  | n + 1, lo, i + 1, d, h => by
    have := iota_get n (lo + 1) i d h
    rw [this]
    congr 1
    omega
theorem itd_rng {G : Hp} {lo : Int} {n : Nat} : ItD KZ G (Itr lo n) (iota lo n) := by
  intro G1 H1 s1 s2
  refine ⟨fun i hi => ?_, ?_, fun i d v H2 e hy => .inl ?_⟩
  · rw [iota_len] at hi
    exact hi
  · rw [iota_len]
    exact Nat.le_refl _
  · obtain ⟨e1, e2⟩ := hy
    rw [iota_get n lo i d e, e2]
    exact ⟨e1, .int _⟩
theorem zipF_len : ∀ (xs ys : List D), (zipF xs ys).length = min xs.length ys.length
  | [], _ => by simp [zipF]
  | _ :: _, [] => by simp [zipF]
  | x :: r, y :: s => by
    show (zipF r s).length + 1 = _
    rw [zipF_len r s, List.length_cons, List.length_cons]
    omega
theorem zipF_get : ∀ (xs ys : List D) (i : Nat) (d : D), (zipF xs ys)[i]? = some d → ∃ x y, xs[i]? = some x ∧ ys[i]? = some y ∧ d = .tuple [x, y]
  | [], _, i, d, h => by simp [zipF] at h
  | _ :: _, [], i, d, h => by simp [zipF] at h
  | x :: r, y :: s, 0, d, h => by
    have h : some (PyData.tuple [x, y]) = some d := h
    cases h
    exact ⟨x, y, rfl, rfl, rfl⟩
  | x :: r, y :: s, i + 1, d, h => zipF_get r s i d h
theorem enumF_len : ∀ (xs : List D) (n : Int), (enumF n xs).length = xs.length
  | [], _ => rfl
  | _ :: r, n => congrArg (· + 1) (enumF_len r (n + 1))
theorem enumF_get : ∀ (xs : List D) (n : Int) (i : Nat) (d : D), (enumF n xs)[i]? = some d → ∃ x, xs[i]? = some x ∧ d = .tuple [.int (n + i), x]
  | [], _, i, d, h => by simp [enumF] at h
  | x :: r, n, 0, d, h => by
    have h : some (PyData.tuple [.int n, x]) = some d := h
    cases h
    exact ⟨x, rfl, by simp⟩
  | x :: r, n, i + 1, d, h => by
    obtain ⟨y, e, e2⟩ := enumF_get r (n + 1) i d h
    refine ⟨y, e, ?_⟩
    rw [e2]
    congr 2
    congr 1
    omega
theorem rb_same {kd : Bool} {G G' : Hp} (s : Same G G') {a : Addr} {xs : List V} (h : Rb kd G a xs) : Rb kd G' a xs := Rd.same s h
theorem itd_zip {k1 k2 : Bool} {G : Hp} {a b : Addr} {vs us : List V} {ds es : List D} (h : Rb k1 G a vs) (hd : DpAll KZ G vs ds) (h' : Rb k2 G b us) (he : DpAll KZ G us es) : ItD KZ G (ItZ k1 k2 a b) (zipF ds es) := by
  intro G1 H1 s1 s2
  have r1 := rb_same (s1.trans s2) h
  have r2 := rb_same (s1.trans s2) h'
  have l1 := DpAll.length hd
  have l2 := DpAll.length he
  refine ⟨fun i hi => ?_, ⟨vs, us, r1, r2, ?_⟩, fun i d v H2 e hy => .inr ?_⟩
  · obtain ⟨p, q, e1, e2, _⟩ := zipF_get ds es i _ (List.getElem?_eq_getElem hi)
    obtain ⟨v, e3, _⟩ := DpAll.get hd e1
    obtain ⟨u, e4, _⟩ := DpAll.get he e2
    exact ⟨vs, us, v, u, r1, r2, e3, e4⟩
  · rw [zipF_len, l1, l2]
    omega
  · obtain ⟨p, q, e1, e2, rfl⟩ := zipF_get ds es i d e
    obtain ⟨T, v1, v2, e3, e4, e5, e6, e7⟩ := hy
    exact ⟨T, _, _, e3, rfl, e4, e5, .cons (Dp.same s1 _ _ (DpAll.getV hd e1 (e6 vs r1))) (.cons (Dp.same s1 _ _ (DpAll.getV he e2 (e7 us r2))) .nil)⟩
theorem itd_enum {kd : Bool} {G : Hp} {a : Addr} {vs : List V} {ds : List D} (h : Rb kd G a vs) (hd : DpAll KZ G vs ds) : ItD KZ G (ItE kd a) (enumF 0 ds) := by
  intro G1 H1 s1 s2
  have r1 := rb_same (s1.trans s2) h
  refine ⟨fun i hi => ?_, ⟨vs, r1, by rw [enumF_len, DpAll.length hd]⟩, fun i d v H2 e hy => .inr ?_⟩
  · obtain ⟨p, e1, _⟩ := enumF_get ds 0 i _ (List.getElem?_eq_getElem hi)
    obtain ⟨v, e3, _⟩ := DpAll.get hd e1
    exact ⟨vs, v, r1, e3⟩
  · obtain ⟨p, e1, rfl⟩ := enumF_get ds 0 i d e
    obtain ⟨T, v1, e3, e4, e5, e6⟩ := hy
    rw [Int.zero_add]
    exact ⟨T, _, _, e3, rfl, e4, e5, .cons (.int _) (.cons (Dp.same s1 _ _ (DpAll.getV hd e1 (e6 vs r1))) .nil)⟩
theorem items_dp {K : PySem.W.Frag} {G : Hp} {v : V} {d : D} {xs : List D} (h : Dp KZ G v d) (e : itemsOf d = some xs) : ∃ (kd : Bool) (p : Addr) (us : List V), v = .ref p ∧ Rb kd G p us ∧ DpAll KZ G us xs := by
  cases d with
  | list ds =>
    cases e
    cases h with
    | lst h1 h2 => exact ⟨false, _, _, rfl, rd_of h1, h2⟩
  | tuple ds =>
    cases e
    cases h with
    | tup h1 h2 => exact ⟨true, _, _, rfl, rt_of h1, h2⟩
  | _ => cases e
theorem fz_nrm' (r : RV) (e : Fm) : fz (nrm r) e = fz r e := by cases r <;> rfl
theorem src_seq (ha : GoodE c cf k a x) : GoodI c cf k (.sSeq a) tg x := by
  intro X ok F G H S σ e Q W tk l hq
  refine ofI (pi_sq pe_w) ?_
  refine rvE ha ok tk l hq fun ra e1 v H1 G1 s1 l1 r1 hp => ?_
  cases q1 : fz ra e1 with
  | none => rw [q1] at hp; exact hp.elim
  | some w =>
    obtain ⟨d, e2⟩ := w
    rw [q1] at hp
    obtain ⟨G2, s2, l2, d2⟩ := r1.fz l1 q1
    cases d with
    | list ds =>
      cases d2 with
      | lst h1 h2 => exact ⟨_, _, rfl, .inl ⟨Rd.same l2.g (rd_of h1), (Po.mono s2 hp) _ H1 G2 (Same.refl G2) l2 (itd_list (rd_of h1) h2)⟩⟩
    | tuple ds =>
      cases d2 with
      | tup h1 h2 => exact ⟨_, _, rfl, .inr ⟨Rd.same l2.g (rt_of h1), (Po.mono s2 hp) _ H1 G2 (Same.refl G2) l2 (itd_tup (rt_of h1) h2)⟩⟩
    | _ => exact hp.elim
theorem starOne {env : Env} (h : isStar x = false) : starEach [x] env = [(false, eval x env)] := star_cons h
theorem src_r1 (ha : GoodE c cf k a x) (hs : isStar x = false) (hf : ("range" : Str) ∈ c.fr) (hg : gloB c.sc "range" = true) : GoodI c cf k (.sR1 a) tg (.Call (.Name "range" pos') [x] [] pos) := by
  intro X ok F G H S σ e Q W tk l hq
  refine ofI (pi_range1 (ok.glo hg) (ok.gb.fr _ hf) (pa_cons pe_w pa_nil (star_cons hs)) (starOne hs)) ?_
  refine rvE ha ok tk l hq fun ra e1 v H1 G1 s1 l1 r1 hp => ?_
  obtain ⟨G2, s2, l2, r2⟩ := r1.nrm l1
  cases q1 : rd ra e1 with
  | none => rw [q1] at hp; exact hp.elim
  | some w =>
    rw [q1] at hp
    cases w with
    | int n =>
      dsimp only at hp
      split at hp
      · rename_i hm
        obtain rfl := (r2.rd l2 q1).int
        exact ⟨n, rfl, hm.1, hm.2, (Po.mono s2 hp) _ H1 G2 (Same.refl G2) l2 itd_rng⟩
      · exact hp.elim
    | _ => exact hp.elim
theorem src_r2 (ha : GoodE c cf k a x) (hb : GoodE c cf k b y) (hs : isStar x = false) (hs' : isStar y = false) (hf : ("range" : Str) ∈ c.fr) (hg : gloB c.sc "range" = true) : GoodI c cf k (.sR2 a b) tg (.Call (.Name "range" pos') [x, y] [] pos) := by
  intro X ok F G H S σ e Q W tk l hq
  refine ofI (pi_range2 (ok.glo hg) (ok.gb.fr _ hf) (pa_cons pe_w (pa_cons pe_w pa_nil (star_cons hs')) (star_cons hs)) (by rw [star_cons hs, starOne hs']) (starOne hs')) ?_
  refine rvE2 ha hb ok tk l hq fun ra rb e2 v u H2 G2 s2 l2 r1 r2 hp => ?_
  cases q1 : rd ra e2 with
  | none => rw [q1] at hp; exact hp.elim
  | some p =>
    cases q2 : rd rb e2 with
    | none =>
      rw [q1, q2] at hp
      cases p <;> exact hp.elim
    | some q =>
      rw [q1, q2] at hp
      cases p with
      | int m =>
        cases q with
        | int n =>
          dsimp only at hp
          split at hp
          · rename_i hm
            obtain rfl := (r1.rd l2 q1).int
            obtain rfl := (r2.rd l2 q2).int
            exact ⟨m, n, rfl, hm, hp _ H2 G2 (Same.refl G2) l2 itd_rng⟩
          · exact hp.elim
        | _ => exact hp.elim
      | _ => cases q <;> exact hp.elim
theorem src_zip {elts : List Expr} {j : Nat} {tpos : Pos} (ha : GoodE c cf k a x) (hb : GoodE c cf k b y) (hs : isStar x = false) (hs' : isStar y = false) (hf : ("zip" : Str) ∈ c.fr) (hg : gloB c.sc "zip" = true) : GoodI c cf k (.sZip a b) (.Tuple elts j tpos) (.Call (.Name "zip" pos') [x, y] [] pos) := by
  intro X ok F G H S σ e Q W tk l hq
  refine ofI (pi_zipB (ok.glo hg) (ok.gb.fr _ hf) (pa_cons pe_w (pa_cons pe_w pa_nil (star_cons hs')) (star_cons hs)) (star_cons hs) (nostar_back fun z hz => by rw [List.mem_singleton.mp hz]; exact hs')) ?_
  refine rvE2 ha hb ok tk l hq fun ra rb e2 v u H2 G2 s2 l2 r1 r2 hp => ?_
  cases q1 : fz ra e2 with
  | none => rw [q1] at hp; exact hp.elim
  | some p =>
    obtain ⟨d1, e3⟩ := p
    rw [q1] at hp
    dsimp only at hp
    obtain ⟨G3, s3, l3, p3⟩ := r1.fz l2 (by rw [fz_nrm']; exact q1)
    cases q2 : fz rb e3 with
    | none => rw [q2] at hp; exact hp.elim
    | some q =>
      obtain ⟨d2, e4⟩ := q
      rw [q2] at hp
      dsimp only at hp
      have r2' : RvOk KZ F G3 H2 σ e3 u (nrm rb) := r2.later s3
      obtain ⟨G4, s4, l4, p4⟩ := r2'.fz l3 (by rw [fz_nrm']; exact q2)
      cases q3 : itemsOf d1 with
      | none => rw [q3] at hp; exact hp.elim
      | some xs =>
        cases q4 : itemsOf d2 with
        | none => rw [q3, q4] at hp; exact hp.elim
        | some ys =>
          rw [q3, q4] at hp
          obtain ⟨k1, a1, us, rfl, h1, h2⟩ := items_dp (K := KZ) (Dp.same s4 _ _ p3) q3
          obtain ⟨k2, a2, ws, rfl, h3, h4⟩ := items_dp (K := KZ) p4 q4
          exact ⟨k1, k2, a1, a2, us, ws, rfl, rb_same l4.g h1, rb_same l4.g h3, (Po.mono (s3.trans s4) hp) _ H2 G4 (Same.refl G4) l4 (itd_zip h1 h2 h3 h4)⟩
theorem src_enum {elts : List Expr} {j : Nat} {tpos : Pos} (ha : GoodE c cf k a x) (hs : isStar x = false) (hf : ("enumerate" : Str) ∈ c.fr) (hg : gloB c.sc "enumerate" = true) : GoodI c cf k (.sEnum a) (.Tuple elts j tpos) (.Call (.Name "enumerate" pos') [x] [] pos) := by
  intro X ok F G H S σ e Q W tk l hq
  refine ofI (pi_enumB (ok.glo hg) (ok.gb.fr _ hf) (pa_cons pe_w pa_nil (star_cons hs)) (starOne hs)) ?_
  refine rvE ha ok tk l hq fun ra e1 v H1 G1 s1 l1 r1 hp => ?_
  cases q1 : fz ra e1 with
  | none => rw [q1] at hp; exact hp.elim
  | some p =>
    obtain ⟨d1, e3⟩ := p
    rw [q1] at hp
    dsimp only at hp
    obtain ⟨G3, s3, l3, p3⟩ := r1.fz l1 q1
    cases q3 : itemsOf d1 with
    | none => rw [q3] at hp; exact hp.elim
    | some xs =>
      rw [q3] at hp
      obtain ⟨k1, a1, us, rfl, h1, h2⟩ := items_dp (K := KZ) p3 q3
      exact ⟨k1, a1, us, rfl, rb_same l3.g h1, (Po.mono s3 hp) _ H1 G3 (Same.refl G3) l3 (itd_enum h1 h2)⟩
end
end L2.Mp
set_option Elab.async false
set_option linter.all false
set_option maxRecDepth 100000
set_option maxHeartbeats 4000000
namespace L2.Mp
open PySem PySem.Spec PyProof.Rows L2

/-! ### slots forgotten and brought back -/
section
variable {K : PySem.W.Frag} {F G H : Hp} {S σ : St} {e : Fm}
theorem Rl.cut (r : Rl K F G H S σ e) (i : Nat) : Rl K F G H S (σ.set i none) (e.set i .no) where
  g := r.g
  f := r.f
  fg := r.fg
  len := by rw [List.length_set, List.length_set]; exact r.len
  val := fun j x h => by
    rcases get_set h with ⟨rfl, z, hl⟩ | ⟨hj, h⟩
    · cases z
    · rw [List.getElem?_set_ne (Ne.symm hj)]
      exact r.val j x h
  own := fun j jo es h => by
    rcases get_set h with ⟨rfl, z, hl⟩ | ⟨hj, h⟩
    · cases z
    · rw [List.getElem?_set_ne (Ne.symm hj)]
      exact r.own j jo es h
  inj := fun j k jo ko es fs b q1 q2 h1 h2 => by
    rcases get_set q1 with ⟨rfl, z, _⟩ | ⟨hj, q1⟩
    · cases z
    · rcases get_set q2 with ⟨rfl, z, _⟩ | ⟨hk, q2⟩
      · cases z
      · rw [List.getElem?_set_ne (Ne.symm hj)] at h1
        rw [List.getElem?_set_ne (Ne.symm hk)] at h2
        exact r.inj j k jo ko es fs b q1 q2 h1 h2
theorem Rl.wipe (r : Rl K F G H S σ e) : ∀ vs : List Nat, Rl K F G H S (L2.wipe σ vs) (wipeS vs e)
  | [] => r
  | v :: vs => (Rl.wipe r vs).cut v
theorem wipeS_len : ∀ (vs : List Nat) (e : Fm), (wipeS vs e).length = e.length
  | [], _ => rfl
  | v :: vs, e => by
    show ((wipeS vs e).set v .no).length = _
    rw [List.length_set, wipeS_len vs e]
theorem wipeS_out {j : Nat} : ∀ {vs : List Nat} {e : Fm}, j ∉ vs → (wipeS vs e)[j]? = e[j]?
  | [], _, _ => rfl
  | v :: vs, e, h => by
    show ((wipeS vs e).set v .no)[j]? = _
    rw [List.getElem?_set_ne (fun z => h (by rw [z]; exact List.mem_cons_self)), wipeS_out fun z => h (List.mem_cons_of_mem _ z)]
theorem wipe_keep {j : Nat} : ∀ {vs : List Nat} {σ : St}, j ∉ vs → (L2.wipe σ vs)[j]? = σ[j]?
  | [], _, _ => rfl
  | v :: vs, σ, h => by
    show ((L2.wipe σ vs).set v none)[j]? = _
    rw [List.getElem?_set_ne (fun z => h (by rw [z]; exact List.mem_cons_self)), wipe_keep fun z => h (List.mem_cons_of_mem _ z)]
theorem wipe_in {j : Nat} : ∀ {vs : List Nat} {σ : St}, j ∈ vs → j < σ.length → (L2.wipe σ vs)[j]? = some none
  | v :: vs, σ, h, hl => by
    show ((L2.wipe σ vs).set v none)[j]? = _
    by_cases hv : v = j
    · subst hv
      rw [List.getElem?_set_self (by rw [wipe_length]; exact hl)]
    · rw [List.getElem?_set_ne hv]
      rcases List.mem_cons.mp h with z | z
      · exact absurd z.symm hv
      · exact wipe_in z hl
theorem wipe_eq {vs : List Nat} {σ σ' : St} (hl : σ'.length = σ.length) (h : ∀ j, j ∉ vs → σ'[j]? = σ[j]?) : L2.wipe σ' vs = L2.wipe σ vs := by
  refine List.ext_getElem? fun j => ?_
  by_cases hj : j ∈ vs
  · by_cases hb : j < σ.length
    · rw [wipe_in hj hb, wipe_in hj (by rw [hl]; exact hb)]
    · rw [List.getElem?_eq_none (by rw [wipe_length, hl]; omega), List.getElem?_eq_none (by rw [wipe_length]; omega)]
  · rw [wipe_keep hj, wipe_keep hj, h j hj]
theorem wipe_apart {vs is : List Nat} {σ σ' : St} (a : Apart is (L2.wipe σ vs) σ') (hi : ∀ i ∈ is, i ∈ vs) : L2.wipe σ' vs = L2.wipe σ vs :=
  wipe_eq (a.1.trans (wipe_length σ vs)) fun j hj => (a.2 j fun z => hj (hi j z)).trans (wipe_keep hj)
theorem backS_len (e0 : Fm) : ∀ (vs : List Nat) (e : Fm), (backS e0 vs e).length = e.length
  | [], _ => rfl
  | v :: vs, e => by
    show ((backS e0 vs e).set v _).length = _
    rw [List.length_set, backS_len e0 vs e]
theorem backS_get {e0 : Fm} {j : Nat} {s : Slot} : ∀ {vs : List Nat} {e : Fm}, e.length = e0.length → (backS e0 vs e)[j]? = some s → (j ∈ vs ∧ e0[j]? = some s) ∨ (j ∉ vs ∧ e[j]? = some s)
  | [], e, hl, h => .inr ⟨List.not_mem_nil, h⟩
  | v :: vs, e, hl, h => by
    have h : ((backS e0 vs e).set v (e0.getD v .no))[j]? = some s := h
    rcases get_set h with ⟨rfl, z, hb⟩ | ⟨hj, h⟩
    · refine .inl ⟨List.mem_cons_self, ?_⟩
      rw [backS_len, hl] at hb
      rw [z, List.getD_eq_getElem?_getD, List.getElem?_eq_getElem hb]
      rfl
    · rcases backS_get hl h with ⟨h1, h2⟩ | ⟨h1, h2⟩
      · exact .inl ⟨List.mem_cons_of_mem _ h1, h2⟩
      · refine .inr ⟨fun z => ?_, h2⟩
        rcases List.mem_cons.mp z with z | z
        · exact hj z
        · exact h1 z
theorem Rl.back {G0 H0 : Hp} {e0 : Fm} {vs : List Nat} (l0 : Rl K F G0 H0 S σ e0) (s : Same G0 G) (l : Rl K F G H S (L2.wipe σ vs) (wipeS vs e)) (hv : vs.any (fun i => isOwnS e0[i]?) = false) : Rl K F G H S σ (backS e0 vs e) := by
  have hl : e.length = e0.length := by
    have := l.len
    rw [wipeS_len, wipe_length] at this
    rw [this, l0.len]
  have noo : ∀ j ∈ vs, ∀ io ds, e0[j]? ≠ some (.own io ds) := fun j hj io ds z => by
    have := (List.any_eq_false.mp hv) j hj
    rw [z] at this
    exact this rfl
  have own2 : ∀ (j : Nat) (io : Bool) (ds : List D), (backS e0 vs e)[j]? = some (.own io ds) → j ∉ vs ∧ (wipeS vs e)[j]? = some (.own io ds) := fun j io ds h => by
    rcases backS_get hl h with ⟨h1, h2⟩ | ⟨h1, h2⟩
    · exact absurd h2 (noo j h1 io ds)
    · exact ⟨h1, by rw [wipeS_out h1]; exact h2⟩
  refine ⟨l.g, l.f, l.fg, by rw [backS_len, hl, l0.len], fun j d h => ?_, fun j io ds h => ?_, fun j k jo ko es fs b q1 q2 h1 h2 => ?_⟩
  · rcases backS_get hl h with ⟨h1, h2⟩ | ⟨h1, h2⟩
    · obtain ⟨v, h3, h4⟩ := l0.val j d h2
      exact ⟨v, h3, Dp.same s _ _ h4⟩
    · obtain ⟨v, h3, h4⟩ := l.val j d (by rw [wipeS_out h1]; exact h2)
      rw [wipe_keep h1] at h3
      exact ⟨v, h3, h4⟩
  · obtain ⟨h1, h2⟩ := own2 j io ds h
    obtain ⟨a, us, h3, h4⟩ := l.own j io ds h2
    rw [wipe_keep h1] at h3
    exact ⟨a, us, h3, h4⟩
  · obtain ⟨n1, p1⟩ := own2 j jo es q1
    obtain ⟨n2, p2⟩ := own2 k ko fs q2
    exact l.inj j k jo ko es fs b p1 p2 (by rw [wipe_keep n1]; exact h1) (by rw [wipe_keep n2]; exact h2)
/-- what nobody tells of is changed -/
theorem Rl.chg (r : Rl K F G H S σ e) {a : Addr} {o : HO} (hg : G a = none) (hf : F a = none) (no : NoOwn σ e a) : Rl K F G (upd H a o) S σ e where
  g := fun b u q => by rw [upd_ne (ne_of_none q hg)]; exact r.g b u q
  f := fun b u q => by rw [upd_ne (ne_of_none q hf)]; exact r.f b u q
  fg := r.fg
  len := r.len
  val := r.val
  own := fun i io ds h => by
    obtain ⟨b, vs, h1, h2, h3, h4, h5, h6⟩ := r.own i io ds h
    have ne : b ≠ a := fun z => no i io ds h (by rw [← z]; exact h1)
    exact ⟨b, vs, h1, by rw [upd_ne ne]; exact h2, h3, h4, h5, h6⟩
  inj := r.inj
end

/-! ### tests of a comprehension -/
abbrev wxC (X : Cx) (ifs : List Expr) : TT := fun σ H Q => ∀ pins s, Inv X pins σ H s → wpAny (model X.prog X.w) X.A (forIn ifs true fun c r => if r = true then do let ok ← isTrue c X.env (eval c X.env); pure (ForInStep.yield ok) else pure (ForInStep.yield r)) (TP X pins σ Q) X.xe s
theorem ofC {X : Cx} {ifs : List Expr} {t : TT} {σ : St} {H : Hp} {Q : Bool → Hp → Prop} (h : PTs X ifs t) (q : t σ H Q) : wxC X ifs σ H Q := fun pins s I => h.run pins s σ H Q I q
def evC (cf : CF) (t : T) (e : Fm) : R Bool := match t with
  | .absent => .ok true e
  | _ => testR (ev cf t e)
def GoodC (c : Ct) (cf : CF) (k : Nat) (t : T) (ifs : List Expr) : Prop := ∀ X, XOk c cf k X → ∀ F G H S σ e Q W, Takes X W → Rl KZ F G H S σ e → Po X F S W (pT X F S σ Q) G (evC cf t e) → wxC X ifs σ H Q
section
variable {c : Ct} {cf : CF} {k : Nat} {a b d : T} {x y : Expr}
theorem good_noif : GoodC c cf k .absent [] := fun X ok F G H S σ e Q W tk l hq => ofC pts_nil (hq H G (Same.refl G) l)
theorem good_if (h : GoodT c cf k a x) (hn : ∀ e, evC cf a e = testR (ev cf a e)) : GoodC c cf k a [x] := fun X ok F G H S σ e Q W tk l hq => ofC (pts_one pt_w) (h X ok F G H S σ e Q W tk l (by rw [← hn]; exact hq))
end

/-! ### the block of a comprehension -/
def nameAt (N : List Str) (i : Nat) : Str := N.getD i ""
def ownOf (N : List Str) (vs : List Nat) : List (Str × Nat) := vs.map fun i => (nameAt N i, i)
theorem ownOf_ix (N : List Str) (vs : List Nat) : (ownOf N vs).map (·.2) = vs := by
  unfold ownOf
  rw [List.map_map]
  show vs.map (fun i => i) = vs
  rw [List.map_id']
theorem takesF {X : Cx} : Takes X fun _ _ _ _ => False := fun u s' ⟨_, _, _, _, _, _, _, _, _, _, _, _, _, _, _, _, w⟩ => w.elim
section
variable {c : Ct} {cf : CF} {k : Nat} {X : Cx}
theorem blk_ok (ok : XOk c cf k X) {scope : Scope} {vs : List Nat} (h : blkC c.N c.sc scope (ownOf c.N vs) = true) : BlkOk X.N X.env.scope scope (ownOf c.N vs) := by
  obtain ⟨h1, h2, h3, h4, h5⟩ := blkOk_by h
  rw [ok.N]
  refine ⟨h1, h2, h3, fun y hy e => ?_, h5⟩
  rcases h4 y hy e with q | q
  · exact .inl ((ok.sc _ _ q).1 (by decide))
  · exact (ok.sc _ _ q).2 rfl
theorem blk_xok (ok : XOk c cf k X) {scope : Scope} {vs : List Nat} (h : blkC c.N c.sc scope (ownOf c.N vs) = true) (s : Shared) (H : Hp) (C : Addr) (cl : List (Str × Addr)) (fp : List Addr) : XOk { c with sc := scope } cf k (X.blk s H scope (compEnvC scope cl C X.env) fp) where
  N := ok.N
  nd := ok.nd
  calm := ok.calm
  room := ok.room
  kind := (blk_ok ok h).kind
  sc := fun x q hq => ⟨fun hn => lookup_relS_keep hn hq, fun hf => by
    subst hf
    have key : ∀ r, (relS scope X.env.scope).names.lookup x = some r → r = .cell ∨ r = .free := fun r hr => by
      obtain ⟨k', e1, e2⟩ := lookup_relS hr
      have hq : scope.names.lookup x = some .free := hq
      rw [hq] at e1
      cases e1
      rcases e2 with rfl | ⟨_, rfl⟩
      · exact .inr rfl
      · exact .inl rfl
    have hm : x ∈ (relS scope X.env.scope).names.map (·.1) := by
      have h1 : (x, NameKind.free) ∈ scope.names := PySem.mem_of_lookup hq
      refine List.mem_map.mpr ⟨if (NameKind.free == .free && X.env.scope.kind == .function && X.env.scope.names.lookup x == some .cell) then (x, .cell) else (x, .free), List.mem_map.mpr ⟨_, h1, rfl⟩, ?_⟩
      split <;> rfl
    have hs : ∃ r, (relS scope X.env.scope).names.lookup x = some r := by
      obtain ⟨p, hp, rfl⟩ := List.mem_map.mp hm
      exact mem_lookup hp
    obtain ⟨r, hr⟩ := hs
    show (relS scope X.env.scope).names.lookup x = _ ∨ (relS scope X.env.scope).names.lookup x = _
    rw [hr]
    rcases key r hr with rfl | rfl
    · exact .inl rfl
    · exact .inr rfl⟩
  fnc := fun x hx => by
    show (scope.names.lookup x == some .cell) = true
    have hx : scope.names.lookup x = some .cell := hx
    rw [hx]
    rfl
  gb := ok.gb
end
end L2.Mp
set_option Elab.async false
set_option linter.all false
set_option maxRecDepth 100000
set_option maxHeartbeats 4000000
namespace L2.Mp
open PySem PySem.Spec PyProof.Rows L2
section
variable {c : Ct} {cf : CF} {k : Nat} {a b d : T} {x y : Expr} {X : Cx} {F G H : Hp} {S σ : St} {e : Fm} {W : WX} {β : Type} {p : Pp β}
/-- an expression's post, its use told -/
theorem rvP {m : R Val} {kk : RV → Fm → R β} (hp : Po X F S W p G (m.rv kk)) {Q : VK}
    (hk : ∀ r e1 v H1 G1, Same G G1 → Rl KZ F G1 H1 S σ e1 → RvOk KZ F G1 H1 σ e1 v r → Po X F S W p G1 (kk r e1) → Q v H1) : Po X F S W (pE X F S σ Q) G m := by
  cases m with
  | bad => exact hp
  | rz z e1 => exact hp
  | ok v e1 =>
    cases v with
    | rv r => exact fun u H' G' s l' r' => hk r e1 u H' G' s l' r' (Po.mono s hp)
    | _ => exact hp
/-- an item comes -/
theorem itd_step {J : It} {items : List D} (it : ItD KZ G J items) {G' H' H2 : Hp} {i : Nat} {v : V} (s : Same G G') (l : Rl KZ F G' H' S σ e) (hi : i < items.length) (hy : J.yld i H' v H2) : ∃ G2, Same G' G2 ∧ Rl KZ F G2 H2 S σ e ∧ Dp KZ G2 v items[i] := by
  obtain ⟨_, _, h⟩ := it G' H' s l.g
  rcases h i items[i] v H2 (List.getElem?_eq_getElem hi) hy with ⟨rfl, dv⟩ | ⟨T, xs, ds, rfl, e1, e2, rfl, e3⟩
  · exact ⟨G', Same.refl G', l, dv⟩
  · have sm := smUpdN (o := .tup xs) (smNone l.g e2)
    refine ⟨_, sm, l.newG e2, ?_⟩
    rw [e1]
    exact .tup (.inl (.inl upd_same)) (Dp.sameAll sm _ _ e3)
theorem loop_go {J : It} {items : List D} {step : D → Fm → List D → R (List D)} {own : List Nat} {Dn : Addr} {us0 : List V} {acc0 accF : List D} {e0 eF : Fm} {B : (Hp → Prop) → V → Hp → Prop} {QD : Hp → Prop}
    (it : ItD KZ G J items) (l : Rl KZ (upd F Dn (.lst us0)) G H S (L2.wipe σ own) (wipeS own e0)) (da : DpAll KZ G us0 acc0) (hc : cLoop step items e0 acc0 = .ok accF eF)
    (turn : ∀ d e acc acc1 e1 x H' G' us (Nx : Hp → Prop), step d e acc = .ok acc1 e1 → Same G G' → Rl KZ (upd F Dn (.lst us)) G' H' S (L2.wipe σ own) (wipeS own e) → DpAll KZ G' us acc → Dp KZ G' x d →
      (∀ H2 G2 us2, Same G G2 → Rl KZ (upd F Dn (.lst us2)) G2 H2 S (L2.wipe σ own) (wipeS own e1) → DpAll KZ G2 us2 acc1 → Nx H2) → B Nx x H')
    (fin : ∀ H' G' us, Same G G' → Rl KZ (upd F Dn (.lst us)) G' H' S (L2.wipe σ own) (wipeS own eF) → DpAll KZ G' us accF → QD H') :
    ∃ W : Nat → Nat → Hp → Prop, (∃ m, W 0 m H) ∧ ∀ i m H, W i m H → (J.stop i H ∧ QD H) ∨ (J.go i H ∧ ∃ Nx : Hp → Prop, (∀ H', Nx H' → ∃ m', m' < m ∧ W (i + 1) m' H') ∧ ∀ x H', J.yld i H x H' → B Nx x H') := by
  refine ⟨fun i m H => m = items.length - i ∧ i ≤ items.length ∧ ∃ G' e' acc us, Same G G' ∧ Rl KZ (upd F Dn (.lst us)) G' H S (L2.wipe σ own) (wipeS own e') ∧ DpAll KZ G' us acc ∧ cLoop step (items.drop i) e' acc = .ok accF eF,
    ⟨items.length, rfl, Nat.zero_le _, G, e0, acc0, us0, Same.refl G, l, da, hc⟩, ?_⟩
  rintro i m H1 ⟨rfl, hi, G', e', acc, us, s', lr, da', hc'⟩
  obtain ⟨ig, is, _⟩ := it G' H1 s' lr.g
  by_cases hlt : i < items.length
  · rw [List.drop_eq_getElem_cons hlt] at hc'
    have hc' : (match step items[i] e' acc with
      | .ok acc1 e1 => cLoop step (items.drop (i + 1)) e1 acc1
      | _ => .bad) = R.ok accF eF := hc'
    cases qs : step items[i] e' acc with
    | bad => rw [qs] at hc'; cases hc'
    | rz z e1 => rw [qs] at hc'; cases hc'
    | ok acc1 e1 =>
      rw [qs] at hc'
      refine .inr ⟨ig i hlt, fun H2 => ∃ G2 us2, Same G G2 ∧ Rl KZ (upd F Dn (.lst us2)) G2 H2 S (L2.wipe σ own) (wipeS own e1) ∧ DpAll KZ G2 us2 acc1, fun H2 ⟨G2, us2, s2, l2, d2⟩ => ⟨items.length - (i + 1), by omega, rfl, hlt, G2, e1, acc1, us2, s2, l2, d2, hc'⟩, fun x H2 hy => ?_⟩
      obtain ⟨G2, s2, l2, dx⟩ := itd_step it s' lr hlt hy
      exact turn _ _ _ _ _ _ _ _ us _ qs (s'.trans s2) l2 (Dp.sameAll s2 _ _ da') dx fun H3 G3 us3 s3 l3 d3 => ⟨G3, us3, s3, l3, d3⟩
  · have ei : i = items.length := by omega
    subst ei
    rw [List.drop_length] at hc'
    cases hc'
    exact .inl ⟨is, fin H1 G' us s' lr da'⟩

/-! ### readings that hold in every such block -/
def gB (X : Cx) (scope : Scope) (tg : Expr) : TG := fun v σ H Q => ∀ s H0 C cl fp, wxG (X.blk s H0 scope (compEnvC scope cl C X.env) fp) tg v σ H Q
def tB (X : Cx) (scope : Scope) (ifs : List Expr) : TT := fun σ H Q => ∀ s H0 C cl fp, wxC (X.blk s H0 scope (compEnvC scope cl C X.env) fp) ifs σ H Q
def eB (X : Cx) (scope : Scope) (x : Expr) : TE := fun σ H Q => ∀ s H0 C cl fp, wxE (X.blk s H0 scope (compEnvC scope cl C X.env) fp) x σ H Q
def iB (X : Cx) (scope : Scope) (tg x : Expr) : TI := fun σ H Q => ∀ s H0 C cl fp, wxI (X.blk s H0 scope (compEnvC scope cl C X.env) fp) tg x σ H Q
theorem pgB {scope : Scope} {tg : Expr} (s : Shared) (H : Hp) (C : Addr) (cl : List (Str × Addr)) (fp : List Addr) : PG (X.blk s H scope (compEnvC scope cl C X.env) fp) tg (gB X scope tg) := ⟨fun pins s1 σ H1 v u Q I r h => h _ _ _ _ _ pins s1 u I r⟩
theorem ptB {scope : Scope} {ifs : List Expr} (s : Shared) (H : Hp) (C : Addr) (cl : List (Str × Addr)) (fp : List Addr) : PTs (X.blk s H scope (compEnvC scope cl C X.env) fp) ifs (tB X scope ifs) := ⟨fun pins s1 σ H1 Q I h => h _ _ _ _ _ pins s1 I⟩
theorem peB {scope : Scope} {x : Expr} (s : Shared) (H : Hp) (C : Addr) (cl : List (Str × Addr)) (fp : List Addr) : PE (X.blk s H scope (compEnvC scope cl C X.env) fp) x (eB X scope x) := ⟨fun pins s1 σ H1 Q I h => h _ _ _ _ _ pins s1 I⟩
theorem piB {scope : Scope} {tg x : Expr} (s : Shared) (H : Hp) (C : Addr) (cl : List (Str × Addr)) (fp : List Addr) : PI (X.blk s H scope (compEnvC scope cl C X.env) fp) tg x (iB X scope tg x) := ⟨fun pins s1 σ H1 Q I h => h _ _ _ _ _ pins s1 I⟩
def stepE (cf : CF) (tg cond elt : T) (own : List Nat) : D → Fm → List D → R (List D) := fun d e acc => match bindT tg d (wipeS own e) with
  | none => .bad
  | some e3 => (evC cf cond e3).bnd fun k e4 => if k = true then pushE acc (ev cf elt e4) else .ok acc e4
/-- a turn that makes one item -/
theorem turn_elt {scope : Scope} {own vs : List Nat} {tg cond elt : T} {tgx ex : Expr} {ifs : List Expr} (ok : XOk c cf k X) (hb : blkC c.N c.sc scope (ownOf c.N vs) = true) (hg : GoodG { c with sc := scope } cf k tg tgx) (ht : GoodC { c with sc := scope } cf k cond ifs) (he : GoodE { c with sc := scope } cf k elt ex)
    (hi : ∀ i ∈ idxs tg, i ∈ own) {Dn : Addr} (fD : F Dn = none) {d : D} {e e1 : Fm} {acc acc1 : List D} {v : V} {G' H' : Hp} {us : List V} {Nx : Hp → Prop} (hs : stepE cf tg cond elt own d e acc = .ok acc1 e1) (s : Same G G') (l : Rl KZ (upd F Dn (.lst us)) G' H' S (L2.wipe σ own) (wipeS own e)) (da : DpAll KZ G' us acc) (dv : Dp KZ G' v d)
    (nx : ∀ H2 G2 us2, Same G G2 → Rl KZ (upd F Dn (.lst us2)) G2 H2 S (L2.wipe σ own) (wipeS own e1) → DpAll KZ G2 us2 acc1 → Nx H2) :
    gB X scope tgx v (L2.wipe σ own) H' fun σ2 H2 => L2.wipe σ2 own = L2.wipe σ own ∧ tB X scope ifs σ2 H2 fun b H3 => if b = true then eB X scope ex σ2 H3 fun y H4 => ∃ acc, H4 Dn = some (.lst acc) ∧ acc.length < sizeLine ∧ Nx (upd H4 Dn (.lst (acc ++ [y]))) else Nx H3 := by
  unfold stepE at hs
  cases qb : bindT tg d (wipeS own e) with
  | none => rw [qb] at hs; cases hs
  | some e3 =>
    rw [qb] at hs
    dsimp only at hs
    intro s0 H0 C cl fp
    refine hg _ (blk_xok ok hb s0 H0 C cl fp) _ _ _ _ _ _ _ _ _ _ l dv qb fun σ2 ap l3 => ⟨wipe_apart ap hi, ?_⟩
    intro s0 H0 C cl fp
    refine ht _ (blk_xok ok hb s0 H0 C cl fp) _ _ _ _ _ _ _ _ takesF l3 ?_
    cases qt : evC cf cond e3 with
    | bad => rw [qt] at hs; cases hs
    | rz z e4 => rw [qt] at hs; cases hs
    | ok b e4 =>
      rw [qt] at hs
      dsimp only [R.bnd] at hs
      intro H4 G4 s4 l4
      cases b with
      | false =>
        rw [if_neg Bool.false_ne_true] at hs ⊢
        cases hs
        refine nx H4 G4 us (s.trans s4) ?_ (Dp.sameAll s4 _ _ da)
        have := l4.wipe own
        rw [wipe_apart ap hi] at this
        exact this
      | true =>
        rw [if_pos rfl] at hs ⊢
        intro s0 H0 C cl fp
        refine he _ (blk_xok ok hb s0 H0 C cl fp) _ _ _ _ _ _ _ _ takesF l4 ?_
        unfold pushE R.rv at hs
        cases qe : ev cf elt e4 with
        | bad => rw [qe] at hs; cases hs
        | rz z e5 => rw [qe] at hs; cases hs
        | ok w e5 =>
          rw [qe] at hs
          cases w with
          | rv r =>
            dsimp only at hs
            intro u H5 G5 s5 l5 r5
            cases qf : fz r e5 with
            | none => rw [qf] at hs; cases hs
            | some w2 =>
              obtain ⟨d', e6⟩ := w2
              rw [qf] at hs
              dsimp only at hs
              split at hs
              case isFalse => cases hs
              rename_i hz
              cases hs
              obtain ⟨G6, s6, l6, d6⟩ := r5.fz l5 qf
              obtain ⟨l7, hD5, gD, no⟩ := l6.drop fD
              refine ⟨us, hD5, by rw [DpAll.length da, ← line_eq]; exact hz, ?_⟩
              refine nx _ G6 (us ++ [u]) (s.trans (s4.trans (s5.trans s6))) ?_ (DpAll.append (Dp.sameAll (s4.trans (s5.trans s6)) _ _ da) (.cons d6 .nil))
              have := ((l7.chg (o := .lst (us ++ [u])) gD fD no).hold upd_same gD no).wipe own
              rw [wipe_apart ap hi] at this
              exact this
          | _ => cases hs
end
end L2.Mp
set_option Elab.async false
set_option linter.all false
set_option maxRecDepth 100000
set_option maxHeartbeats 4000000
namespace L2.Mp
open PySem PySem.Spec PyProof.Rows L2
section
variable {c : Ct} {cf : CF} {k : Nat} {src tg cond elt src2 tg2 cond2 : T} {itx tgx ex it2 tg2x : Expr} {ifs ifs2 : List Expr} {own own2 : List Nat} {X : Cx} {F G H : Hp} {S σ : St} {e : Fm} {W : WX}
/-- the walked thing of a clause is no display of a set -/
def notSet : Expr → Bool
  | .Set _ _ _ => false
  | _ => true
theorem folded {x : Expr} (h : notSet x = true) (env : Env) (v : Value) : foldedSetIterable x env v = pure v := by
  cases x <;> first | rfl | cases h
def bG (X : Cx) (scope : Scope) (own : List Nat) (tgx : Expr) (ifs : List Expr) (ex : Expr) (Dn : Addr) (σ : St) : (Hp → Prop) → V → Hp → Prop := fun Nx x H' => gB X scope tgx x (L2.wipe σ own) H' fun σ2 H2 => L2.wipe σ2 own = L2.wipe σ own ∧ tB X scope ifs σ2 H2 fun b H3 =>
  if b = true then eB X scope ex σ2 H3 fun y H4 => ∃ acc, H4 Dn = some (.lst acc) ∧ acc.length < sizeLine ∧ Nx (upd H4 Dn (.lst (acc ++ [y]))) else Nx H3
theorem ev_comp (e : Fm) : ev cf (.comp elt tg src cond own) e = (ev cf src e).dsk fun items e1 => if own.any (fun i => isOwnS e1[i]?) then .bad else
    (match cLoop (stepE cf tg cond elt own) items e1 [] with
    | .ok acc e5 => .ok (.rv (.o acc)) (backS e1 own e5)
    | _ => .bad) := rfl
theorem comp_lc {scope : Scope} (hs : GoodI c cf k src tgx itx) (hb : blkC c.N c.sc scope (ownOf c.N own) = true) (hg : GoodG { c with sc := scope } cf k tg tgx) (ht : GoodC { c with sc := scope } cf k cond ifs) (he : GoodE { c with sc := scope } cf k elt ex) (hi : ∀ i ∈ idxs tg, i ∈ own)
    (ok : XOk c cf k X) (tk : Takes X W) (l : Rl KZ F G H S σ e) {Q : VK} (hq : Po X F S W (pE X F S σ Q) G (ev cf (.comp elt tg src cond own) e)) :
    tLc (wxI X tgx itx) (gB X scope tgx) (tB X scope ifs) (eB X scope ex) own σ H Q := by
  rw [ev_comp] at hq
  refine dsI hs ok tk l hq fun items e1 J H1 G1 s1 l1 it hp => ?_
  intro Dn hD
  split at hp
  case isTrue => exact hp.elim
  rename_i hv
  have hv : own.any (fun i => isOwnS e1[i]?) = false := by simpa using hv
  cases qc : cLoop (stepE cf tg cond elt own) items e1 [] with
  | bad => rw [qc] at hp; exact hp.elim
  | rz z e5 => rw [qc] at hp; exact hp.elim
  | ok accF eF =>
    rw [qc] at hp
    have fD : F Dn = none := smNone l1.f hD
    have gD : G1 Dn = none := smNone l1.g hD
    have l2 := ((l1.newH (o := .lst []) hD).hold upd_same gD (l1.ownNe hD))
    refine loop_go (B := bG X scope own tgx ifs ex Dn σ) it (l2.wipe own) .nil qc (fun d e acc acc1 e2 x H' G' us Nx qs s l3 da dv nx => turn_elt ok hb hg ht he hi fD qs s l3 da dv nx) fun H' G' us s' l3 da => ?_
    have l4 := ((l1.newH (o := .lst us) hD).hold upd_same gD (l1.ownNe hD))
    obtain ⟨l6, hD5, gD', no⟩ := (Rl.back l4 s' l3 hv).drop fD
    exact hp (.ref Dn) H' G' s' l6 ⟨Dn, us, rfl, hD5, gD', fD, no, da⟩
theorem good_comp {scope : Scope} {pos : Pos} (hs : GoodI c cf k src tgx itx) (hb : blkC c.N c.sc scope (ownOf c.N own) = true) (hg : GoodG { c with sc := scope } cf k tg tgx) (ht : GoodC { c with sc := scope } cf k cond ifs) (he : GoodE { c with sc := scope } cf k elt ex) (hi : ∀ i ∈ idxs tg, i ∈ own) (hn : notSet itx = true) :
    GoodE c cf k (.comp elt tg src cond own) (.ListComp ex [⟨tgx, itx, ifs, 0⟩] scope pos) := by
  intro X ok F G H S σ e Q W tk l hq
  have h := comp_lc hs hb hg ht he hi ok tk l hq
  have r := pe_lc (pos := pos) ok.calm ok.nd' (pi_w (tg := tgx) (x := itx)) (blk_ok ok hb) (pgB (X := X)) (ptB (ifs := ifs)) (peB (x := ex)) (folded hn X.env)
  rw [ownOf_ix] at r
  exact ofE r h

/-! ### two clauses -/
def stepO (cf : CF) (tg cond src2 tg2 cond2 elt : T) (own own2 : List Nat) : D → Fm → List D → R (List D) := fun d e acc => match bindT tg d (wipeS own e) with
  | none => .bad
  | some e3 => (evC cf cond e3).bnd fun k e4 => if k = true then (ev cf src2 e4).dsk fun items2 e5 => cLoop (stepE cf tg2 cond2 elt own2) items2 e5 acc else .ok acc e4
theorem ev_comp2 (e : Fm) : ev cf (.comp2 elt tg src cond tg2 src2 cond2 own own2) e = (ev cf src e).dsk fun items e1 => if own.any (fun i => isOwnS e1[i]?) then .bad else
    (match cLoop (stepO cf tg cond src2 tg2 cond2 elt own own2) items e1 [] with
    | .ok acc e5 => .ok (.rv (.o acc)) (backS e1 own e5)
    | _ => .bad) := rfl
theorem wipe_two {σ : St} (h : ∀ i ∈ own2, i ∈ own) : L2.wipe (L2.wipe σ own2) own = L2.wipe σ own := wipe_eq (wipe_length σ own2) fun j hj => wipe_keep fun z => hj (h j z)
theorem wipeS_in {j : Nat} : ∀ {vs : List Nat} {e : Fm}, j ∈ vs → j < e.length → (wipeS vs e)[j]? = some .no
  | v :: vs, e, h, hl => by
    show ((wipeS vs e).set v .no)[j]? = _
    by_cases hv : v = j
    · subst hv
      rw [List.getElem?_set_self (by rw [wipeS_len]; exact hl)]
    · rw [List.getElem?_set_ne hv]
      rcases List.mem_cons.mp h with z | z
      · exact absurd z.symm hv
      · exact wipeS_in z hl
theorem wipeS_two {e : Fm} (h : ∀ i ∈ own2, i ∈ own) : wipeS own (wipeS own2 e) = wipeS own e := by
  refine List.ext_getElem? fun j => ?_
  by_cases hj : j ∈ own
  · by_cases hb : j < e.length
    · rw [wipeS_in hj hb, wipeS_in hj (by rw [wipeS_len]; exact hb)]
    · rw [List.getElem?_eq_none (by rw [wipeS_len, wipeS_len]; omega), List.getElem?_eq_none (by rw [wipeS_len]; omega)]
  · rw [wipeS_out hj, wipeS_out hj, wipeS_out fun z => hj (h j z)]
def bO (X : Cx) (scope : Scope) (own own2 : List Nat) (tgx : Expr) (ifs : List Expr) (it2 tg2x : Expr) (ifs2 : List Expr) (ex : Expr) (Dn : Addr) (σ : St) : (Hp → Prop) → V → Hp → Prop := fun Nx x H' => gB X scope tgx x (L2.wipe σ own) H' fun σ2 H2 => L2.wipe σ2 own = L2.wipe σ own ∧ tB X scope ifs σ2 H2 fun b H3 =>
    if b = true then iB X scope tg2x it2 σ2 H3 fun J1 H4 => ∃ W1 : Nat → Nat → Hp → Prop, (∃ m, W1 0 m H4) ∧ ∀ j k H, W1 j k H → (J1.stop j H ∧ Nx H) ∨ (J1.go j H ∧ ∃ Nx1 : Hp → Prop, (∀ H', Nx1 H' → ∃ k', k' < k ∧ W1 (j + 1) k' H') ∧ ∀ x H', J1.yld j H x H' → bG X scope own2 tg2x ifs2 ex Dn σ2 Nx1 x H')
    else Nx H3
theorem comp2_lc {scope : Scope} (hs : GoodI c cf k src tgx itx) (hb : blkC c.N c.sc scope (ownOf c.N own) = true) (hg : GoodG { c with sc := scope } cf k tg tgx) (ht : GoodC { c with sc := scope } cf k cond ifs) (hs2 : GoodI { c with sc := scope } cf k src2 tg2x it2) (hg2 : GoodG { c with sc := scope } cf k tg2 tg2x) (ht2 : GoodC { c with sc := scope } cf k cond2 ifs2)
    (he : GoodE { c with sc := scope } cf k elt ex) (hi : ∀ i ∈ idxs tg, i ∈ own) (hi2 : ∀ i ∈ idxs tg2, i ∈ own2) (hv2 : ∀ i ∈ own2, i ∈ own) (ok : XOk c cf k X) (tk : Takes X W) (l : Rl KZ F G H S σ e) {Q : VK} (hq : Po X F S W (pE X F S σ Q) G (ev cf (.comp2 elt tg src cond tg2 src2 cond2 own own2) e)) :
    tLc2 (wxI X tgx itx) (gB X scope tgx) (tB X scope ifs) (iB X scope tg2x it2) (gB X scope tg2x) (tB X scope ifs2) (eB X scope ex) own own2 σ H Q := by
  rw [ev_comp2] at hq
  refine dsI hs ok tk l hq fun items e1 J H1 G1 s1 l1 it hp => ?_
  intro Dn hD
  split at hp
  case isTrue => exact hp.elim
  rename_i hv
  have hv : own.any (fun i => isOwnS e1[i]?) = false := by simpa using hv
  cases qc : cLoop (stepO cf tg cond src2 tg2 cond2 elt own own2) items e1 [] with
  | bad => rw [qc] at hp; exact hp.elim
  | rz z e5 => rw [qc] at hp; exact hp.elim
  | ok accF eF =>
    rw [qc] at hp
    have fD : F Dn = none := smNone l1.f hD
    have gD : G1 Dn = none := smNone l1.g hD
    have l2 := ((l1.newH (o := .lst []) hD).hold upd_same gD (l1.ownNe hD))
    refine loop_go (B := bO X scope own own2 tgx ifs it2 tg2x ifs2 ex Dn σ) it (l2.wipe own) .nil qc (fun d e acc acc1 e2 x H' G' us Nx qs s l3 da dv nx => ?_) fun H' G' us s' l3 da => ?_
    · unfold stepO at qs
      cases qb : bindT tg d (wipeS own e) with
      | none => rw [qb] at qs; cases qs
      | some e3 =>
        rw [qb] at qs
        dsimp only at qs
        intro s0 H0 C cl fp
        refine hg _ (blk_xok ok hb s0 H0 C cl fp) _ _ _ _ _ _ _ _ _ _ l3 dv qb fun σ2 ap l4 => ⟨wipe_apart ap hi, ?_⟩
        intro s0 H0 C cl fp
        refine ht _ (blk_xok ok hb s0 H0 C cl fp) _ _ _ _ _ _ _ _ takesF l4 ?_
        cases qt : evC cf cond e3 with
        | bad => rw [qt] at qs; cases qs
        | rz z e4 => rw [qt] at qs; cases qs
        | ok b e4 =>
          rw [qt] at qs
          dsimp only [R.bnd] at qs
          intro H4 G4 s4 l5
          cases b with
          | false =>
            rw [if_neg Bool.false_ne_true] at qs ⊢
            cases qs
            refine nx H4 G4 us (s.trans s4) ?_ (Dp.sameAll s4 _ _ da)
            have := l5.wipe own
            rw [wipe_apart ap hi] at this
            exact this
          | true =>
            rw [if_pos rfl] at qs ⊢
            intro s0 H0 C cl fp
            refine hs2 _ (blk_xok ok hb s0 H0 C cl fp) _ _ _ _ _ _ _ _ takesF l5 ?_
            unfold R.dsk at qs
            cases qe : ev cf src2 e4 with
            | bad => rw [qe] at qs; cases qs
            | rz z e5 => rw [qe] at qs; cases qs
            | ok w e5 =>
              rw [qe] at qs
              cases w with
              | ds items2 =>
                dsimp only at qs
                intro J1 H5 G5 s5 l6 it2
                have da5 := Dp.sameAll (s4.trans s5) _ _ da
                refine loop_go (B := bG X scope own2 tg2x ifs2 ex Dn σ2) it2 (l6.wipe own2) da5 qs (fun d e acc acc1 e2 x H' G' us Nx qs s l3 da dv nx => turn_elt ok hb hg2 ht2 he hi2 fD qs s l3 da dv nx) fun H6 G6 us6 s6 l7 d6 => ?_
                refine nx H6 G6 us6 (s.trans (s4.trans (s5.trans s6))) ?_ d6
                have := l7.wipe own
                rw [wipe_two hv2, wipeS_two hv2, wipe_apart ap hi] at this
                exact this
              | _ => cases qs
    · have l4 := ((l1.newH (o := .lst us) hD).hold upd_same gD (l1.ownNe hD))
      obtain ⟨l6, hD5, gD', no⟩ := (Rl.back l4 s' l3 hv).drop fD
      exact hp (.ref Dn) H' G' s' l6 ⟨Dn, us, rfl, hD5, gD', fD, no, da⟩
theorem good_comp2 {scope : Scope} {pos : Pos} (hs : GoodI c cf k src tgx itx) (hb : blkC c.N c.sc scope (ownOf c.N own) = true) (hg : GoodG { c with sc := scope } cf k tg tgx) (ht : GoodC { c with sc := scope } cf k cond ifs) (hs2 : GoodI { c with sc := scope } cf k src2 tg2x it2) (hg2 : GoodG { c with sc := scope } cf k tg2 tg2x) (ht2 : GoodC { c with sc := scope } cf k cond2 ifs2)
    (he : GoodE { c with sc := scope } cf k elt ex) (hi : ∀ i ∈ idxs tg, i ∈ own) (hi2 : ∀ i ∈ idxs tg2, i ∈ own2) (hv2 : ∀ i ∈ own2, i ∈ own) (hn : notSet itx = true) (hn2 : notSet it2 = true) :
    GoodE c cf k (.comp2 elt tg src cond tg2 src2 cond2 own own2) (.ListComp ex [⟨tgx, itx, ifs, 0⟩, ⟨tg2x, it2, ifs2, 0⟩] scope pos) := by
  intro X ok F G H S σ e Q W tk l hq
  have h := comp2_lc hs hb hg ht hs2 hg2 ht2 he hi hi2 hv2 ok tk l hq
  have r := pe_lc2 (pos := pos) (vs1 := own2) ok.calm ok.nd' (pi_w (tg := tgx) (x := itx)) (blk_ok ok hb) (by rw [ownOf_ix]; exact hv2) (pgB (X := X)) (ptB (ifs := ifs)) (piB (X := X) (tg := tg2x)) (pgB (X := X) (tg := tg2x)) (ptB (ifs := ifs2)) (peB (x := ex)) (folded hn X.env) (folded hn2)
  rw [ownOf_ix] at r
  exact ofE r h
end
end L2.Mp
set_option Elab.async false
set_option linter.all false
set_option maxRecDepth 100000
set_option maxHeartbeats 4000000
namespace L2.Mp
open PySem PySem.Spec PyProof.Rows L2
section
variable {c : Ct} {cf : CF} {k : Nat} {a b d src body : T} {x y tgx itx : Expr} {X : Cx} {F G H : Hp} {S σ : St} {e : Fm} {W : WX} {pos pos' : Pos}

/-! ### targets -/
theorem Apart.refl {vs : List Nat} {σ : St} : Apart vs σ σ := ⟨rfl, fun _ _ => rfl⟩
theorem Apart.one {i : Nat} {σ : St} {o : Option V} : Apart [i] σ (σ.set i o) := ⟨List.length_set .., fun j hj => List.getElem?_set_ne fun z => hj (by rw [z]; exact List.mem_cons_self)⟩
theorem Apart.trans {vs us : List Nat} {σ σ' σ'' : St} (h : Apart vs σ σ') (h' : Apart us σ' σ'') : Apart (vs ++ us) σ σ'' := ⟨h'.1.trans h.1, fun i hi => (h'.2 i fun z => hi (List.mem_append_right _ z)).trans (h.2 i fun z => hi (List.mem_append_left _ z))⟩
theorem tgt_name {i : Nat} {n : Str} (hN : c.N[i]? = some n) (hl : locB c.sc n = true) : GoodG c cf k (.tN i) (.Name n pos) := by
  intro X ok F G H S σ e v d e' Q l dv hb hq
  obtain ⟨h1, h2⟩ := ok.loc hl
  refine ofG (pg_name ok.nd' (ok.at hN) h1 h2) ?_
  have hb : (match e[i]? with
    | some (.own true _) => none
    | some _ => some (e.set i (.val d))
    | none => none) = some e' := hb
  split at hb
  · cases hb
  · cases hb
    exact hq _ Apart.one (l.setVal dv)
  · cases hb
theorem tgts_nil : GoodGs c cf k .nil [] := by
  intro X ok F G H S σ e vs ds e' Q l dv hb hq
  cases dv with
  | nil =>
    cases hb
    exact ofGs pgs_nil ⟨rfl, hq σ Apart.refl l⟩
  | cons _ _ => cases hb
theorem assign_cons {xs : List Expr} {env : Env} (h : isStar x = false) : assignEach (x :: xs) env = (false, assign x env) :: assignEach xs env := by
  cases x <;> first | rfl | cases h
theorem assign_len {env : Env} : ∀ {xs : List Expr}, (∀ z ∈ xs, isStar z = false) → (assignEach xs env).length = xs.length ∧ (assignEach xs env).findIdx? (·.1) = none
  | [], _ => ⟨rfl, rfl⟩
  | x :: xs, h => by
    obtain ⟨h1, h2⟩ := assign_len (env := env) fun z hz => h z (List.mem_cons_of_mem _ hz)
    rw [assign_cons (h x List.mem_cons_self)]
    refine ⟨congrArg (· + 1) h1, ?_⟩
    rw [List.findIdx?_cons]
    simp [h2]
theorem tgts_cons {xs : List Expr} (ha : GoodG c cf k a x) (hb : GoodGs c cf k b xs) (hs : isStar x = false) : GoodGs c cf k (.cons a b) (x :: xs) := by
  intro X ok F G H S σ e vs ds e' Q l dv hbd hq
  cases dv with
  | nil => cases hbd
  | @cons v vs d ds h1 h2 =>
    have hbd : (match bindT a d e with
      | some e1 => bindTs b ds e1
      | none => none) = some e' := hbd
    cases q : bindT a d e with
    | none => rw [q] at hbd; cases hbd
    | some e1 =>
      rw [q] at hbd
      refine ofGs (pgs_cons (pg_w (tg := x)) (pgs_w (es := xs)) (by rw [assign_cons hs]; rfl)) ⟨v, vs, rfl, ?_⟩
      refine ha X ok F G H S σ e v d e1 _ l h1 q fun σ1 ap1 l1 => ?_
      exact hb X ok F G H S σ1 e1 vs ds e' _ l1 h2 hbd fun σ2 ap2 l2 => hq σ2 (ap1.trans ap2) l2
theorem pg_or {tg : Expr} {t u : TG} (h : PG X tg t) (h' : PG X tg u) : PG X tg (fun v σ H Q => t v σ H Q ∨ u v σ H Q) := ⟨fun pins s σ H v w Q I r q => q.elim (fun q => h.run pins s σ H v w Q I r q) fun q => h'.run pins s σ H v w Q I r q⟩
theorem tgt_tup {xs : List Expr} {j : Nat} (ha : GoodGs c cf k a xs) (hs : ∀ z ∈ xs, isStar z = false) (hn : ∀ ds e e', bindTs a ds e = some e' → ds.length = xs.length) : GoodG c cf k (.tT a) (.Tuple xs j pos) := by
  intro X ok F G H S σ e v d e' Q l dv hb hq
  obtain ⟨h1, h2⟩ := assign_len (env := X.env) hs
  refine ofG (pg_or (pg_tup (pos := pos) (k := j) ok.calm (pgs_w (es := xs)) h1 h2) (pg_lst (pos := pos) (k := j) ok.calm (pgs_w (es := xs)) h1 h2)) ?_
  cases d with
  | tuple ds =>
    cases dv with
    | tup h3 h4 => exact .inl ⟨_, _, rfl, .inl (Rd.same l.g (rt_of h3)), (DpAll.length h4).trans (hn ds e e' hb), ha X ok F G H S σ e _ ds e' Q l h4 hb hq⟩
  | list ds =>
    cases dv with
    | lst h3 h4 => exact .inr ⟨_, _, rfl, .inl (Rd.same l.g (rd_of h3)), (DpAll.length h4).trans (hn ds e e' hb), ha X ok F G H S σ e _ ds e' Q l h4 hb hq⟩
  | _ => cases hb

/-! ### statements -/
theorem st_never {st : Stmt} : GoodS c cf k .never st := fun X ok hp F G H S σ e E W tk l hq => hq.elim
theorem ex_never : GoodE c cf k .never x := fun X ok F G H S σ e Q W tk l hq => hq.elim
theorem st_done : GoodB c cf k .done [] := fun X ok hp F G H S σ e E W tk l hq => ofB pss_nil (hq σ H G (Same.refl G) l)
theorem st_seq {st : Stmt} {sts : List Stmt} (ha : GoodS c cf k a st) (hb : GoodB c cf k b sts) : GoodB c cf k (.seq a b) (st :: sts) := by
  intro X ok hp F G H S σ e E W tk l hq
  refine ofB (pss_cons (ps_w (st := st)) (pss_w (sts := sts))) ?_
  refine ha X ok hp F G H S σ e { E with nx := wxB X sts E } W tk l ?_
  have hq : Po X F S W (pS X F S E) G (match ev cf a e with
    | .ok (.fl .nx) e1 => ev cf b e1
    | r => r) := hq
  cases q : ev cf a e with
  | bad => rw [q] at hq; exact hq
  | rz z e1 => rw [q] at hq; exact hq
  | ok v e1 =>
    rw [q] at hq
    cases v with
    | fl f =>
      cases f with
      | nx => exact fun σ' H' G' s' l' => hb X ok hp F G' H' S σ' e1 E W tk l' (Po.mono s' hq)
      | _ => exact hq
    | _ => exact hq
theorem st_if {t u : List Stmt} (hc : GoodT c cf k d x) (ha : GoodB c cf k a t) (hb : GoodB c cf k b u) : GoodS c cf k (.ifS d a b) (.If x t u pos) := by
  intro X ok hp F G H S σ e E W tk l hq
  refine ofS (ps_if pt_w pss_w pss_w) ?_
  refine bndT hc ok tk l hq fun q e1 H1 G1 s1 l1 hp1 => ?_
  cases q with
  | true =>
    rw [if_pos rfl] at hp1 ⊢
    exact ha X ok hp F G1 H1 S σ e1 E W tk l1 hp1
  | false =>
    rw [if_neg Bool.false_ne_true] at hp1 ⊢
    exact hb X ok hp F G1 H1 S σ e1 E W tk l1 hp1
theorem st_ret (ha : GoodE c cf k a x) : GoodS c cf k (.ret a) (.Return (some x) pos) := by
  intro X ok hp F G H S σ e E W tk l hq
  refine ofS (ps_ret pe_w) ?_
  refine rvE ha ok tk l hq fun r e1 v H1 G1 s1 l1 r1 hp1 => ?_
  cases r with
  | v d => exact hp1 σ v H1 G1 (Same.refl G1) l1 r1
  | o ds => exact hp1 σ v H1 G1 (Same.refl G1) l1 r1
  | b i =>
    have r1 : σ[i]? = some (some v) := r1
    dsimp only at hp1
    cases q : e1[i]? with
    | none => rw [q] at hp1; exact hp1.elim
    | some w =>
      rw [q] at hp1
      cases w with
      | no => exact hp1.elim
      | val d =>
        obtain ⟨u, h1, h2⟩ := l1.val i d q
        rw [r1] at h1
        cases h1
        exact hp1 σ v H1 G1 (Same.refl G1) l1 h2
      | own io ds =>
        cases io with
        | true => exact hp1.elim
        | false =>
          obtain ⟨p, us, h1, h2, h3, h4, h5, _⟩ := l1.own i false ds q
          rw [r1] at h1
          cases h1
          refine hp1 σ _ H1 G1 (Same.refl G1) (l1.forget i) ⟨p, us, rfl, h2, h3, h4, fun j jo es hj hs => ?_, h5⟩
          rcases get_set hj with ⟨_, z, _⟩ | ⟨ne, hj⟩
          · cases z
          · exact ne (l1.inj j i jo false es ds p hj q hs r1)
theorem st_ret0 : GoodS c cf k (.ret (.const .none)) (.Return none pos) := by
  intro X ok hp F G H S σ e E W tk l hq
  exact ofS ps_retN (hq σ .non H G (Same.refl G) l .non)
def notComp : Expr → Bool
  | .ListComp _ _ _ _ => false
  | .SetComp _ _ _ _ => false
  | .DictComp _ _ _ _ _ => false
  | _ => true
theorem sw_none {t : Option Expr} {ln : Nat} {env : Env} (h : notComp x = true) : swapsWith x t ln env = pure false := by
  cases x <;> first | rfl | cases h
theorem st_expr (ha : GoodE c cf k a x) (hn : notComp x = true) : GoodS c cf k (.expr a) (.Expr x pos) := by
  intro X ok hp F G H S σ e E W tk l hq
  refine ofS (ps_expr pe_w (sw_none hn)) ?_
  refine rvE ha ok tk l hq fun r e1 v H1 G1 s1 l1 r1 hp1 => ?_
  exact hp1 σ H1 G1 (Same.refl G1) l1
end
end L2.Mp
set_option Elab.async false
set_option linter.all false
set_option maxRecDepth 100000
set_option maxHeartbeats 4000000
namespace L2.Mp
open PySem PySem.Spec PyProof.Rows L2
section
variable {c : Ct} {cf : CF} {k : Nat} {a b d src body tg cond elt : T} {x y tgx itx ex : Expr} {ifs : List Expr} {own : List Nat} {X : Cx} {F G H : Hp} {S σ : St} {e : Fm} {W : WX} {pos pos' py : Pos}

/-! ### what an assignment turns on -/
def noSwap : Expr → Expr → Bool
  | .Tuple _ _ _, .Tuple _ _ _ => false
  | .List _ _, .Tuple _ _ _ => false
  | _, _ => true
theorem no_swap {tg v : Expr} (h : noSwap tg v = true) (env : Env) : swappedStores [tg] v env = pure none := by
  unfold swappedStores
  cases v <;> first | (cases tg <;> rfl) | (cases tg <;> first | rfl | cases h)
theorem sw_val {gs : List Comprehension} {scope : Scope} {n : Str} {l : Nat} {env : Env} (hk : env.scope.kind = .function) :
    swapsWith (.ListComp ex gs scope pos) (some (.Name n py)) l env = pure (env.kindOf n == some .local && py.line == pos.line && !(scope.names.any fun (m, q) => m == n && (q == .local || q == .cell))) := by
  have hb : env.blockKind = .function := by unfold Env.blockKind; rw [hk]; rfl
  unfold swapsWith
  simp only [hb, Expr.pos]
  rfl
/-- a slot gets an expression's outcome -/
def keepTo (i : Nat) (r : RV) (e1 : Fm) : R Val := match e1[i]? with
  | some (.own true _) => .bad
  | none => .bad
  | some _ => (match r with
    | .o ds => .ok (.fl .nx) (e1.set i (.own false ds))
    | _ => (match fz r e1 with
      | some (d, e2) => .ok (.fl .nx) (e2.set i (.val d))
      | none => .bad))
theorem ev_asgN (i : Nat) (a : T) (e : Fm) : ev cf (.asg (.tN i) a) e = (ev cf a e).rv fun r e1 => keepTo i r e1 := rfl
theorem keep_ok {i : Nat} {r : RV} {v : V} {E : Ends} (l : Rl KZ F G H S σ e) (r1 : RvOk KZ F G H σ e v r) (hp : Po X F S W (pS X F S E) G (keepTo i r e)) : E.nx (σ.set i (some v)) H := by
  unfold keepTo at hp
  split at hp
  · exact hp.elim
  · exact hp.elim
  · have other : (match fz r e with
      | some (d, e2) => R.ok (Val.fl .nx) (e2.set i (.val d))
      | none => .bad) = (match fz r e with
      | some (d, e2) => R.ok (Val.fl .nx) (e2.set i (.val d))
      | none => .bad) := rfl
    have vals : Po X F S W (pS X F S E) G (match fz r e with
      | some (d, e2) => R.ok (Val.fl .nx) (e2.set i (.val d))
      | none => .bad) → E.nx (σ.set i (some v)) H := fun hp => by
      cases q : fz r e with
      | none => rw [q] at hp; exact hp.elim
      | some w =>
        obtain ⟨d, e2⟩ := w
        rw [q] at hp
        obtain ⟨G2, s2, l2, d2⟩ := r1.fz l q
        exact (Po.mono s2 hp) _ H G2 (Same.refl G2) (l2.setVal d2)
    cases r with
    | v d => exact vals hp
    | b j => exact vals hp
    | o ds =>
      obtain ⟨p, us, rfl, h1, h2, h3, h4, h5⟩ := r1
      exact hp _ H G (Same.refl G) (l.setOwn h1 h2 h3 h4 h5)
theorem sole {t v : Expr} {ln : Nat} {env : Env} {q : Bool} (h : swapsWith v (some t) ln env = pure q) : swapsWithSole [t] v ln env = pure q := h
theorem st_asgN {i : Nat} {n : Str} {ln : Pos} (ha : GoodE c cf k a x) (hN : c.N[i]? = some n) (hl : locB c.sc n = true) (hn : notComp x = true) : GoodS c cf k (.asg (.tN i) a) (.Assign [.Name n pos] x ln) := by
  intro X ok hp F G H S σ e E W tk l hq
  obtain ⟨h1, h2⟩ := ok.loc hl
  refine ofS (ps_asg pe_w (pg_name (pos := pos) ok.nd' (ok.at hN) h1 h2) (sole (sw_none hn)) (no_swap (by cases x <;> rfl) X.env) rfl) ?_
  rw [ev_asgN] at hq
  exact rvE ha ok tk l hq fun r e1 v H1 G1 s1 l1 r1 hp1 => keep_ok l1 r1 hp1
/-- name = [..] -/
def swB (sc scope : Scope) (n : Str) (py pos : Pos) : Bool := (match sc.names.lookup n with
    | some .local => true
    | _ => false) && py.line == pos.line && !(scope.names.any fun (m, q) => m == n && (q == .local || q == .cell))
theorem loc_kind (ok : XOk c cf k X) {n : Str} (hl : locB c.sc n = true) : (X.env.kindOf n == some .local) = (match c.sc.names.lookup n with
    | some .local => true
    | _ => false) := by
  unfold locB at hl
  show (X.env.scope.names.lookup n == some .local) = _
  cases q : c.sc.names.lookup n with
  | none => rw [q] at hl; cases hl
  | some z =>
    rw [q] at hl
    obtain ⟨h1, _⟩ := ok.sc n z q
    cases z with
    | «local» => rw [h1 (by decide)]; rfl
    | cell => rw [h1 (by decide)]; rfl
    | _ => cases hl
theorem sw_is (ok : XOk c cf k X) {n : Str} (hl : locB c.sc n = true) {gs : List Comprehension} {scope : Scope} {l : Nat} : swapsWith (.ListComp ex gs scope pos) (some (.Name n py)) l X.env = pure (swB c.sc scope n py pos) := by
  rw [sw_val ok.kind, loc_kind ok hl]
  rfl
theorem sw_local (ok : XOk c cf k X) {n : Str} {scope : Scope} (h : swB c.sc scope n py pos = true) : X.env.scope.names.lookup n = some .local := by
  unfold swB at h
  simp only [Bool.and_eq_true] at h
  cases q : c.sc.names.lookup n with
  | none => rw [q] at h; cases h.1.1
  | some z =>
    rw [q] at h
    cases z with
    | «local» => exact (ok.sc n _ q).1 (by decide)
    | _ => cases h.1.1
theorem st_asgC {i : Nat} {n : Str} {ln : Pos} {scope : Scope} (hN : c.N[i]? = some n) (hl : locB c.sc n = true) (hs : GoodI c cf k src tgx itx) (hb : blkC c.N c.sc scope (ownOf c.N own) = true) (hg : GoodG { c with sc := scope } cf k tg tgx) (ht : GoodC { c with sc := scope } cf k cond ifs) (he : GoodE { c with sc := scope } cf k elt ex)
    (hi : ∀ i ∈ idxs tg, i ∈ own) (hn : notSet itx = true) : GoodS c cf k (.asg (.tN i) (.comp elt tg src cond own)) (.Assign [.Name n py] (.ListComp ex [⟨tgx, itx, ifs, 0⟩] scope pos) ln) := by
  intro X ok hp F G H S σ e E W tk l hq
  rw [ev_asgN] at hq
  obtain ⟨h1, h2⟩ := ok.loc hl
  cases q : swB c.sc scope n py pos with
  | false =>
    refine ofS (ps_asg pe_w (pg_name (pos := py) ok.nd' (ok.at hN) h1 h2) (sole ((sw_is (l := ln.line) ok hl).trans (by rw [q]))) (no_swap rfl X.env) rfl) ?_
    exact rvE (good_comp hs hb hg ht he hi hn) ok tk l hq fun r e1 v H1 G1 s1 l1 r1 hp1 => keep_ok l1 r1 hp1
  | true =>
    have h := comp_lc hs hb hg ht he hi ok tk l (rvP hq (Q := fun v H1 => E.nx (σ.set i (some v)) H1) fun r e1 v H1 G1 s1 l1 r1 hp1 => keep_ok l1 r1 hp1)
    have r := ps_setLc (py := py) (pos := pos) (spos := ln) ok.calm ok.nd' (ok.at hN) (sw_local ok q) ((sw_is ok hl).trans (by rw [q])) (pi_w (tg := tgx) (x := itx)) (blk_ok ok hb) (pgB (X := X)) (ptB (ifs := ifs)) (peB (x := ex)) (folded hn X.env)
    rw [ownOf_ix] at r
    exact ofS r h
theorem st_asgC2 {i : Nat} {n : Str} {ln : Pos} {scope : Scope} {src2 tg2 cond2 : T} {it2 tg2x : Expr} {ifs2 : List Expr} {own2 : List Nat} (hN : c.N[i]? = some n) (hl : locB c.sc n = true) (hs : GoodI c cf k src tgx itx) (hb : blkC c.N c.sc scope (ownOf c.N own) = true) (hg : GoodG { c with sc := scope } cf k tg tgx) (ht : GoodC { c with sc := scope } cf k cond ifs)
    (hs2 : GoodI { c with sc := scope } cf k src2 tg2x it2) (hg2 : GoodG { c with sc := scope } cf k tg2 tg2x) (ht2 : GoodC { c with sc := scope } cf k cond2 ifs2) (he : GoodE { c with sc := scope } cf k elt ex)
    (hi : ∀ i ∈ idxs tg, i ∈ own) (hi2 : ∀ i ∈ idxs tg2, i ∈ own2) (hv2 : ∀ i ∈ own2, i ∈ own) (hn : notSet itx = true) (hn2 : notSet it2 = true) :
    GoodS c cf k (.asg (.tN i) (.comp2 elt tg src cond tg2 src2 cond2 own own2)) (.Assign [.Name n py] (.ListComp ex [⟨tgx, itx, ifs, 0⟩, ⟨tg2x, it2, ifs2, 0⟩] scope pos) ln) := by
  intro X ok hp F G H S σ e E W tk l hq
  rw [ev_asgN] at hq
  obtain ⟨h1, h2⟩ := ok.loc hl
  cases q : swB c.sc scope n py pos with
  | false =>
    refine ofS (ps_asg pe_w (pg_name (pos := py) ok.nd' (ok.at hN) h1 h2) (sole ((sw_is (l := ln.line) ok hl).trans (by rw [q]))) (no_swap rfl X.env) rfl) ?_
    exact rvE (good_comp2 hs hb hg ht hs2 hg2 ht2 he hi hi2 hv2 hn hn2) ok tk l hq fun r e1 v H1 G1 s1 l1 r1 hp1 => keep_ok l1 r1 hp1
  | true =>
    have h := comp2_lc hs hb hg ht hs2 hg2 ht2 he hi hi2 hv2 ok tk l (rvP hq (Q := fun v H1 => E.nx (σ.set i (some v)) H1) fun r e1 v H1 G1 s1 l1 r1 hp1 => keep_ok l1 r1 hp1)
    have r := ps_setLc2 (py := py) (pos := pos) (spos := ln) (vs1 := own2) ok.calm ok.nd' (ok.at hN) (sw_local ok q) ((sw_is ok hl).trans (by rw [q])) (pi_w (tg := tgx) (x := itx)) (blk_ok ok hb) (by rw [ownOf_ix]; exact hv2) (pgB (X := X)) (ptB (ifs := ifs)) (piB (X := X) (tg := tg2x)) (pgB (X := X) (tg := tg2x)) (ptB (ifs := ifs2)) (peB (x := ex)) (folded hn X.env) (folded hn2)
    rw [ownOf_ix] at r
    exact ofS r h
/-- a, b = e -/
theorem st_asgT {xs : List Expr} {j : Nat} {ln : Pos} (ha : GoodE c cf k a x) (hg : GoodG c cf k (.tT b) (.Tuple xs j pos)) (hw : ∀ X, XOk c cf k X → swappedStores [.Tuple xs j pos] x X.env = pure none) : GoodS c cf k (.asg (.tT b) a) (.Assign [.Tuple xs j pos] x ln) := by
  intro X ok hp F G H S σ e E W tk l hq
  refine ofS (ps_asg pe_w (pg_w (tg := .Tuple xs j pos)) (by cases x <;> rfl) (hw X ok) rfl) ?_
  have hq : Po X F S W (pS X F S E) G ((ev cf a e).rv fun r e1 => (match fz r e1 with
    | some (d, e2) => (match bindT (.tT b) d e2 with
      | some e3 => .ok (.fl .nx) e3
      | none => .bad)
    | none => .bad)) := hq
  refine rvE ha ok tk l hq fun r e1 v H1 G1 s1 l1 r1 hp1 => ?_
  cases q : fz r e1 with
  | none => rw [q] at hp1; exact hp1.elim
  | some w =>
    obtain ⟨dd, e2⟩ := w
    rw [q] at hp1
    dsimp only at hp1
    obtain ⟨G2, s2, l2, d2⟩ := r1.fz l1 q
    cases q2 : bindT (.tT b) dd e2 with
    | none => rw [q2] at hp1; exact hp1.elim
    | some e3 =>
      rw [q2] at hp1
      exact hg X ok F G2 H1 S σ e2 v dd e3 _ l2 d2 q2 fun σ' _ l3 => (Po.mono s2 hp1) σ' H1 G2 (Same.refl G2) l3
end
end L2.Mp
set_option Elab.async false
set_option linter.all false
set_option maxRecDepth 100000
set_option maxHeartbeats 4000000
namespace L2.Mp
open PySem PySem.Spec PyProof.Rows L2
section
variable {c : Ct} {cf : CF} {k : Nat} {a b d src body tg cond elt : T} {x y tgx itx ex : Expr} {ifs : List Expr} {own : List Nat} {X : Cx} {F G H : Hp} {S σ : St} {e : Fm} {W : WX} {pos pos' py : Pos}

/-! ### two stores at once -/
theorem fz_nf {r : RV} (h : ∀ ds, r ≠ .o ds) : nrm r = r := by
  cases r with
  | o ds => exact absurd rfl (h ds)
  | _ => rfl
theorem keepS_v {r : RV} {e : Fm} {s : Slot} {e' : Fm} (h : ∀ ds, r ≠ .o ds) (q : keepS r e = some (s, e')) : ∃ d, s = .val d ∧ fz r e = some (d, e') := by
  have q : (match fz r e with
    | some (d, e1) => some (Slot.val d, e1)
    | none => none) = some (s, e') := by
    cases r with
    | o ds => exact absurd rfl (h ds)
    | _ => exact q
  cases q2 : fz r e with
  | none => rw [q2] at q; cases q
  | some w =>
    rw [q2] at q
    cases q
    exact ⟨w.1, rfl, rfl⟩
theorem isO (r : RV) : (∃ ds, r = .o ds) ∨ ∀ ds, r ≠ .o ds := by
  cases r with
  | o ds => exact .inl ⟨ds, rfl⟩
  | _ => exact .inr fun ds z => by cases z
theorem storeNo {i : Nat} {o : Option V} {s : Slot} {p : Addr} (no : NoOwn σ e p) (h : (∀ io ds, s ≠ .own io ds) ∨ o ≠ some (.ref p)) : NoOwn (σ.set i o) (e.set i s) p := by
  intro t io ds ht hs
  rcases get_set ht with ⟨rfl, z, _⟩ | ⟨ne, ht⟩
  · rcases get_set hs with ⟨_, z2, _⟩ | ⟨ne, _⟩
    · rcases h with h | h
      · exact h io ds z.symm
      · exact h z2.symm
    · exact ne rfl
  · rw [List.getElem?_set_ne (Ne.symm ne)] at hs
    exact no t io ds ht hs
theorem st_par {i j : Nat} {n m : Str} {px pt pt2 ln : Pos} {kt k2 : Nat} (ha : GoodE c cf k a x) (hb : GoodE c cf k b y) (hN : c.N[i]? = some n) (hM : c.N[j]? = some m) (hij : i ≠ j) (sx : isStar x = false) (sy : isStar y = false)
    (hn : c.sc.names.lookup n = some .local) (hm : c.sc.names.lookup m = some .local) (hw : ∀ X, XOk c cf k X → swappedStores [.Tuple [.Name n px, .Name m py] kt pt] (.Tuple [x, y] k2 pt2) X.env = pure (some [n, m])) :
    GoodS c cf k (.par i j a b) (.Assign [.Tuple [.Name n px, .Name m py] kt pt] (.Tuple [x, y] k2 pt2) ln) := by
  intro X ok hp F G H S σ e E W tk l hq
  refine ofS (ps_par ok.calm ok.nd' (ok.at hN) (ok.at hM) hij ((ok.sc _ _ hn).1 (by decide)) ((ok.sc _ _ hm).1 (by decide)) (pa_cons pe_w (pa_cons pe_w pa_nil (star_cons sy)) (star_cons sx)) (hw X ok)) ?_
  have hq : Po X F S W (pS X F S E) G ((ev cf a e).rv fun ra e1 => (ev cf b e1).rv fun rb e2 => (match keepS ra e2 with
    | some (sa, e3) => (match keepS rb e3 with
      | some (sb, e4) => if storable e4[i]? && storable e4[j]? then .ok (.fl .nx) ((e4.set i sa).set j sb) else .bad
      | none => .bad)
    | none => .bad)) := hq
  refine rvE ha ok tk l hq fun ra e1 v H1 G1 s1 l1 r1 hp1 => ?_
  have split : ∀ {G2 : Hp} {rb : RV} {e2 : Fm}, Po X F S W (pS X F S E) G2 (match keepS ra e2 with
    | some (sa, e3) => (match keepS rb e3 with
      | some (sb, e4) => if storable e4[i]? && storable e4[j]? then R.ok (Val.fl .nx) ((e4.set i sa).set j sb) else .bad
      | none => .bad)
    | none => .bad) → ∃ sa e3 sb e4, keepS ra e2 = some (sa, e3) ∧ keepS rb e3 = some (sb, e4) ∧ Po X F S W (pS X F S E) G2 (R.ok (Val.fl .nx) ((e4.set i sa).set j sb)) := by
    intro G2 rb e2 h
    cases q1 : keepS ra e2 with
    | none => rw [q1] at h; exact h.elim
    | some w =>
      obtain ⟨sa, e3⟩ := w
      rw [q1] at h
      dsimp only at h
      cases q2 : keepS rb e3 with
      | none => rw [q2] at h; exact h.elim
      | some w2 =>
        obtain ⟨sb, e4⟩ := w2
        rw [q2] at h
        dsimp only at h
        split at h
        · exact ⟨sa, e3, sb, e4, rfl, q2, h⟩
        · exact h.elim
  rcases isO ra with ⟨da, rfl⟩ | nO
  · obtain ⟨p, us, rfl, h1, h2, h3, h4, h5⟩ := r1
    refine hb X ok (upd F p (.lst us)) G1 H1 S σ e1 _ W tk (l1.hold h1 h2 h4) ?_
    cases qb : ev cf b e1 with
    | bad => rw [qb] at hp1; exact hp1.elim
    | rz z e2 =>
      rw [qb] at hp1
      exact fun cls dd σ' H' G' sm l' xo => hp1 cls dd σ' H' G' sm (l'.drop h3).1 xo
    | ok w e2 =>
      rw [qb] at hp1
      cases w with
      | rv rb =>
        intro u H2 G2 s2 l2 r2
        obtain ⟨sa, e3, sb, e4, q1, q2, hp3⟩ := split hp1
        cases q1
        refine ⟨_, _, rfl, ?_⟩
        have d5 := Dp.sameAll s2 _ _ h5
        rcases isO rb with ⟨db, rfl⟩ | nB
        · cases q2
          obtain ⟨p2, us2, rfl, g1, g2, g3, g4, g5⟩ := r2
          have ne : p ≠ p2 := fun z => by
            rw [z, upd_same] at g3
            cases g3
          rw [upd_ne (Ne.symm ne)] at g3
          obtain ⟨l3, c1, c2, c3⟩ := l2.drop h3
          have l4 := l3.setOwn (i := i) c1 c2 h3 c3 d5
          exact hp3 _ H2 G2 s2 (l4.setOwn g1 g2 g3 (storeNo g4 (.inr fun z => ne (by cases z; rfl))) g5)
        · obtain ⟨dd, rfl, q3⟩ := keepS_v nB q2
          obtain ⟨G3, s3, l3, d3⟩ := r2.fz l2 q3
          obtain ⟨l4, c1, c2, c3⟩ := l3.drop h3
          exact hp3 _ H2 G3 (s2.trans s3) ((l4.setOwn (i := i) c1 c2 h3 c3 (Dp.sameAll s3 _ _ d5)).setVal d3)
      | _ => exact hp1.elim
  · have e0 := fz_nf nO
    refine rvE hb ok tk l1 hp1 fun rb e2 u H2 G2 s2 l2 r2 hp2 => ?_
    obtain ⟨sa, e3, sb, e4, q1, q2, hp3⟩ := split hp2
    obtain ⟨d1, rfl, q3⟩ := keepS_v nO q1
    have r1' : RvOk KZ F G2 H2 σ e2 v (nrm ra) := RvOk.later (r := ra) (by rw [e0]; exact r1) s2
    rw [e0] at r1'
    refine ⟨_, _, rfl, ?_⟩
    rcases isO rb with ⟨db, rfl⟩ | nB
    · cases q2
      obtain ⟨p2, us2, rfl, g1, g2, g3, g4, g5⟩ := r2
      have r1h : RvOk KZ (upd F p2 (.lst us2)) G2 H2 σ e2 v ra := by
        cases ra with
        | o ds => exact absurd rfl (nO ds)
        | v d => exact r1'
        | b t => exact r1'
      obtain ⟨G3, s3, l3, d3⟩ := r1h.fz (l2.hold g1 g2 g4) q3
      obtain ⟨l4, c1, c2, c3⟩ := l3.drop g3
      exact hp3 _ H2 G3 s3 ((l4.setVal (i := i) d3).setOwn c1 c2 g3 (storeNo c3 (.inl fun io ds z => by cases z)) (Dp.sameAll s3 _ _ g5))
    · obtain ⟨d2, rfl, q4⟩ := keepS_v nB q2
      obtain ⟨G3, s3, l3, d3⟩ := r1'.fz l2 q3
      have r2' : RvOk KZ F G3 H2 σ e3 u (nrm rb) := RvOk.later (r := rb) (by rw [fz_nf nB]; exact r2) s3
      obtain ⟨G4, s4, l4, d4⟩ := r2'.fz l3 (by rw [fz_nrm']; exact q4)
      exact hp3 _ H2 G4 (s3.trans s4) ((l4.setVal (i := i) (Dp.same s4 _ _ d3)).setVal d4)
theorem swap_is {n m : Str} {px pt pt2 : Pos} {kt k2 : Nat} (hn : c.sc.names.lookup n = some .local) (hm : c.sc.names.lookup m = some .local) (hl : (py.line == px.line) = true) (ne : n ≠ m) (sx : isStar x = false) (sy : isStar y = false) (hf : (foldedForSure 8 x && foldedForSure 8 y) = false) (hc : (constantsAlone 8 x && constantsAlone 8 y) = false) :
    ∀ X, XOk c cf k X → swappedStores [.Tuple [.Name n px, .Name m py] kt pt] (.Tuple [x, y] k2 pt2) X.env = pure (some [n, m]) := by
  intro X ok
  have hb : X.env.blockKind = .function := by unfold Env.blockKind; rw [ok.kind]; rfl
  have k1 : X.env.kindOf n = some .local := (ok.sc _ _ hn).1 (by decide)
  have k2 : X.env.kindOf m = some .local := (ok.sc _ _ hm).1 (by decide)
  have st : ([x, y].any fun
    | .Starred .. => true
    | _ => false) = false := by
    cases x <;> cases y <;> first | rfl | exact Bool.noConfusion sy | exact Bool.noConfusion sx
  have ed : (n == m) = false := by simpa using ne
  have ed' : (m == n) = false := by simpa using Ne.symm ne
  have e1 : ([n, m] : List Str).eraseDups = [n, m] := by
    simp [List.eraseDups_cons, ed']
  have hl0 : (px.line == px.line) = true := beq_self_eq_true _
  have kk : (some NameKind.local == some NameKind.local) = true := by decide
  unfold swappedStores
  simp only [hb, List.filterMap, k1, k2, List.head?, Option.map, Option.getD, Expr.pos, hl, hl0, kk, Bool.and_self, if_true, List.all_cons, List.all_nil, Bool.and_true, hf, hc, e1]
  refine (if_neg (by simp)).trans ((if_neg fun z => Bool.noConfusion (st.symm.trans z)).trans ((if_neg (by simp)).trans ?_))
  rfl
end
def cellT (c : Ct) : Expr → Bool
  | .Name n _ => (match c.sc.names.lookup n with
    | some .cell => true
    | _ => false)
  | _ => false
theorem fm_len {α β : Type} {f : α → Option β} : ∀ {l : List α}, (∃ x ∈ l, f x = none) → (l.filterMap f).length < l.length
  | x :: l, ⟨y, hy, e⟩ => by
    rcases List.mem_cons.mp hy with rfl | hy
    · rw [List.filterMap_cons_none e]
      exact Nat.lt_succ_of_le (List.length_filterMap_le f l)
    · have ih := fm_len (f := f) ⟨y, hy, e⟩
      cases q : f x with
      | none =>
        rw [List.filterMap_cons_none q]
        exact Nat.lt_succ_of_lt ih
      | some b =>
        rw [List.filterMap_cons_some q]
        exact Nat.succ_lt_succ ih
theorem no_swapC {c : Ct} {cf : CF} {k : Nat} {X : Cx} (ok : XOk c cf k X) {ts : List Expr} {j : Nat} {p : Pos} {v : Expr} (h : ts.any (cellT c) = true) : swappedStores [.Tuple ts j p] v X.env = pure none := by
  obtain ⟨t, ht, hc⟩ := List.any_eq_true.mp h
  by_cases hv : noSwap (.Tuple ts j p) v = true
  · exact no_swap hv X.env
  · cases v with
    | Tuple vs j2 p2 =>
      have hcell : ∃ n q, t = .Name n q ∧ X.env.kindOf n = some .cell := by
        cases t with
        | Name n q =>
          unfold cellT at hc
          dsimp only at hc
          cases e : c.sc.names.lookup n with
          | none => rw [e] at hc; cases hc
          | some z =>
            rw [e] at hc
            cases z with
            | cell => exact ⟨n, q, rfl, (ok.sc n _ e).1 (by decide)⟩
            | _ => cases hc
        | _ => cases hc
      obtain ⟨n, q, rfl, hk⟩ := hcell
      unfold swappedStores
      dsimp only
      split
      · rfl
      · split
        · rfl
        · split
          · rfl
          · rename_i h3
            refine absurd ?_ h3
            rw [Bool.or_eq_true]
            refine .inl ?_
            rw [bne_iff_ne]
            refine Nat.ne_of_lt (fm_len ⟨_, ht, ?_⟩)
            show (if (X.env.kindOf n == some .local && _) = true then _ else none) = none
            rw [hk]
            rfl
    | _ => cases ts <;> exact absurd rfl hv
end L2.Mp
set_option Elab.async false
set_option linter.all false
set_option maxRecDepth 100000
set_option maxHeartbeats 4000000
namespace L2.Mp
open PySem PySem.Spec PyProof.Rows L2
section
variable {c : Ct} {cf : CF} {k : Nat} {a b d src body tg : T} {x y tgx itx : Expr} {X : Cx} {F G H : Hp} {S σ : St} {e : Fm} {W : WX} {pos pos' p1 apos cpos : Pos}

/-! ### lists changed in place -/
theorem own_of {i : Nat} (l : Rl KZ F G H S σ e) (h : isOwnS e[i]? = true) : ∃ p us, σ[i]? = some (some (.ref p)) ∧ H p = some (.lst us) := by
  cases q : e[i]? with
  | none => rw [q] at h; cases h
  | some s =>
    rw [q] at h
    cases s with
    | own io ds =>
      obtain ⟨p, us, h1, h2, _⟩ := l.own i io ds q
      exact ⟨p, us, h1, h2⟩
    | _ => cases h
theorem attr_name {n m : Str} {env : Env} : attributeBase (.Name n p1) m env (eval (.Name n p1) env) = eval (.Name n p1) env := rfl
theorem st_app {i : Nat} {n : Str} (ha : GoodE c cf k a x) (hN : c.N[i]? = some n) (hv : visB c.sc n = true) (hd : (n == ("__debug__" : Str)) = false) (hcd : (n == ("__classdict__" : Str)) = false) (hs : isStar x = false) (hl : (apos.endLine == cpos.line) = true) :
    GoodS c cf k (.app i a) (.Expr (.Call (.Attribute (.Name n p1) "append" apos) [x] [] cpos) pos) := by
  intro X ok hp F G H S σ e E W tk l hq
  have hq : Po X F S W (pS X F S E) G (if isOwnS e[i]? then (ev cf a e).rv fun r e1 => (match fz r e1 with
    | some (d, e2) => (match e2[i]? with
      | some (.own io ds) => if ds.length < LINE then .ok (.fl .nx) (e2.set i (.own io (ds ++ [d]))) else .bad
      | _ => .bad)
    | none => .bad) else .bad) := hq
  split at hq
  case isFalse => exact hq.elim
  rename_i hi
  obtain ⟨p, us, g1, g2⟩ := own_of l hi
  refine ofS (ps_expr (pe_bm PySem.F.plainAttrs_list PySem.F.slot_list_append PySem.F.type_list_append mt_append (pe_var (ok.at hN) (ok.vis hv) hd hcd) (pa_cons pe_w pa_nil (star_cons hs)) attr_name
    (by rw [starOne hs]; rfl) hl (star_cons hs) rfl) rfl) ?_
  refine ⟨_, g1, .inl ⟨rfl, us, .inl (.inl g2)⟩, ?_⟩
  refine rvE ha ok tk l hq fun r e1 v H1 G1 s1 l1 r1 hp1 => ?_
  cases q : fz r e1 with
  | none => rw [q] at hp1; exact hp1.elim
  | some w =>
    obtain ⟨dd, e2⟩ := w
    rw [q] at hp1
    dsimp only at hp1
    obtain ⟨G2, s2, l2, d2⟩ := r1.fz l1 q
    cases q2 : e2[i]? with
    | none => rw [q2] at hp1; exact hp1.elim
    | some s =>
      rw [q2] at hp1
      cases s with
      | own io ds =>
        dsimp only at hp1
        split at hp1
        case isFalse => exact hp1.elim
        rename_i hz
        obtain ⟨p', us', h1, h2, h3, h4, h5, h6⟩ := l2.own i io ds q2
        rw [g1] at h1
        cases h1
        exact ⟨p, us', v, rfl, rfl, h2, by rw [DpAll.length h5, ← line_eq]; exact hz, (Po.mono s2 hp1) σ _ G2 (Same.refl G2) (l2.putOwn q2 g1 (DpAll.append h5 (.cons d2 .nil)))⟩
      | _ => exact hp1.elim
theorem st_ext {i : Nat} {n : Str} (ha : GoodE c cf k a x) (hN : c.N[i]? = some n) (hv : visB c.sc n = true) (hd : (n == ("__debug__" : Str)) = false) (hcd : (n == ("__classdict__" : Str)) = false) (hs : isStar x = false) (hl : (apos.endLine == cpos.line) = true) :
    GoodS c cf k (.ext i a) (.Expr (.Call (.Attribute (.Name n p1) "extend" apos) [x] [] cpos) pos) := by
  intro X ok hp F G H S σ e E W tk l hq
  have hq : Po X F S W (pS X F S E) G (if isOwnS e[i]? then (ev cf a e).rv fun r e1 => (match r, e1[i]? with
    | .o es, some (.own io ds) => if ds.length + es.length ≤ LINE then .ok (.fl .nx) (e1.set i (.own io (ds ++ es))) else .bad
    | _, _ => .bad) else .bad) := hq
  split at hq
  case isFalse => exact hq.elim
  rename_i hi
  obtain ⟨p, us, g1, g2⟩ := own_of l hi
  refine ofS (ps_expr (pe_bm PySem.F.plainAttrs_list PySem.F.slot_list_extend PySem.F.type_list_extend mt_extend (pe_var (ok.at hN) (ok.vis hv) hd hcd) (pa_cons pe_w pa_nil (star_cons hs)) attr_name
    (by rw [starOne hs]; rfl) hl (star_cons hs) rfl) rfl) ?_
  refine ⟨_, g1, .inl ⟨rfl, us, .inl (.inl g2)⟩, ?_⟩
  refine rvE ha ok tk l hq fun r e1 v H1 G1 s1 l1 r1 hp1 => ?_
  cases r with
  | o es =>
    obtain ⟨p2, us2, rfl, c1, c2, c3, c4, c5⟩ := r1
    cases q2 : e1[i]? with
    | none => rw [q2] at hp1; exact hp1.elim
    | some s =>
      rw [q2] at hp1
      cases s with
      | own io ds =>
        dsimp only at hp1
        split at hp1
        case isFalse => exact hp1.elim
        rename_i hz
        obtain ⟨p', us', h1, h2, h3, h4, h5, h6⟩ := l1.own i io ds q2
        rw [g1] at h1
        cases h1
        exact ⟨p, p2, us', us2, rfl, rfl, h2, c1, by rw [DpAll.length h5, DpAll.length c5, ← line_eq]; exact hz, hp1 σ _ G1 (Same.refl G1) (l1.putOwn q2 g1 (DpAll.append h5 c5))⟩
      | _ => exact hp1.elim
  | v dd => exact hp1.elim
  | b j => exact hp1.elim
theorem st_setIx {i : Nat} {n : Str} {ln : Pos} (hx : GoodE c cf k b y) (ha : GoodE c cf k a x) (hN : c.N[i]? = some n) (hv : visB c.sc n = true) (hd : (n == ("__debug__" : Str)) = false) (hcd : (n == ("__classdict__" : Str)) = false) (hn : notComp x = true) (ht : isSlice y = false) :
    GoodS c cf k (.setIx i b a) (.Assign [.Subscript (.Name n p1) y pos'] x ln) := by
  intro X ok hp F G H S σ e E W tk l hq
  refine ofS (ps_asg pe_w (pg_sub (pe_var (ok.at hN) (ok.vis hv) hd hcd) pe_w set_list (fun v => by cases y <;> first | rfl | cases ht)) (sole (sw_none hn)) (no_swap rfl X.env) rfl) ?_
  have hq : Po X F S W (pS X F S E) G ((ev cf a e).rv fun r e1 => (match fz r e1 with
    | some (d, e2) => if isOwnS e2[i]? then (ev cf b e2).rv fun ri e3 => (match rd ri e3, e3[i]? with
      | some (.int n), some (.own io ds) => (match ixN ds.length n with
        | some j => .ok (.fl .nx) (e3.set i (.own io (ds.set j d)))
        | none => .bad)
      | _, _ => .bad) else .bad
    | none => .bad)) := hq
  refine rvE ha ok tk l hq fun r e1 v H1 G1 s1 l1 r1 hp1 => ?_
  cases q : fz r e1 with
  | none => rw [q] at hp1; exact hp1.elim
  | some w =>
    obtain ⟨dd, e2⟩ := w
    rw [q] at hp1
    dsimp only at hp1
    obtain ⟨G2, s2, l2, d2⟩ := r1.fz l1 q
    split at hp1
    case isFalse => exact hp1.elim
    rename_i hi
    obtain ⟨p, us, g1, g2⟩ := own_of l2 hi
    refine ⟨_, g1, ?_⟩
    refine rvE hx ok tk l2 (Po.mono s2 hp1) fun ri e3 u H3 G3 s3 l3 r3 hp3 => ?_
    obtain ⟨G4, s4, l4, r4⟩ := r3.nrm l3
    cases q1 : rd ri e3 with
    | none => rw [q1] at hp3; exact hp3.elim
    | some w =>
      rw [q1] at hp3
      cases w with
      | int z =>
        obtain rfl := (r4.rd l4 q1).int
        cases q2 : e3[i]? with
        | none => rw [q2] at hp3; exact hp3.elim
        | some s =>
          rw [q2] at hp3
          cases s with
          | own io ds =>
            dsimp only at hp3
            obtain ⟨p', us', h1, h2, h3, h4, h5, h6⟩ := l4.own i io ds q2
            rw [g1] at h1
            cases h1
            cases q3 : ixN ds.length z with
            | none => rw [q3] at hp3; exact hp3.elim
            | some j =>
              rw [q3] at hp3
              exact ⟨p, us', z, j, rfl, rfl, h2, by rw [DpAll.length h5]; exact q3, (Po.mono s4 hp3) σ _ G4 (Same.refl G4) (l4.putOwn q2 g1 (DpAll.set (Dp.same (s3.trans s4) _ _ d2) j h5))⟩
          | _ => exact hp3.elim
      | _ => exact hp3.elim

/-! ### loops -/
theorem st_for {t : List Stmt} (hs : GoodI c cf k src tgx itx) (hg : GoodG c cf k tg tgx) (hb : GoodB c cf k body t) (hn : notSet itx = true) : GoodS c cf k (.forS tg src body) (.For tgx itx t [] pos) := by
  intro X ok hp F G H S σ e E W tk l hq
  refine ofS (ps_for hp ok.calm (pi_w (tg := tgx) (x := itx)) (pg_w (tg := tgx)) (pss_w (sts := t)) (folded hn X.env)) ?_
  refine dsI hs ok tk l hq fun items e1 J H1 G1 s1 l1 it hp1 => ?_
  have step : ∀ (dd : D) (ds : List D) (e' : Fm), fLoop (fun d e2 => match bindT tg d e2 with
    | some e3 => ev cf body e3
    | none => .bad) (dd :: ds) e' = (match (match bindT tg dd e' with
    | some e3 => ev cf body e3
    | none => .bad) with
      | .ok (.fl .nx) e1 => fLoop (fun d e2 => match bindT tg d e2 with
    | some e3 => ev cf body e3
    | none => .bad) ds e1
      | .ok (.fl .cont) e1 => fLoop (fun d e2 => match bindT tg d e2 with
    | some e3 => ev cf body e3
    | none => .bad) ds e1
      | .ok (.fl .brk) e1 => .ok (.fl .nx) e1
      | .ok (.fl (.ret r)) e1 => .ok (.fl (.ret r)) e1
      | .rz x e1 => .rz x e1
      | _ => .bad) := fun _ _ _ => rfl
  generalize hst : (fun (d : D) (e2 : Fm) => (match bindT tg d e2 with
    | some e3 => ev cf body e3
    | none => .bad : R Val)) = stp at hp1 step
  refine ⟨fun i m σ' H' => m = items.length - i ∧ i ≤ items.length ∧ ∃ G' e', Same G1 G' ∧ Rl KZ F G' H' S σ' e' ∧ Po X F S W (pS X F S E) G' (fLoop stp (items.drop i) e'),
    ⟨items.length, rfl, Nat.zero_le _, G1, e1, Same.refl G1, l1, hp1⟩, ?_⟩
  rintro i m σ' H' ⟨rfl, hi, G', e', s', lr, hpo⟩
  obtain ⟨ig, is, _⟩ := it G' H' s' lr.g
  by_cases hlt : i < items.length
  · rw [List.drop_eq_getElem_cons hlt, step] at hpo
    refine .inr ⟨ig i hlt, fun σ2 H2 => ∃ G2 e2, Same G1 G2 ∧ Rl KZ F G2 H2 S σ2 e2 ∧ Po X F S W (pS X F S E) G2 (fLoop stp (items.drop (i + 1)) e2), fun σ2 H2 ⟨G2, e2, s2, l2, p2⟩ => ⟨items.length - (i + 1), by omega, rfl, hlt, G2, e2, s2, l2, p2⟩, fun v H2 hy => ?_⟩
    obtain ⟨G2, s2, l2, dx⟩ := itd_step it s' lr hlt hy
    have hpo := Po.mono s2 hpo
    cases qb : bindT tg items[i] e' with
    | none => rw [qb] at hpo; exact hpo.elim
    | some e3 =>
      rw [qb] at hpo
      dsimp only at hpo
      refine hg X ok F G2 H2 S σ' e' v items[i] e3 _ l2 dx qb fun σ3 _ l3 => ?_
      refine hb X ok hp F G2 H2 S σ3 e3 _ W tk l3 ?_
      have sG := s'.trans s2
      cases qe : ev cf body e3 with
      | bad => rw [qe] at hpo; exact hpo
      | rz z e4 => rw [qe] at hpo; exact hpo
      | ok w e4 =>
        rw [qe] at hpo
        cases w with
        | fl f =>
          cases f with
          | nx => exact fun σ4 H4 G4 s4 l4 => ⟨G4, e4, sG.trans s4, l4, Po.mono s4 hpo⟩
          | cont => exact fun σ4 H4 G4 s4 l4 => ⟨G4, e4, sG.trans s4, l4, Po.mono s4 hpo⟩
          | brk => exact hpo
          | ret r => exact hpo
        | _ => exact hpo
  · have ei : i = items.length := by omega
    subst ei
    rw [List.drop_length] at hpo
    exact .inl ⟨is, hpo σ' H' G' (Same.refl G') lr⟩
theorem st_while {t : List Stmt} (hc : GoodT c cf k a x) (hb : GoodB c cf k body t) : GoodS c cf k (.whileS a body) (.While x t [] pos) := by
  intro X ok hp F G H S σ e E W tk l hq
  refine ofS (ps_while hp pt_w (pss_w (sts := t))) ?_
  have hq : Po X F S W (pS X F S E) G (wLoop (fun e1 => testR (ev cf a e1)) (fun e1 => ev cf body e1) WF e) := hq
  refine ⟨fun m σ' H' => ∃ G' e', Same G G' ∧ Rl KZ F G' H' S σ' e' ∧ Po X F S W (pS X F S E) G' (wLoop (fun e1 => testR (ev cf a e1)) (fun e1 => ev cf body e1) m e'), ⟨WF, G, e, Same.refl G, l, hq⟩, ?_⟩
  rintro m σ' H' ⟨G', e', s', lr, hpo⟩
  cases m with
  | zero => exact hpo.elim
  | succ m =>
    have hpo : Po X F S W (pS X F S E) G' (match testR (ev cf a e') with
      | .ok true e1 => (match ev cf body e1 with
        | .ok (.fl .nx) e2 => wLoop (fun e1 => testR (ev cf a e1)) (fun e1 => ev cf body e1) m e2
        | .ok (.fl .cont) e2 => wLoop (fun e1 => testR (ev cf a e1)) (fun e1 => ev cf body e1) m e2
        | .ok (.fl .brk) e2 => .ok (.fl .nx) e2
        | .ok (.fl (.ret r)) e2 => .ok (.fl (.ret r)) e2
        | .rz x e2 => .rz x e2
        | _ => .bad)
      | .ok false e1 => .ok (.fl .nx) e1
      | .rz x e1 => .rz x e1
      | .bad => .bad) := hpo
    refine hc X ok F G' H' S σ' e' _ W tk lr ?_
    cases qt : testR (ev cf a e') with
    | bad => rw [qt] at hpo; exact hpo
    | rz z e1 => rw [qt] at hpo; exact hpo
    | ok q e1 =>
      rw [qt] at hpo
      intro H1 G1 s1 l1
      cases q with
      | false =>
        rw [if_neg Bool.false_ne_true]
        exact hpo σ' H1 G1 s1 l1
      | true =>
        rw [if_pos rfl]
        refine ⟨fun σ2 H2 => ∃ G2 e2, Same G G2 ∧ Rl KZ F G2 H2 S σ2 e2 ∧ Po X F S W (pS X F S E) G2 (wLoop (fun e1 => testR (ev cf a e1)) (fun e1 => ev cf body e1) m e2), fun σ2 H2 z => ⟨m, Nat.lt_succ_self m, z⟩, ?_⟩
        refine hb X ok hp F G1 H1 S σ' e1 _ W tk l1 ?_
        have hpo := Po.mono s1 hpo
        have sG := s'.trans s1
        dsimp only at hpo
        cases qe : ev cf body e1 with
        | bad => rw [qe] at hpo; exact hpo
        | rz z e4 => rw [qe] at hpo; exact hpo
        | ok w e4 =>
          rw [qe] at hpo
          cases w with
          | fl f =>
            cases f with
            | nx => exact fun σ4 H4 G4 s4 l4 => ⟨G4, e4, sG.trans s4, l4, Po.mono s4 hpo⟩
            | cont => exact fun σ4 H4 G4 s4 l4 => ⟨G4, e4, sG.trans s4, l4, Po.mono s4 hpo⟩
            | brk => exact hpo
            | ret r => exact hpo
          | _ => exact hpo
end
end L2.Mp
set_option Elab.async false
set_option linter.all false
set_option maxRecDepth 100000
set_option maxHeartbeats 4000000
namespace L2.Mp
open PySem PySem.Spec PyProof.Rows L2

/-! ### the checker -/
inductive Node where
  | e (x : Expr)
  | t (x : Expr)
  | w (x : Expr)
  | l (xs : List Expr)
  | i (tg x : Expr)
  | g (x : Expr)
  | gs (xs : List Expr)
  | s (st : Stmt)
  | b (sts : List Stmt)
  | cs (n : Str) (py : Pos) (x : Expr) (ln : Pos)
def Holds (c : Ct) (cf : CF) (k : Nat) (t : T) : Node → Prop
  | .e x => GoodE c cf k t x
  | .t x => GoodT c cf k t x
  | .w x => GoodW c cf k t x
  | .l xs => GoodL c cf k t xs
  | .i tg x => GoodI c cf k t tg x
  | .g x => GoodG c cf k t x
  | .gs xs => GoodGs c cf k t xs
  | .s st => GoodS c cf k t st
  | .b sts => GoodB c cf k t sts
  | .cs n py x ln => ∀ i, c.N[i]? = some n → locB c.sc n = true → GoodS c cf k (.asg (.tN i) t) (.Assign [.Name n py] x ln)
def plainB : Expr → Bool
  | .UnaryOp .Not _ _ => false
  | .BoolOp _ _ _ => false
  | .IfExp _ _ _ _ => false
  | .Compare _ _ _ _ => false
  | _ => true
theorem plain_by {x : Expr} (h : plainB x = true) : Plainly x := by
  intro env wh
  cases x with
  | UnaryOp op y p => cases op <;> first | rfl | exact Bool.noConfusion h
  | _ => first | rfl | exact Bool.noConfusion h
def onE (f : Expr → Bool) : Node → Bool
  | .e x => f x
  | .t x => plainB x && f x
  | _ => false
def onET (f g : Expr → Bool) : Node → Bool
  | .e x => f x
  | .t x => g x
  | _ => false
def onB (f g : Expr → Bool) : Node → Bool
  | .e x => f x
  | .t x => g x
  | .w x => g x
  | _ => false
def onC (f : Expr → Bool) : Node → Bool
  | .e x => f x
  | .t x => plainB x && f x
  | .cs _ _ x _ => f x
  | _ => false
def onI (f : Expr → Expr → Bool) : Node → Bool
  | .i tg x => f tg x
  | _ => false
def onG (f : Expr → Bool) : Node → Bool
  | .g x => f x
  | _ => false
def onS (f : Stmt → Bool) : Node → Bool
  | .s x => f x
  | _ => false
section
variable {c : Ct} {cf : CF} {k : Nat} {t : T} {f g : Expr → Bool} {n : Node}
theorem onE_ok (h : ∀ x, f x = true → GoodE c cf k t x) (hn : onE f n = true) : Holds c cf k t n := by
  cases n with
  | e x => exact h x hn
  | t x =>
    simp only [onE, Bool.and_eq_true] at hn
    exact goodT_of (h x hn.2) (plain_by hn.1)
  | _ => cases hn
theorem onET_ok (h : ∀ x, f x = true → GoodE c cf k t x) (h' : ∀ x, g x = true → GoodT c cf k t x) (hn : onET f g n = true) : Holds c cf k t n := by
  cases n with
  | e x => exact h x hn
  | t x => exact h' x hn
  | _ => cases hn
theorem onB_ok (h : ∀ x, f x = true → GoodE c cf k t x) (h' : ∀ x, g x = true → GoodW c cf k t x) (hn : onB f g n = true) : Holds c cf k t n := by
  cases n with
  | e x => exact h x hn
  | t x => exact goodT_of_W (h' x hn)
  | w x => exact h' x hn
  | _ => cases hn
theorem onC_ok (h : ∀ x, f x = true → GoodE c cf k t x) (h' : ∀ n py x ln, f x = true → Holds c cf k t (.cs n py x ln)) (hn : onC f n = true) : Holds c cf k t n := by
  cases n with
  | e x => exact h x hn
  | t x =>
    simp only [onC, Bool.and_eq_true] at hn
    exact goodT_of (h x hn.2) (plain_by hn.1)
  | cs m py x ln => exact h' m py x ln hn
  | _ => cases hn
theorem onI_ok {f : Expr → Expr → Bool} (h : ∀ tg x, f tg x = true → GoodI c cf k t tg x) (hn : onI f n = true) : Holds c cf k t n := by
  cases n with
  | i tg x => exact h tg x hn
  | _ => cases hn
theorem onG_ok (h : ∀ x, f x = true → GoodG c cf k t x) (hn : onG f n = true) : Holds c cf k t n := by
  cases n with
  | g x => exact h x hn
  | _ => cases hn
theorem onS_ok {f : Stmt → Bool} (h : ∀ x, f x = true → GoodS c cf k t x) (hn : onS f n = true) : Holds c cf k t n := by
  cases n with
  | s x => exact h x hn
  | _ => cases hn
end
def isAbs : T → Bool
  | .absent => true
  | _ => false
theorem abs_c {a : T} (h : isAbs a = false) (cf : CF) (e : Fm) : evC cf a e = testR (ev cf a e) := by cases a <;> first | rfl | cases h
theorem abs_o {a : T} (h : isAbs a = false) (cf : CF) (e : Fm) : evO cf a e = partR (ev cf a e) := by cases a <;> first | rfl | cases h
theorem abs_is {a : T} (h : isAbs a = true) : a = .absent := by cases a <;> first | rfl | cases h
mutual
def eqD : D → D → Bool
  | .none, .none => true
  | .bool a, .bool b => decide (a = b)
  | .int a, .int b => decide (a = b)
  | .str a, .str b => decide (a = b)
  | .tuple a, .tuple b => eqDs a b
  | .list a, .list b => eqDs a b
  | _, _ => false
def eqDs : List D → List D → Bool
  | [], [] => true
  | x :: r, y :: s => eqD x y && eqDs r s
  | _, _ => false
end
mutual
theorem eqD_ok : ∀ {a b : D}, eqD a b = true → a = b
  | .none, b, h => by cases b <;> first | rfl | exact Bool.noConfusion h
  | .bool x, b, h => by cases b <;> first | exact congrArg PyData.bool (of_decide_eq_true h) | exact Bool.noConfusion h
  | .int x, b, h => by cases b <;> first | exact congrArg PyData.int (of_decide_eq_true h) | exact Bool.noConfusion h
  | .str x, b, h => by cases b <;> first | exact congrArg PyData.str (of_decide_eq_true h) | exact Bool.noConfusion h
  | .tuple x, b, h => by cases b <;> first | exact congrArg PyData.tuple (eqDs_ok h) | exact Bool.noConfusion h
  | .list x, b, h => by cases b <;> first | exact congrArg PyData.list (eqDs_ok h) | exact Bool.noConfusion h
  | .dict x, b, h => by cases b <;> exact Bool.noConfusion h
theorem eqDs_ok : ∀ {a b : List D}, eqDs a b = true → a = b
  | [], [], _ => rfl
  | x :: r, y :: s, h => by
    simp only [eqDs, Bool.and_eq_true] at h
    rw [eqD_ok h.1, eqDs_ok h.2]
  | [], _ :: _, h => by cases h
  | _ :: _, [], h => by cases h
end
def constD : Const → D → Bool
  | .none, .none => true
  | .bool a, .bool b => decide (a = b)
  | .int a, .int b => decide (a = b)
  | .str a, .str b => decide (a = b)
  | _, _ => false
theorem const_ok {c : Ct} {cf : CF} {k : Nat} {q : Const} {d : D} {j : Nat} {pos : Pos} (h : constD q d = true) : GoodE c cf k (.const d) (.Constant q j pos) := by
  cases q <;> cases d <;> first | (exact Bool.noConfusion h) | skip
  · exact good_non
  · rw [of_decide_eq_true h]; exact good_bl
  · rw [of_decide_eq_true h]; exact good_int
  · rw [of_decide_eq_true h]; exact good_str
def dbg (n : Str) : Bool := n == ("__debug__" : Str)
def tlen : T → Nat
  | .cons _ r => tlen r + 1
  | _ => 0
theorem tlen_ok : ∀ {a : T} {ds : List D} {e e' : Fm}, bindTs a ds e = some e' → ds.length = tlen a := by
  intro a
  induction a with
  | nil =>
    intro ds e e' h
    cases ds with
    | nil => rfl
    | cons _ _ => cases h
  | cons a r _ ih =>
    intro ds e e' h
    cases ds with
    | nil => cases h
    | cons d ds =>
      have h : (match bindT a d e with
        | some e1 => bindTs r ds e1
        | none => none) = some e' := h
      cases q : bindT a d e with
      | none => rw [q] at h; cases h
      | some e1 =>
        rw [q] at h
        exact congrArg (· + 1) (ih h)
  | _ =>
    intro ds e e' h
    cases ds <;> cases h
def primT : Prim → Option (Str × Bool × String)
  | .len => some ("len", false, "len")
  | .abs => some ("abs", false, "abs")
  | .int => some ("int", true, "int")
  | .tuple => some ("tuple", true, "tuple")
  | .list => some ("list", true, "list")
  | .sum => some ("sum", false, "sum")
  | .all => some ("all", false, "all")
  | .any => some ("any", false, "any")
  | .max1 => some ("max", false, "max")
  | .min1 => some ("min", false, "min")
  | .max2 => some ("max", false, "max")
  | .min2 => some ("min", false, "min")
theorem boot_abs : bootBuiltins ("abs" : Str) = some (.builtin "abs") := by decide +kernel
theorem prim_ok {c : Ct} {cf : CF} {k : Nat} {p : Prim} {nm : Str} {ty : Bool} {id : String} {a : T} {y : Expr} {ys : List Expr} {pos pos' : Pos} (hp : primT p = some (nm, ty, id)) (ha : GoodL c cf k a (y :: ys)) (hf : nm ∈ c.fr) (hg : gloB c.sc nm = true) (hs : ∀ z ∈ y :: ys, isStar z = false) :
    GoodE c cf k (.prim p a) (.Call (.Name nm pos') (y :: ys) [] pos) := by
  cases p
  · cases hp; exact good_primB pr_len boot_len ha hf hg (by decide) (by decide) hs
  · cases hp; exact good_primB pr_abs boot_abs ha hf hg (by decide) (by decide) hs
  · cases hp; exact good_primT pr_int PyProof.Rows.boot_int ha hf hg (by decide) (by decide) hs
  · cases hp; exact good_primT pr_tuple PyProof.Rows.boot_tuple ha hf hg (by decide) (by decide) hs
  · cases hp; exact good_primT pr_list PyProof.Rows.boot_list ha hf hg (by decide) (by decide) hs
  · cases hp; exact good_primB pr_sum PyProof.Rows.boot_sum ha hf hg (by decide) (by decide) hs
  · cases hp; exact good_primB pr_all PyProof.Rows.boot_all ha hf hg (by decide) (by decide) hs
  · cases hp; exact good_primB pr_any PyProof.Rows.boot_any ha hf hg (by decide) (by decide) hs
  · cases hp; exact good_primB pr_max1 PyProof.Rows.boot_max ha hf hg (by decide) (by decide) hs
  · cases hp; exact good_primB pr_min1 PyProof.Rows.boot_min ha hf hg (by decide) (by decide) hs
  · cases hp; exact good_primB pr_max2 PyProof.Rows.boot_max ha hf hg (by decide) (by decide) hs
  · cases hp; exact good_primB pr_min2 PyProof.Rows.boot_min ha hf hg (by decide) (by decide) hs
end L2.Mp
set_option Elab.async false
set_option linter.all false
set_option maxRecDepth 100000
set_option maxHeartbeats 4000000
namespace L2
open PySem PySem.Spec PyProof.Rows
/-! ### set(xs), xs a tuple of tuples of ints (the library has it of lists) -/
abbrev freshSet (w : World) : Obj := { cls := .type "set", dict := none, data := .set #[] 0 (.fresh 0 0 (!w.params.followText "set-order")) }
section
variable {P : Program} {w : World} {A : Around} {E : Value → Shared → Prop} {s : Shared}
theorem set_of_tup {l : Addr} {its : Array Value} (rows : List (Addr × List Int)) {Q : Value → Shared → Prop} (calm0 : A.handled = none) (isT0 : s.heap.IsTuple l its) (isR : its.toList = rows.map fun p => Value.ref p.1)
    (hk : ∀ p ∈ rows, IsT P w s.heap p.2 p.1) (few : rows.length < 64) (unitB : A.units + 3 < cLine)
    (h : ∀ (h' : Heap) (tk : Nat) L rs epz t, SetTR P w h' s.heap.objs.size L rs epz t → Got rows rows.length L → (∀ b o, s.heap.get? b = some o → h'.get? b = some o) → Q (.ref s.heap.objs.size) { s with heap := h', toks := tk }) :
    wpAny (model P w) A (call (.type "set") [.ref l]) Q E s := by
  have szK : its.size = rows.length := by
    have q := congrArg List.length isR
    rw [Array.length_toList, List.length_map] at q
    exact q
  obtain ⟨c, tl, mroS⟩ := F.called_set.mro
  have mk := F.called_set.made
  have subT := F.called_set.sub
  refine wpAny_call (codeAny_of_tree ?_)
  show wpAny _ _ (callAny (.type "set") _) _ _ _
  refine wpAny_pure ⟨Code.quiet_builtin _ (by decide +kernel), codeAny_builtin F.entry_type_call ?_⟩
  rw [Around.under_plain (weight_type_call_type "set" [.ref l] []) rfl]
  have c1 := F.called_set.notType
  have c2 := F.called_set.canCreate
  have chkT := F.typeCall_set_1 (.ref l)
  repeat (any_goals (first | assumption | wp_step))

  refine codeAny_mono (code_set_led1 (.ref l) (E := E) (Q₁ := fun made1 st1 => made1 = .ref s.heap.objs.size ∧ st1 = { s with heap := s.heap.push (freshSet w) }) ⟨rfl, rfl⟩) fun r st1 end1 => ?_
  cases r with
  | error e => exact end1
  | ok fl =>
    cases fl with
    | ret made1 =>
      obtain ⟨rfl, rfl⟩ := end1
      have atS : (s.heap.push (freshSet w)).get? s.heap.objs.size = some (freshSet w) := Heap.get?_push_size _ rfl
      have isSet : Shared.TypeIs { s with heap := s.heap.push (freshSet w) } (.ref s.heap.objs.size) "set" := ⟨_, atS, rfl⟩
      have look := F.called_set.init.lookup
      have bindS := F.called_set.init.bind (.ref s.heap.objs.size)
      repeat (any_goals (first | assumption | wp_step))

      refine codeAny_mono (codeAny_call_builtin (R := wants (fun r st2 => r = .none ∧ ∃ h' tk L rs epz t, st2 = { s with heap := h', toks := tk } ∧ SetTR P w h' s.heap.objs.size L rs epz t ∧ Got rows rows.length L ∧
          (∀ b o, s.heap.get? b = some o → h'.get? b = some o)) E) F.called_set.init.plain F.entry_set_init (check_set_init_1 isSet ?_)) fun res2 st2 end2 => ?_
      · obtain ⟨oL, atL, clsL, cap, datL⟩ := isT0
        obtain ⟨oc, od, ot, osl⟩ := oL
        simp only at clsL datL
        subst clsL; subst datL
        have atL' : (s.heap.push (freshSet w)).get? l = some { cls := .type "tuple", dict := od, data := .seq its cap, slots := osl } := Heap.get?_push_of_some _ atL
        have notSet1 := F.sub_tuple_set
        have notSet2 := F.sub_tuple_frozenset
        have notDict : (Value.type "tuple" == Value.type "dict") = false := by decide
        have tupL : (s.heap.push (freshSet w)).IsTuple l its := ⟨_, atL', rfl, cap, rfl⟩
        unfold Builtin.«set.__init__» noKeywords Builtin.Frozenset.updateFrom
        generalize hPI : pyIter = PI
        wp_walk
        subst hPI

        refine wpAny_pyIter_tuple tupL ?_
        refine wpAny_bind (wpAny_runValue ?_)
        have ltS : l < s.heap.objs.size := Heap.lt_size atL
        have calm3 : A.in1.in1.in1.handled = none := by simp [calm0]
        have szS : (s.heap.push (freshSet w)).objs.size = s.heap.objs.size + 1 := Heap.size_push ..
        have neI : l ≠ (s.heap.push (freshSet w)).objs.size := by
          rw [Heap.size_push]; exact Nat.ne_of_lt (Nat.lt_succ_of_lt ltS)
        have offF : s.heap.objs.size ∉ [(s.heap.push (freshSet w)).objs.size, l] := by
          rw [Heap.size_push]; simp only [List.mem_cons, List.mem_singleton, List.not_mem_nil, or_false, not_or]
          exact ⟨Nat.ne_of_lt (Nat.lt_succ_self _), Nat.ne_of_gt ltS⟩
        have refAt : ∀ (i : Nat) (v : Value), its[i]? = some v → ∃ p, rows[i]? = some p ∧ v = .ref p.1 := fun i v atI => by
          have q : its.toList[i]? = some v := by rw [Array.getElem?_toList]; exact atI
          rw [isR, List.getElem?_map] at q
          cases rowI : rows[i]? with
          | none => rw [rowI] at q; cases q
          | some p =>
            rw [rowI] at q
            exact ⟨p, rfl, (Option.some.inj q).symm⟩
        have fresh0 : ∀ b, s.heap.objs.size ≤ b → s.heap.get? b = none := fun b geB => by
          cases q : s.heap.get? b with
          | none => rfl
          | some o => exact absurd (Nat.lt_of_lt_of_le (Heap.lt_size q) geB) (Nat.lt_irrefl _)
        refine set_update_tups ((Walks.tuple calm3 _ l neI its).toS) s.heap.objs.size
          offF rows szK few refAt s.heap hk (fresh0 _ (Nat.le_refl _)) (fun b geB => fresh0 b (by
            rw [List.mem_singleton.mp geB, Heap.size_push]
            exact Nat.le_succ _)) unitB (its.size - 0) 0 _ (by omega) (Nat.zero_le _)
          ⟨⟨_, Heap.get?_push_size _ rfl, rfl, rfl⟩, (tupL.push _)⟩ (fun b o e => Heap.get?_push_of_some _ (Heap.get?_push_of_some _ e)) ?base0 ?fin
        case base0 =>
          have atS2 : ((s.heap.push (freshSet w)).push { cls := .type "tuple_iterator", data := .fields #[.ref l, .int 0 0] }).get? s.heap.objs.size
              = some (freshSet w) := Heap.get?_push_of_some _ atS
          exact ⟨[], #[], 0, _, setTR_fresh atS2, Got.zero rows⟩
        case fin =>
          intro s' L rs epz t hm setZ gotZ hkp
          obtain ⟨h', gZ, dZ, tkZ, osZ⟩ := s'
          have eqG : gZ = s.gens := hm.gens
          have eqD : dZ = s.drawn := hm.drawn
          have eqO : osZ = s.os := hm.os
          subst eqG; subst eqD; subst eqO
          show wpAny _ _ _ _ _ _
          refine wpAny_pure ?_
          show wpAny _ _ (ret Value.none) _ _ _
          rw [szK] at gotZ
          exact wpAny_pure ⟨rfl, h', tkZ, L, rs, epz, t, rfl, setZ, gotZ, hkp⟩

      · cases res2 with
        | error e => exact end2
        | ok fl₂ =>
          cases fl₂ with
          | ret r =>
            obtain ⟨rfl, h', tk, L, rs, epz, t, rfl, setZ, gotZ, keepZ⟩ := end2
            repeat (any_goals (first | assumption | wp_step))
            exact h _ _ _ _ _ _ setZ gotZ keepZ
          | _ => exact end2.elim
    | _ => exact end1.elim
end
end L2
set_option Elab.async false
set_option linter.all false
set_option maxRecDepth 100000
set_option maxHeartbeats 4000000
namespace L2.Mp
open PySem PySem.Spec PyProof.Rows L2
/-! ### rows of ints in their order -/
theorem ltL_irr : ∀ x : List Int, ltL x x = false
  | [] => rfl
  | a :: r => by simp [ltL, ltL_irr r]
theorem ltL_cons {a b : Int} {r s : List Int} : ltL (a :: r) (b :: s) = true ↔ a < b ∨ (a = b ∧ ltL r s = true) := by simp [ltL]
theorem ltL_asy : ∀ {x y : List Int}, ltL x y = true → ltL y x = true → False
  | [], _, h, _ => by cases h
  | _ :: _, [], h, _ => by cases h
  | a :: r, b :: s, h, h' => by
    rcases ltL_cons.mp h with q | ⟨e, q⟩
    · rcases ltL_cons.mp h' with q' | ⟨e', q'⟩ <;> omega
    · rcases ltL_cons.mp h' with q' | ⟨e', q'⟩
      · omega
      · exact ltL_asy q q'
theorem ltL_tr : ∀ {x y z : List Int}, ltL x y = true → ltL y z = true → ltL x z = true
  | [], _, _, h, _ => by cases h
  | _ :: _, [], _, h, _ => by cases h
  | _ :: _, _ :: _, [], _, h => by cases h
  | a :: r, b :: s, c :: t, h, h' => by
    refine ltL_cons.mpr ?_
    rcases ltL_cons.mp h with q | ⟨e, q⟩
    · rcases ltL_cons.mp h' with q' | ⟨e', q'⟩
      · exact .inl (by omega)
      · exact .inl (by omega)
    · rcases ltL_cons.mp h' with q' | ⟨e', q'⟩
      · exact .inl (by omega)
      · exact .inr ⟨e.trans e', ltL_tr q q'⟩
theorem ltL_tri : ∀ {x y : List Int}, x.length = y.length → x = y ∨ ltL x y = true ∨ ltL y x = true
  | [], [], _ => .inl rfl
  | a :: r, b :: s, h => by
    by_cases h1 : a < b
    · exact .inr (.inl (ltL_cons.mpr (.inl h1)))
    · by_cases h2 : b < a
      · exact .inr (.inr (ltL_cons.mpr (.inl h2)))
      · have e : a = b := by omega
        subst e
        rcases ltL_tri (x := r) (y := s) (by simpa using h) with h3 | h3 | h3
        · exact .inl (by rw [h3])
        · exact .inr (.inl (ltL_cons.mpr (.inr ⟨rfl, h3⟩)))
        · exact .inr (.inr (ltL_cons.mpr (.inr ⟨rfl, h3⟩)))
  | [], _ :: _, h => by cases h
  | _ :: _, [], h => by cases h
abbrev SortedU (l : List (List Int)) : Prop := l.Pairwise fun x y => ltL x y = true
theorem insU_mem {x z : List Int} : ∀ {l : List (List Int)}, z ∈ insU x l ↔ z = x ∨ z ∈ l
  | [] => by simp [insU]
  | y :: r => by
    unfold insU
    split
    · rename_i h
      subst h
      simp
    · split
      · simp
      · rw [List.mem_cons, insU_mem, List.mem_cons]
        constructor
        · rintro (h | h | h)
          · exact .inr (.inl h)
          · exact .inl h
          · exact .inr (.inr h)
        · rintro (h | h | h)
          · exact .inr (.inl h)
          · exact .inl h
          · exact .inr (.inr h)
theorem insU_sorted {d : Nat} {x : List Int} (hx : x.length = d) : ∀ {l : List (List Int)}, (∀ y ∈ l, y.length = d) → SortedU l → SortedU (insU x l)
  | [], _, _ => List.pairwise_singleton _ _
  | y :: r, hl, h => by
    unfold insU
    split
    · exact h
    · rename_i ne
      split
      · rename_i lt
        refine List.pairwise_cons.mpr ⟨fun z hz => ?_, h⟩
        rcases List.mem_cons.mp hz with rfl | hz
        · exact lt
        · exact ltL_tr lt ((List.pairwise_cons.mp h).1 z hz)
      · rename_i nlt
        refine List.pairwise_cons.mpr ⟨fun z hz => ?_, insU_sorted hx (fun z hz => hl z (List.mem_cons_of_mem _ hz)) (List.pairwise_cons.mp h).2⟩
        rcases insU_mem.mp hz with rfl | hz
        · rcases ltL_tri (x := z) (y := y) (hx.trans (hl y List.mem_cons_self).symm) with e | e | e
          · exact absurd e ne
          · exact absurd e nlt
          · exact e
        · exact (List.pairwise_cons.mp h).1 z hz
theorem sortU_go {d : Nat} : ∀ (rs acc : List (List Int)), (∀ y ∈ rs, y.length = d) → (∀ y ∈ acc, y.length = d) → SortedU acc → SortedU (rs.foldl (fun acc x => insU x acc) acc) ∧ ∀ z, z ∈ rs.foldl (fun acc x => insU x acc) acc ↔ z ∈ rs ∨ z ∈ acc
  | [], acc, _, _, h => ⟨h, fun z => by simp⟩
  | x :: rs, acc, hr, ha, h => by
    have hx := hr x List.mem_cons_self
    obtain ⟨h1, h2⟩ := sortU_go rs (insU x acc) (fun y hy => hr y (List.mem_cons_of_mem _ hy)) (fun y hy => by
      rcases insU_mem.mp hy with rfl | hy
      · exact hx
      · exact ha y hy) (insU_sorted hx ha h)
    refine ⟨h1, fun z => ?_⟩
    rw [List.foldl_cons, h2, insU_mem, List.mem_cons]
    constructor
    · rintro (h | h | h)
      · exact .inl (.inr h)
      · exact .inl (.inl h)
      · exact .inr h
    · rintro ((h | h) | h)
      · exact .inr (.inl h)
      · exact .inl h
      · exact .inr (.inr h)
theorem sortU_ok {d : Nat} {rs : List (List Int)} (h : ∀ y ∈ rs, y.length = d) : SortedU (sortU rs) ∧ ∀ z, z ∈ sortU rs ↔ z ∈ rs := by
  obtain ⟨h1, h2⟩ := sortU_go rs [] h (fun _ z => nomatch z) List.Pairwise.nil
  exact ⟨h1, fun z => by rw [sortU, h2]; simp⟩
theorem sorted_uniq : ∀ {l m : List (List Int)}, SortedU l → SortedU m → (∀ z, z ∈ l ↔ z ∈ m) → l = m
  | [], [], _, _, _ => rfl
  | [], b :: _, _, _, h => by simpa using (h b).mpr List.mem_cons_self
  | a :: _, [], _, _, h => by simpa using (h a).mp List.mem_cons_self
  | a :: r, b :: s, hl, hm, h => by
    obtain ⟨h1, h2⟩ := List.pairwise_cons.mp hl
    obtain ⟨h3, h4⟩ := List.pairwise_cons.mp hm
    have e : a = b := by
      rcases List.mem_cons.mp ((h a).mp List.mem_cons_self) with e | e
      · exact e
      · rcases List.mem_cons.mp ((h b).mpr List.mem_cons_self) with e2 | e2
        · exact e2.symm
        · exact (ltL_asy (h1 b e2) (h3 a e)).elim
    subst e
    rw [sorted_uniq h2 h4 fun z => ?_]
    constructor
    · intro hz
      rcases List.mem_cons.mp ((h z).mp (List.mem_cons_of_mem _ hz)) with e | e
      · subst e
        have := h1 z hz
        rw [ltL_irr] at this
        cases this
      · exact e
    · intro hz
      rcases List.mem_cons.mp ((h z).mpr (List.mem_cons_of_mem _ hz)) with e | e
      · subst e
        have := h3 z hz
        rw [ltL_irr] at this
        cases this
      · exact e
end L2.Mp
set_option Elab.async false
set_option linter.all false
set_option maxRecDepth 100000
set_option maxHeartbeats 4000000
namespace L2.Mp
open PySem PySem.Spec PyProof.Rows L2
section
variable {c : Ct} {cf : CF} {k : Nat} {a : T} {x : Expr} {pos pos1 pos2 pos3 : Pos}

/-! ### len(set(xs)), xs a list of ints -/
theorem dedI_first (ns : List Int) : ∀ i, i ≤ ns.length → PyProof.Rows.firstMet (fun i => ns.getD i 0) i = dedI (ns.take i)
  | 0, _ => rfl
  | i + 1, h => by
    have hi : i < ns.length := h
    rw [PyProof.Rows.firstMet_succ, dedI_first ns i (Nat.le_of_lt hi)]
    have e : ns.take (i + 1) = ns.take i ++ [ns.getD i 0] := by
      rw [List.take_succ, List.getD_eq_getElem?_getD, List.getElem?_eq_getElem hi]
      rfl
    rw [e]
    unfold dedI
    rw [List.foldl_append]
    rfl
theorem pe_lenSetD {X : Cx} {t : TE} (gl : Gl X "len") (fl : X.mg "len" = none) (gs : Gl X "set") (fs : X.mg "set" = none) (ha : PE X x t) (hc : X.calm = true) (na : isStar x = false) :
    PE X (.Call (.Name "len" pos) [.Call (.Name "set" pos1) [x] [] pos2] [] pos3) (fun σ H Q => t σ H fun v H1 => ∃ (l : Addr) (ns : List Int), v = .ref l ∧ Rd H1 l (.lst (ns.map V.int)) ∧ ns.length ≤ 4000 ∧ Q (.int (dedI ns).length) H1) := by
  refine ⟨fun pins s σ H Q I h => ?_⟩
  have one : starEach [x] X.env = (false, eval x X.env) :: starEach [] X.env := star_cons na
  refine Call_ (ld_blt I gl fl boot_len (PyProof.Rows.callWith_builtin1 (PyProof.Rows.args_cons ?_ rfl) rfl rfl))
  refine Call_ (ld_blt I gs fs boot_set (PyProof.Rows.callWith_type1 (PyProof.Rows.args_cons (thn (ha.run pins s σ H _ I h) fun v s1 ⟨w, H1, J1, r1, q1⟩ => PyProof.Rows.args_nil ?_) one) one rfl))
  obtain ⟨l, ns, rfl, hq, few, q1⟩ := q1
  cases r1
  obtain ⟨its, r, pl, _⟩ := J1.list (.inl hq)
  have szI : its.toArray.size = ns.length := by rw [List.size_toArray, ← r.length, List.length_map]
  refine call_set_list (J1.ok.hd hc) pl.isList (by simpa using RZ.intsAre_vals r) (by rw [szI]; unfold scanBound; omega) fun h' tk isS old => PyProof.Rows.args_nil ?_
  rw [szI, dedI_first ns ns.length (Nat.le_refl _), List.take_length] at isS
  obtain ⟨o, es, ep, t, ho, hex, hd, _, _, _, hf, hn⟩ := isS
  have J2 : Inv X pins σ H1 { s1 with heap := h', toks := tk } := J1.kept fun b o e => old b o (Heap.lt_size e) e
  have small : (dedI ns).length ≤ 4000 := by
    have h1 := PyProof.Rows.firstMet_length_le (fun i => ns.getD i 0) ns.length
    rw [dedI_first ns ns.length (Nat.le_refl _), List.take_length] at h1
    omega
  exact call_len_set ho hex hd hf (by rw [hn]; omega) ⟨.int (dedI ns).length, H1, J2.tok _, ⟨_, by rw [hn]⟩, q1⟩
theorem good_lenSet (ha : GoodE c cf k a x) (na : isStar x = false) (hl : ("len" : Str) ∈ c.fr) (gl : gloB c.sc "len" = true) (hs : ("set" : Str) ∈ c.fr) (gs : gloB c.sc "set" = true) :
    GoodE c cf k (.lenSet a) (.Call (.Name "len" pos) [.Call (.Name "set" pos1) [x] [] pos2] [] pos3) := by
  intro X ok F G H S σ e Q W tk l hq
  refine ofE (pe_lenSetD (ok.glo gl) (ok.gb.fr _ hl) (ok.glo gs) (ok.gb.fr _ hs) pe_w ok.calm na) ?_
  refine rvE ha ok tk l hq fun ra e1 v H1 G1 s1 l1 r1 hp => ?_
  obtain ⟨G2, s2, l2, r2⟩ := r1.nrm l1
  cases q1 : rd ra e1 with
  | none => rw [q1] at hp; exact hp.elim
  | some w =>
    rw [q1] at hp
    dsimp only [Option.bind] at hp
    cases q2 : lenSetD w with
    | none => rw [q2] at hp; exact hp.elim
    | some n =>
      rw [q2] at hp
      cases w with
      | list xs =>
        obtain ⟨ns, h1, h2⟩ := Option.bind_eq_some_iff.mp (show (intsOf xs).bind (fun is => if is.length ≤ 4000 then some ((dedI is).length : Int) else none) = some n from q2)
        split at h2
        · rename_i few
          cases h2
          obtain ⟨p, us, rfl, h3, h4⟩ := (r2.rd l2 q1).lst l2.g
          obtain ⟨rfl, rfl⟩ := ints_of h4 h1
          exact ⟨p, ns, rfl, h3, few, (Po.mono s2 hp) _ H1 G2 (Same.refl G2) l2 (.int _)⟩
        · cases h2
      | _ => cases q2

/-! ### sorted(set(xs)) of tuples of ints -/
theorem cr_setOfTup {X : Cx} (hc : X.calm = true) (room : X.A.units + 64 < cLine) : CallR X (.type "set") (fun xs H Q => ∃ (l : Addr) (rows : List (Addr × List Int)), xs = [V.ref l] ∧ Rd H l (.tup (rows.map fun p => V.ref p.1)) ∧ (∀ p ∈ rows, SqT X.K H p.1 (p.2.map V.int)) ∧ rows.length < 64 ∧
    ∀ a L, H a = none → (∀ p ∈ L, p ∈ rows) → (∀ p ∈ rows, p.2 ∈ L.map (·.2)) → Q (.ref a) (upd H a (SetTO X.prog X.w a L))) := by
  intro pins s σ H xs us Q I r h
  obtain ⟨l, rows, rfl, isT, each, few, q⟩ := h
  rw [Vals.ref1 r]
  obtain ⟨its, rv, pl, _⟩ := I.tuple (.inl isT)
  have new : H s.heap.objs.size = none := I.hok.fresh (Nat.le_refl _)
  refine set_of_tup (P := X.prog) (w := X.w) rows (I.ok.hd hc) (show s.heap.IsTuple l its.toArray from pl) (by simpa using refs_of_vals rv) (fun p hp => I.isT (each p hp)) few (by omega) fun h' tk L es ep t R got old => ?_
  exact ⟨.ref s.heap.objs.size, upd H s.heap.objs.size (SetTO X.prog X.w s.heap.objs.size L), I.laid (t' := tk) old (Nat.le_refl _) (setTO_new R.t0), rfl, q _ L new (fun p hp => List.mem_of_mem_take (got.sub p hp)) fun p hp => got.all p (by rw [List.take_length]; exact hp)⟩
theorem rows_of {G : Hp} : ∀ {us : List V} {xs : List D} {rs : List (List Int)}, DpAll KZ G us xs → rowsI xs = some rs → ∃ rows : List (Addr × List Int), us = rows.map (fun p => V.ref p.1) ∧ rs = rows.map (·.2) ∧ ∀ p ∈ rows, Rd G p.1 (.tup (p.2.map V.int))
  | [], [], rs, _, h => by
    cases h
    exact ⟨[], rfl, rfl, fun _ z => nomatch z⟩
  | u :: us, d :: xs, rs, .cons h1 h2, h => by
    cases d with
    | tuple ds =>
      have h : (match intsOf ds, rowsI xs with
        | some is, some rs => some (is :: rs)
        | _, _ => none) = some rs := h
      cases q1 : intsOf ds with
      | none => rw [q1] at h; cases h
      | some is =>
        cases q2 : rowsI xs with
        | none => rw [q1, q2] at h; cases h
        | some rs' =>
          rw [q1, q2] at h
          cases h
          obtain ⟨rows, e1, e2, e3⟩ := rows_of h2 q2
          cases h1 with
          | @tup b vs _ hs ha =>
            obtain ⟨e4, _⟩ := ints_of ha q1
            subst e4
            refine ⟨(b, is) :: rows, by rw [e1]; rfl, by rw [e2]; rfl, fun p hp => ?_⟩
            rcases List.mem_cons.mp hp with rfl | hp
            · exact rt_of hs
            · exact e3 p hp
    | _ => cases h
theorem code_nn {B : Int} (hB : 0 < B) : ∀ {r : List Int}, TS.Bd B r → 0 ≤ TS.code B r ∧ TS.code B r < B ^ r.length
  | [], _ => by
    show (0 : Int) ≤ 0 ∧ (0 : Int) < B ^ 0
    simp
  | m :: r, h => by
    obtain ⟨h1, h2⟩ := code_nn hB h.tail
    obtain ⟨h3, h4⟩ := h.head
    have hp : (0 : Int) < B ^ r.length := Int.pow_pos hB
    show 0 ≤ m * B ^ r.length + TS.code B r ∧ m * B ^ r.length + TS.code B r < B ^ (r.length + 1)
    have h5 : 0 ≤ m * B ^ r.length := Int.mul_nonneg h3 (Int.le_of_lt hp)
    have h6 : (m + 1) * B ^ r.length ≤ B * B ^ r.length := Int.mul_le_mul_of_nonneg_right (by omega) (Int.le_of_lt hp)
    rw [Int.add_mul, Int.one_mul] at h6
    have h7 : B ^ (r.length + 1) = B * B ^ r.length := by rw [Int.pow_succ, Int.mul_comm]
    rw [h7]
    exact ⟨by omega, by omega⟩
theorem code_lt {B : Int} (hB : 0 < B) : ∀ {r s : List Int}, r.length = s.length → TS.Bd B r → TS.Bd B s → ltL r s = true → TS.code B r < TS.code B s
  | [], _, _, _, _, h => by cases h
  | _ :: _, [], h, _, _, _ => by cases h
  | m :: r, n :: s, hl, h1, h2, h => by
    have hl : r.length = s.length := by simpa using hl
    show m * B ^ r.length + TS.code B r < n * B ^ s.length + TS.code B s
    rcases ltL_cons.mp h with q | ⟨e, q⟩
    · obtain ⟨_, c1⟩ := code_nn hB h1.tail
      obtain ⟨c2, _⟩ := code_nn hB h2.tail
      have hp : (0 : Int) < B ^ r.length := Int.pow_pos hB
      have h6 : (m + 1) * B ^ r.length ≤ n * B ^ r.length := Int.mul_le_mul_of_nonneg_right (by omega) (Int.le_of_lt hp)
      rw [Int.add_mul, Int.one_mul] at h6
      rw [← hl]
      omega
    · have := code_lt hB hl h1.tail h2.tail q
      rw [e, hl]
      omega
theorem le_sum : ∀ {l : List Int} {n : Int}, (∀ m ∈ l, 0 ≤ m) → n ∈ l → n ≤ l.sum
  | m :: l, n, h, hn => by
    have s0 : 0 ≤ l.sum := by
      have h' : ∀ m ∈ l, 0 ≤ m := fun m hm => h m (List.mem_cons_of_mem _ hm)
      clear h hn
      induction l with
      | nil => exact Int.le_refl 0
      | cons a r ih =>
        rw [List.sum_cons]
        have := h' a List.mem_cons_self
        have := ih fun m hm => h' m (List.mem_cons_of_mem _ hm)
        omega
    rw [List.sum_cons]
    rcases List.mem_cons.mp hn with rfl | hn
    · omega
    · have := le_sum (fun m hm => h m (List.mem_cons_of_mem _ hm)) hn
      have := h m List.mem_cons_self
      omega
theorem even_ok {rs : List (List Int)} (h : evenRows rs = true) : ∃ (d : Nat) (B : Int), 1 ≤ d ∧ 0 < B ∧ ∀ r ∈ rs, r.length = d ∧ TS.Bd B r := by
  cases rs with
  | nil => exact ⟨1, 1, Nat.le_refl _, by omega, fun _ z => nomatch z⟩
  | cons r0 t =>
    simp only [evenRows, Bool.and_eq_true, decide_eq_true_eq, List.all_eq_true] at h
    obtain ⟨h1, h2⟩ := h
    have nn : ∀ m ∈ (r0 :: t).flatten, 0 ≤ m := fun m hm => by
      obtain ⟨r, hr, hm⟩ := List.mem_flatten.mp hm
      exact (h2 r hr).2 m hm
    have s0 : 0 ≤ (r0 :: t).flatten.sum := by
      cases q : (r0 :: t).flatten with
      | nil => exact Int.le_refl 0
      | cons a l =>
        have h3 := nn a (by rw [q]; exact List.mem_cons_self)
        have h4 := le_sum (l := a :: l) (n := a) (by rw [← q]; exact nn) List.mem_cons_self
        omega
    refine ⟨r0.length, (r0 :: t).flatten.sum + 1, h1, by omega, fun r hr => ⟨(h2 r hr).1, fun m hm => ⟨(h2 r hr).2 m hm, ?_⟩⟩⟩
    have := le_sum nn (List.mem_flatten.mpr ⟨r, hr, hm⟩)
    omega
theorem boot_sorted' : bootBuiltins ("sorted" : Str) = some (.builtin "sorted") := PyProof.Rows.boot_sorted
theorem dps_rows {G : Hp} : ∀ L : List (Addr × List Int), (∀ p ∈ L, Rd G p.1 (.tup (p.2.map V.int))) → DpAll KZ G (L.map fun q => V.ref q.1) ((L.map (·.2)).map rowD)
  | [], _ => .nil
  | p :: L, h => .cons (.tup (.inl (h p List.mem_cons_self)) (dpInts p.2)) (dps_rows L fun q hq => h q (List.mem_cons_of_mem _ hq))
where dpInts {G : Hp} : ∀ ns : List Int, DpAll KZ G (ns.map V.int) (ns.map .int)
  | [] => .nil
  | n :: ns => .cons (.int n) (dpInts ns)
theorem good_sortSet (ha : GoodE c cf k a x) (na : isStar x = false) (hl : ("sorted" : Str) ∈ c.fr) (gl : gloB c.sc "sorted" = true) (hs : ("set" : Str) ∈ c.fr) (gs : gloB c.sc "set" = true) :
    GoodE c cf k (.sortSet a) (.Call (.Name "sorted" pos) [.Call (.Name "set" pos1) [x] [] pos2] [] pos3) := by
  intro X ok F G H S σ e Q W tk l hq
  refine ofE (pe_callB (id := "sorted") oC_ok (ok.glo gl) (ok.gb.fr _ hl) boot_sorted' (pa_cons (pe_callTy (T := "set") oC_ok (ok.glo gs) (ok.gb.fr _ hs) boot_set (pa_cons pe_w pa_nil (star_cons na)) (by decide) (by decide) (star_cons na) rfl) pa_nil rfl)) ?_
  refine rvE ha ok tk l hq fun ra e1 v H1 G1 s1 l1 r1 hp => ?_
  obtain ⟨G2, s2, l2, r2⟩ := r1.nrm l1
  cases q1 : rd ra e1 with
  | none => rw [q1] at hp; exact hp.elim
  | some w =>
    rw [q1] at hp
    dsimp only [Option.bind] at hp
    cases q2 : sortSetD w with
    | none => rw [q2] at hp; exact hp.elim
    | some out =>
      rw [q2] at hp
      have hp := Po.mono s2 hp
      obtain ⟨xs, h1, h2⟩ := Option.bind_eq_some_iff.mp q2
      obtain ⟨rs, h3, h4⟩ := Option.bind_eq_some_iff.mp h2
      split at h4
      case isFalse => cases h4
      rename_i hc
      obtain ⟨few, ev⟩ := hc
      cases h4
      obtain ⟨d, B, hd, hB, each⟩ := even_ok ev
      have room : X.A.units + 64 < cLine := by
        have := ok.room.un
        omega
      -- behind set(..), whatever it was made of
      have last : ∀ (rows : List (Addr × List Int)) (b : Addr) (L : List (Addr × List Int)), rs = rows.map (·.2) → (∀ p ∈ rows, Rd G2 p.1 (.tup (p.2.map V.int))) → H1 b = none → (∀ p ∈ L, p ∈ rows) → (∀ p ∈ rows, p.2 ∈ L.map (·.2)) → oC X (.builtin "sorted") [.ref b] (upd H1 b (SetTO X.prog X.w b L)) Q := by
        intro rows b L er rdr hb sub all
        have inR : ∀ p ∈ L, p.2.length = d ∧ TS.Bd B p.2 := fun p hp => each p.2 (by rw [er]; exact List.mem_map.mpr ⟨p, sub p hp, rfl⟩)
        have l3 := l2.newH (o := SetTO X.prog X.w b L) hb
        refine oC_of (cr_sortedT ok.calm) ⟨b, L, d, B, rfl, upd_same, fun p hp => .inl (Rd.same l3.g (rdr p (sub p hp))), hd, inR, fun L' p pm nd lt pw hp' => ?_⟩
        have mem : ∀ q, q ∈ L' ↔ q ∈ L := fun q => pm.mem_iff
        have srt : SortedU (L'.map (·.2)) := by
          rw [SortedU, List.pairwise_map]
          have nd' := List.pairwise_map.mp nd
          refine List.Pairwise.imp_of_mem (fun {u v} hu hv h => ?_) (List.Pairwise.and nd' pw)
          obtain ⟨ne, le⟩ := h
          obtain ⟨a1, a2⟩ := inR u ((mem u).mp hu)
          obtain ⟨b1, b2⟩ := inR v ((mem v).mp hv)
          rcases ltL_tri (x := u.2) (y := v.2) (a1.trans b1.symm) with e | e | e
          · exact absurd e ne
          · exact e
          · have := code_lt hB (b1.trans a1.symm) b2 a2 e
            omega
        obtain ⟨su1, su2⟩ := sortU_ok (rs := rs) (d := d) fun r hr => (each r hr).1
        have eq : L'.map (·.2) = sortU rs := sorted_uniq srt su1 fun z => by
          rw [su2, er, List.mem_map, List.mem_map]
          constructor
          · rintro ⟨q, hq, rfl⟩
            exact ⟨q, sub q ((mem q).mp hq), rfl⟩
          · rintro ⟨q, hq, rfl⟩
            obtain ⟨q', hq', e⟩ := List.mem_map.mp (all q hq)
            exact ⟨q', (mem q').mpr hq', e⟩
        have dps := dps_rows (G := G2) L' fun q hq => rdr q (sub q ((mem q).mp hq))
        rw [eq] at dps
        exact fin_l l3 hp' dps fun z H' G' s' l' r' => hp z H' G' s' l' r'
      rcases items_of (r2.rd l2 q1) l2.g h1 with ⟨p, us, rfl, rfl, h5, h6⟩ | ⟨p, us, rfl, rfl, h5, h6⟩
      · obtain ⟨rows, rfl, er, rdr⟩ := rows_of h6 h3
        exact oC_of (cr_setOfT ok.calm room) ⟨p, rows, rfl, .inl h5, fun q hq => .inl (Rd.same l2.g (rdr q hq)), by rw [er, List.length_map] at few; exact few, fun b L hb sub all => last rows b L er rdr hb sub all⟩
      · obtain ⟨rows, rfl, er, rdr⟩ := rows_of h6 h3
        exact oC_of (cr_setOfTup ok.calm room) ⟨p, rows, rfl, Rd.same l2.g h5, fun q hq => .inl (Rd.same l2.g (rdr q hq)), by rw [er, List.length_map] at few; exact few, fun b L hb sub all => last rows b L er rdr hb sub all⟩
end
end L2.Mp
set_option Elab.async false
set_option linter.all false
set_option maxRecDepth 100000
set_option maxHeartbeats 4000000
namespace L2.Mp
open PySem PySem.Spec PyProof.Rows L2
def free (c : Ct) (n : Str) : Bool := c.fr.contains n && gloB c.sc n
def isTT : T → Bool
  | .tT _ => true
  | _ => false
def chk : T → Ct → Node → Bool
  | .var i, c => onE fun x => match x with
    | .Name n _ => decide (c.N[i]? = some n) && visB c.sc n && !dbg n && !(n == ("__classdict__" : Str))
    | _ => false
  | .glo _ d, c => onE fun x => match x with
    | .Name n _ => gloB c.sc n && !dbg n && (match c.gl.lookup n with
      | some d' => eqD d' d
      | none => false)
    | _ => false
  | .const d, _ => onE fun x => match x with
    | .Constant q _ _ => constD q d
    | _ => false
  | .bin op a b, c => onE fun x => match x with
    | .BinOp y o z _ => decide (o = op) && chk a c (.e y) && chk b c (.e z)
    | _ => false
  | .neg a, c => onE fun x => match x with
    | .UnaryOp .USub y _ => chk a c (.e y)
    | _ => false
  | .notT a, c => onET (fun x => match x with
    | .UnaryOp .Not y _ => chk a c (.e y)
    | _ => false) (fun x => match x with
    | .UnaryOp .Not y _ => chk a c (.t y)
    | _ => false)
  | .cmp op a b, c => onET (fun x => match x with
    | .Compare y [o] [z] _ => decide (o = op) && chk a c (.e y) && chk b c (.e z) && !behindInMarks op z
    | _ => false) (fun x => match x with
    | .Compare y [o] [z] _ => decide (o = op) && chk a c (.e y) && chk b c (.e z) && !behindInMarks op z
    | _ => false)
  | .chain op op' a b d, c => onET (fun x => match x with
    | .Compare y [o, o'] [z, u] _ => decide (o = op) && decide (o' = op') && chk a c (.e y) && chk b c (.e z) && chk d c (.e u) && !lastMarks [op, op'] [z, u]
    | _ => false) (fun x => match x with
    | .Compare y [o, o'] [z, u] _ => decide (o = op) && decide (o' = op') && chk a c (.e y) && chk b c (.e z) && chk d c (.e u) && !lastMarks [op, op'] [z, u]
    | _ => false)
  | .one a, c => onB (fun x => match x with
    | .BoolOp _ [y] _ => chk a c (.e y)
    | _ => false) (fun x => match x with
    | .BoolOp _ [y] _ => chk a c (.t y)
    | _ => false)
  | .and a b, c => onB (fun x => match x with
    | .BoolOp .And (y :: z :: r) p => chk a c (.e y) && chk b c (.e (.BoolOp .And (z :: r) p))
    | _ => false) (fun x => match x with
    | .BoolOp .And (y :: z :: r) p => chk a c (.t y) && chk b c (.w (.BoolOp .And (z :: r) p))
    | _ => false)
  | .or a b, c => onB (fun x => match x with
    | .BoolOp .Or (y :: z :: r) p => chk a c (.e y) && chk b c (.e (.BoolOp .Or (z :: r) p))
    | _ => false) (fun x => match x with
    | .BoolOp .Or (y :: z :: r) p => chk a c (.t y) && chk b c (.w (.BoolOp .Or (z :: r) p))
    | _ => false)
  | .ite d a b, c => onET (fun x => match x with
    | .IfExp z x y _ => chk d c (.t z) && chk a c (.e x) && chk b c (.e y)
    | _ => false) (fun x => match x with
    | .IfExp z x y _ => chk d c (.t z) && chk a c (.t x) && chk b c (.t y)
    | _ => false)
  | .call f fl as, c => onE fun x => match x with
    | .Call (.Name n _) (y :: ys) [] _ => decide (n = f) && chk as c (.l (y :: ys)) && decide (c.fns.lookup f = some fl.length) && gloB c.sc f && !dbg f && (y :: ys).all fun z => !isStar z
    | _ => false
  | .prim p as, c => onE fun x => match x with
    | .Call (.Name n _) (y :: ys) [] _ => (match primT p with
      | some (nm, _, _) => decide (n = nm)
      | none => false) && chk as c (.l (y :: ys)) && free c n && (y :: ys).all fun z => !isStar z
    | _ => false
  | .isi a ts, c => onE fun x => match x with
    | .Call (.Name n _) [x, y] [] _ => decide (n = "isinstance") && chk a c (.e x) && !isStar x && free c "isinstance" && (match y with
      | .Tuple ys _ _ => areNames c ts ys && decide (ts.length ≤ 100)
      | y => (match ts with
        | [u] => isName c u y
        | _ => false))
    | _ => false
  | .lenSet a, c => onE fun x => match x with
    | .Call (.Name n _) [.Call (.Name m _) [y] [] _] [] _ => decide (n = "len") && decide (m = "set") && chk a c (.e y) && !isStar y && free c "len" && free c "set"
    | _ => false
  | .sortSet a, c => onE fun x => match x with
    | .Call (.Name n _) [.Call (.Name m _) [y] [] _] [] _ => decide (n = "sorted") && decide (m = "set") && chk a c (.e y) && !isStar y && free c "sorted" && free c "set"
    | _ => false
  | .tup es, c => onE fun x => match x with
    | .Tuple xs _ _ => chk es c (.l xs)
    | _ => false
  | .lst es, c => onE fun x => match x with
    | .List xs _ => chk es c (.l xs)
    | _ => false
  | .lrep es b, c => onE fun x => match x with
    | .BinOp (.List xs _) .Mult y _ => chk es c (.l xs) && chk b c (.e y)
    | _ => false
  | .idx a b, c => onE fun x => match x with
    | .Subscript x y _ => chk a c (.e x) && chk b c (.e y) && !isSlice y
    | _ => false
  | .slc a lo hi, c => onE fun x => match x with
    | .Subscript x (.Slice ol oh none _) _ => chk a c (.e x) && (match ol with
      | none => isAbs lo
      | some y => !isAbs lo && chk lo c (.e y)) && (match oh with
      | none => isAbs hi
      | some y => !isAbs hi && chk hi c (.e y))
    | _ => false
  | .comp elt tg src cond own, c => onC fun x => match x with
    | .ListComp ex [⟨tgx, itx, ifs, 0⟩] scope _ => chk src c (.i tgx itx) && blkC c.N c.sc scope (ownOf c.N own) && chk tg { c with sc := scope } (.g tgx) && (match ifs with
      | [] => isAbs cond
      | [z] => !isAbs cond && chk cond { c with sc := scope } (.t z)
      | _ => false) && chk elt { c with sc := scope } (.e ex) && (idxs tg).all (fun i => own.contains i) && notSet itx
    | _ => false
  | .comp2 elt tg src cond tg2 src2 cond2 own own2, c => onC fun x => match x with
    | .ListComp ex [⟨tgx, itx, ifs, 0⟩, ⟨tg2x, it2, ifs2, 0⟩] scope _ => chk src c (.i tgx itx) && blkC c.N c.sc scope (ownOf c.N own) && chk tg { c with sc := scope } (.g tgx) && (match ifs with
      | [] => isAbs cond
      | [z] => !isAbs cond && chk cond { c with sc := scope } (.t z)
      | _ => false) && chk src2 { c with sc := scope } (.i tg2x it2) && chk tg2 { c with sc := scope } (.g tg2x) && (match ifs2 with
      | [] => isAbs cond2
      | [z] => !isAbs cond2 && chk cond2 { c with sc := scope } (.t z)
      | _ => false) && chk elt { c with sc := scope } (.e ex) && (idxs tg).all (fun i => own.contains i) && (idxs tg2).all (fun i => own2.contains i) && own2.all (fun i => own.contains i) && notSet itx && notSet it2
    | _ => false
  | .absent, _ => fun _ => false
  | .nil, _ => fun n => match n with
    | .l [] => true
    | .gs [] => true
    | _ => false
  | .cons a r, c => fun n => match n with
    | .l (x :: xs) => chk a c (.e x) && chk r c (.l xs) && !isStar x
    | .gs (x :: xs) => chk a c (.g x) && chk r c (.gs xs) && !isStar x
    | _ => false
  | .sSeq a, c => onI fun _ x => chk a c (.e x)
  | .sR1 a, c => onI fun _ x => match x with
    | .Call (.Name n _) [x] [] _ => decide (n = "range") && chk a c (.e x) && !isStar x && free c "range"
    | _ => false
  | .sR2 a b, c => onI fun _ x => match x with
    | .Call (.Name n _) [x, y] [] _ => decide (n = "range") && chk a c (.e x) && chk b c (.e y) && !isStar x && !isStar y && free c "range"
    | _ => false
  | .sZip a b, c => onI fun tg x => match tg, x with
    | .Tuple _ _ _, .Call (.Name n _) [x, y] [] _ => decide (n = "zip") && chk a c (.e x) && chk b c (.e y) && !isStar x && !isStar y && free c "zip"
    | _, _ => false
  | .sEnum a, c => onI fun tg x => match tg, x with
    | .Tuple _ _ _, .Call (.Name n _) [x] [] _ => decide (n = "enumerate") && chk a c (.e x) && !isStar x && free c "enumerate"
    | _, _ => false
  | .tN i, c => onG fun x => match x with
    | .Name n _ => decide (c.N[i]? = some n) && locB c.sc n
    | _ => false
  | .tT es, c => onG fun x => match x with
    | .Tuple xs _ _ => chk es c (.gs xs) && xs.all (fun z => !isStar z) && tlen es == xs.length
    | _ => false
  | .asg tg x, c => onS fun st => match st with
    | .Assign [t] v ln => (match t with
      | .Name n py => (match tg with
        | .tN i => decide (c.N[i]? = some n) && locB c.sc n && (if notComp v then chk x c (.e v) else chk x c (.cs n py v ln))
        | _ => false)
      | .Tuple xs j p => isTT tg && chk tg c (.g (.Tuple xs j p)) && chk x c (.e v) && (noSwap (.Tuple xs j p) v || xs.any (cellT c))
      | _ => false)
    | _ => false
  | .par i j a b, c => onS fun st => match st with
    | .Assign [.Tuple [.Name n px, .Name m py] _ _] (.Tuple [x, y] _ _) _ => decide (c.N[i]? = some n) && decide (c.N[j]? = some m) && decide (i ≠ j) && decide (n ≠ m) && decide (c.sc.names.lookup n = some .local) && decide (c.sc.names.lookup m = some .local) && (py.line == px.line)
      && !isStar x && !isStar y && !(foldedForSure 8 x && foldedForSure 8 y) && !(constantsAlone 8 x && constantsAlone 8 y) && chk a c (.e x) && chk b c (.e y)
    | _ => false
  | .ifS d a b, c => onS fun st => match st with
    | .If x t u _ => chk d c (.t x) && chk a c (.b t) && chk b c (.b u)
    | _ => false
  | .forS tg src body, c => onS fun st => match st with
    | .For tgx itx t [] _ => chk src c (.i tgx itx) && chk tg c (.g tgx) && chk body c (.b t) && notSet itx
    | _ => false
  | .whileS a body, c => onS fun st => match st with
    | .While x t [] _ => chk a c (.t x) && chk body c (.b t)
    | _ => false
  | .ret a, c => onS fun st => match st with
    | .Return (some x) _ => chk a c (.e x)
    | .Return none _ => (match a with
      | .const .none => true
      | _ => false)
    | _ => false
  | .expr a, c => onS fun st => match st with
    | .Expr x _ => notComp x && chk a c (.e x)
    | _ => false
  | .app i a, c => onS fun st => match st with
    | .Expr (.Call (.Attribute (.Name n _) m apos) [x] [] cpos) _ => decide (m = "append") && decide (c.N[i]? = some n) && visB c.sc n && !dbg n && !(n == ("__classdict__" : Str)) && !isStar x && (apos.endLine == cpos.line) && chk a c (.e x)
    | _ => false
  | .ext i a, c => onS fun st => match st with
    | .Expr (.Call (.Attribute (.Name n _) m apos) [x] [] cpos) _ => decide (m = "extend") && decide (c.N[i]? = some n) && visB c.sc n && !dbg n && !(n == ("__classdict__" : Str)) && !isStar x && (apos.endLine == cpos.line) && chk a c (.e x)
    | _ => false
  | .setIx i b a, c => onS fun st => match st with
    | .Assign [.Subscript (.Name n _) y _] v _ => decide (c.N[i]? = some n) && visB c.sc n && !dbg n && !(n == ("__classdict__" : Str)) && notComp v && !isSlice y && chk b c (.e y) && chk a c (.e v)
    | _ => false
  | .never, _ => fun n => match n with
    | .e _ => true
    | .t _ => true
    | .w _ => true
    | .l _ => true
    | .i _ _ => true
    | .s _ => true
    | .b _ => true
    | _ => false
  | .brk, _ => onS fun st => match st with
    | .Break _ => true
    | _ => false
  | .cont, _ => onS fun st => match st with
    | .Continue _ => true
    | _ => false
  | .pass, _ => onS fun st => match st with
    | .Pass _ => true
    | _ => false
  | .done, _ => fun n => match n with
    | .b [] => true
    | _ => false
  | .seq a b, c => fun n => match n with
    | .b (st :: sts) => chk a c (.s st) && chk b c (.b sts)
    | _ => false
end L2.Mp
set_option Elab.async false
set_option linter.all false
set_option maxRecDepth 100000
set_option maxHeartbeats 4000000
namespace L2.Mp
open PySem PySem.Spec PyProof.Rows L2
theorem free_of {c : Ct} {n : Str} (h : free c n = true) : n ∈ c.fr ∧ gloB c.sc n = true := by
  simp only [free, Bool.and_eq_true, List.contains_iff_mem] at h
  exact h
theorem prim_nm {p : Prim} {n : Str} (h : (match primT p with
      | some (nm, _, _) => decide (n = nm)
      | none => false) = true) : ∃ ty id, primT p = some (n, ty, id) := by
  cases q : primT p with
  | none => rw [q] at h; cases h
  | some w =>
    obtain ⟨nm, ty, id⟩ := w
    rw [q] at h
    rw [of_decide_eq_true h]
    exact ⟨ty, id, rfl⟩
theorem stars {ys : List Expr} (h : (ys.all fun z => !isStar z) = true) : ∀ z ∈ ys, isStar z = false := fun z hz => by simpa using (List.all_eq_true.mp h) z hz
theorem conds {c : Ct} {cf : CF} {k : Nat} {a : T} {ifs : List Expr} (ih : ∀ n, chk a c n = true → Holds c cf k a n) (h : (match ifs with
      | [] => isAbs a
      | [z] => !isAbs a && chk a c (.t z)
      | _ => false) = true) : GoodC c cf k a ifs := by
  split at h
  · rw [abs_is h]
    exact good_noif
  · simp only [Bool.and_eq_true, Bool.not_eq_true'] at h
    exact good_if (ih (.t _) h.2) (abs_c h.1 cf)
  · cases h
theorem parts {c : Ct} {cf : CF} {k : Nat} {a : T} {o : Option Expr} (ih : ∀ n, chk a c n = true → Holds c cf k a n) (h : (match o with
      | none => isAbs a
      | some y => !isAbs a && chk a c (.e y)) = true) : GoodO c cf k a o := by
  split at h
  · rw [abs_is h]
    exact good_absent
  · simp only [Bool.and_eq_true, Bool.not_eq_true'] at h
    exact good_part (ih (.e _) h.2) (abs_o h.1 cf)
theorem t_never {c : Ct} {cf : CF} {k : Nat} : ∀ n : Node, chk .never c n = true → Holds c cf k .never n
  | .e x, _ => ex_never
  | .t x, _ => fun X ok F G H S σ e Q W tk l hq => hq.elim
  | .w x, _ => fun X ok F G H S σ e Q W tk l hq => hq.elim
  | .l x, _ => fun X ok F G H S σ e Q W tk l hq => hq.elim
  | .i _ x, _ => fun X ok F G H S σ e Q W tk l hq => hq.elim
  | .s x, _ => st_never
  | .b x, _ => fun X ok hp F G H S σ e E W tk l hq => hq.elim
  | .g _, h => by cases h
  | .gs _, h => by cases h
  | .cs _ _ _ _, h => by cases h
theorem chk_ok {cf : CF} {k : Nat} : ∀ (t : T) (c : Ct) (n : Node), chk t c n = true → Holds c cf k t n := by
  intro t
  induction t with
  | var i =>
    intro c n h
    refine onE_ok (fun x h => ?_) h
    split at h
    · simp only [Bool.and_eq_true, decide_eq_true_eq, Bool.not_eq_true'] at h
      exact good_var h.1.1.1 h.1.1.2 h.1.2 h.2
    · cases h
  | glo g d =>
    intro c n h
    refine onE_ok (fun x h => ?_) h
    split at h
    · rename_i m p
      simp only [Bool.and_eq_true, Bool.not_eq_true'] at h
      obtain ⟨⟨h1, h2⟩, h3⟩ := h
      cases q : c.gl.lookup m with
      | none => rw [q] at h3; cases h3
      | some d' =>
        rw [q] at h3
        rw [← eqD_ok h3]
        exact good_glo (n := m) h1 q h2
    · cases h
  | const d =>
    intro c n h
    refine onE_ok (fun x h => ?_) h
    split at h
    · exact const_ok h
    · cases h
  | bin op a b iha ihb =>
    intro c n h
    refine onE_ok (fun x h => ?_) h
    split at h
    · simp only [Bool.and_eq_true, decide_eq_true_eq] at h
      obtain ⟨⟨rfl, h1⟩, h2⟩ := h
      exact good_bin (iha c _ h1) (ihb c _ h2)
    · cases h
  | neg a iha =>
    intro c n h
    refine onE_ok (fun x h => ?_) h
    split at h
    · exact good_neg (iha c _ h)
    · cases h
  | notT a iha =>
    intro c n h
    refine onET_ok (fun x h => ?_) (fun x h => ?_) h
    · split at h
      · exact good_not (iha c _ h)
      · cases h
    · split at h
      · exact goodT_not (iha c _ h)
      · cases h
  | cmp op a b iha ihb =>
    intro c n h
    refine onET_ok (fun x h => ?_) (fun x h => ?_) h
    · split at h
      · simp only [Bool.and_eq_true, decide_eq_true_eq, Bool.not_eq_true'] at h
        obtain ⟨⟨⟨rfl, h1⟩, h2⟩, h3⟩ := h
        exact good_cmp (iha c _ h1) (ihb c _ h2) h3
      · cases h
    · split at h
      · simp only [Bool.and_eq_true, decide_eq_true_eq, Bool.not_eq_true'] at h
        obtain ⟨⟨⟨rfl, h1⟩, h2⟩, h3⟩ := h
        exact goodT_cmp (iha c _ h1) (ihb c _ h2) h3
      · cases h
  | chain op op' a b d iha ihb ihd =>
    intro c n h
    refine onET_ok (fun x h => ?_) (fun x h => ?_) h
    · split at h
      · simp only [Bool.and_eq_true, decide_eq_true_eq, Bool.not_eq_true'] at h
        obtain ⟨⟨⟨⟨⟨rfl, rfl⟩, h1⟩, h2⟩, h3⟩, h4⟩ := h
        exact good_chain (iha c _ h1) (ihb c _ h2) (ihd c _ h3) h4
      · cases h
    · split at h
      · simp only [Bool.and_eq_true, decide_eq_true_eq, Bool.not_eq_true'] at h
        obtain ⟨⟨⟨⟨⟨rfl, rfl⟩, h1⟩, h2⟩, h3⟩, h4⟩ := h
        exact goodT_chain (iha c _ h1) (ihb c _ h2) (ihd c _ h3) h4
      · cases h
  | one a iha =>
    intro c n h
    refine onB_ok (fun x h => ?_) (fun x h => ?_) h
    · split at h
      · exact good_one (iha c _ h)
      · cases h
    · split at h
      · exact goodW_one (iha c _ h)
      · cases h
  | and a b iha ihb =>
    intro c n h
    refine onB_ok (fun x h => ?_) (fun x h => ?_) h
    · split at h
      · simp only [Bool.and_eq_true] at h
        exact good_and (iha c _ h.1) (ihb c _ h.2)
      · cases h
    · split at h
      · simp only [Bool.and_eq_true] at h
        exact goodW_and (iha c _ h.1) (ihb c _ h.2)
      · cases h
  | or a b iha ihb =>
    intro c n h
    refine onB_ok (fun x h => ?_) (fun x h => ?_) h
    · split at h
      · simp only [Bool.and_eq_true] at h
        exact good_or (iha c _ h.1) (ihb c _ h.2)
      · cases h
    · split at h
      · simp only [Bool.and_eq_true] at h
        exact goodW_or (iha c _ h.1) (ihb c _ h.2)
      · cases h
  | ite d a b ihd iha ihb =>
    intro c n h
    refine onET_ok (fun x h => ?_) (fun x h => ?_) h
    · split at h
      · simp only [Bool.and_eq_true] at h
        exact good_ite (ihd c _ h.1.1) (iha c _ h.1.2) (ihb c _ h.2)
      · cases h
    · split at h
      · simp only [Bool.and_eq_true] at h
        exact goodT_ite (ihd c _ h.1.1) (iha c _ h.1.2) (ihb c _ h.2)
      · cases h
  | call f fl as iha =>
    intro c n h
    refine onE_ok (fun x h => ?_) h
    split at h
    · simp only [Bool.and_eq_true, decide_eq_true_eq, Bool.not_eq_true'] at h
      obtain ⟨⟨⟨⟨⟨rfl, h1⟩, h2⟩, h3⟩, h4⟩, h5⟩ := h
      exact good_call (iha c _ h1) (PySem.mem_of_lookup h2) rfl h3 h4 (stars h5)
    · cases h
  | prim p as iha =>
    intro c n h
    refine onE_ok (fun x h => ?_) h
    split at h
    · simp only [Bool.and_eq_true] at h
      obtain ⟨⟨⟨h1, h2⟩, h3⟩, h4⟩ := h
      obtain ⟨ty, id, h5⟩ := prim_nm h1
      exact prim_ok h5 (iha c _ h2) (free_of h3).1 (free_of h3).2 (stars h4)
    · cases h
  | isi a ts iha =>
    intro c n h
    refine onE_ok (fun x h => ?_) h
    split at h
    · simp only [Bool.and_eq_true, decide_eq_true_eq, Bool.not_eq_true'] at h
      obtain ⟨⟨⟨⟨rfl, h1⟩, h2⟩, h3⟩, h4⟩ := h
      split at h4
      · simp only [Bool.and_eq_true, decide_eq_true_eq] at h4
        exact good_isiT (iha c _ h1) h2 h4.1 h4.2 (free_of h3).1 (free_of h3).2
      · split at h4
        · exact good_isi (iha c _ h1) h2 h4 (free_of h3).1 (free_of h3).2
        · cases h4
    · cases h
  | lenSet a iha =>
    intro c n h
    refine onE_ok (fun x h => ?_) h
    split at h
    · simp only [Bool.and_eq_true, decide_eq_true_eq, Bool.not_eq_true'] at h
      obtain ⟨⟨⟨⟨⟨rfl, rfl⟩, h1⟩, h2⟩, h3⟩, h4⟩ := h
      exact good_lenSet (iha c _ h1) h2 (free_of h3).1 (free_of h3).2 (free_of h4).1 (free_of h4).2
    · cases h
  | sortSet a iha =>
    intro c n h
    refine onE_ok (fun x h => ?_) h
    split at h
    · simp only [Bool.and_eq_true, decide_eq_true_eq, Bool.not_eq_true'] at h
      obtain ⟨⟨⟨⟨⟨rfl, rfl⟩, h1⟩, h2⟩, h3⟩, h4⟩ := h
      exact good_sortSet (iha c _ h1) h2 (free_of h3).1 (free_of h3).2 (free_of h4).1 (free_of h4).2
    · cases h
  | tup es ih =>
    intro c n h
    refine onE_ok (fun x h => ?_) h
    split at h
    · exact good_tup (ih c _ h)
    · cases h
  | lst es ih =>
    intro c n h
    refine onE_ok (fun x h => ?_) h
    split at h
    · exact good_lst (ih c _ h)
    · cases h
  | lrep es b ih ihb =>
    intro c n h
    refine onE_ok (fun x h => ?_) h
    split at h
    · simp only [Bool.and_eq_true] at h
      exact good_lrep (ih c _ h.1) (ihb c _ h.2)
    · cases h
  | idx a b iha ihb =>
    intro c n h
    refine onE_ok (fun x h => ?_) h
    split at h
    · simp only [Bool.and_eq_true, Bool.not_eq_true'] at h
      exact good_idx (iha c _ h.1.1) (ihb c _ h.1.2) h.2
    · cases h
  | slc a lo hi iha ihl ihh =>
    intro c n h
    refine onE_ok (fun x h => ?_) h
    split at h
    · simp only [Bool.and_eq_true] at h
      exact good_slc (iha c _ h.1.1) (parts (ihl c) h.1.2) (parts (ihh c) h.2)
    · cases h
  | comp elt tg src cond own ihe ihg ihs ihc =>
    intro c n h
    refine onC_ok (fun x h => ?_) (fun n py x ln h => ?_) h
    · split at h
      · simp only [Bool.and_eq_true, List.all_eq_true, List.contains_iff_mem] at h
        obtain ⟨⟨⟨⟨⟨⟨h1, h2⟩, h3⟩, h4⟩, h5⟩, h6⟩, h7⟩ := h
        exact good_comp (ihs c _ h1) h2 (ihg _ _ h3) (conds (ihc _) h4) (ihe _ _ h5) h6 h7
      · cases h
    · split at h
      · simp only [Bool.and_eq_true, List.all_eq_true, List.contains_iff_mem] at h
        obtain ⟨⟨⟨⟨⟨⟨h1, h2⟩, h3⟩, h4⟩, h5⟩, h6⟩, h7⟩ := h
        exact fun i hN hl => st_asgC hN hl (ihs c _ h1) h2 (ihg _ _ h3) (conds (ihc _) h4) (ihe _ _ h5) h6 h7
      · cases h
  | comp2 elt tg src cond tg2 src2 cond2 own own2 ihe ihg ihs ihc ihg2 ihs2 ihc2 =>
    intro c n h
    refine onC_ok (fun x h => ?_) (fun n py x ln h => ?_) h
    · split at h
      · simp only [Bool.and_eq_true, List.all_eq_true, List.contains_iff_mem] at h
        obtain ⟨⟨⟨⟨⟨⟨⟨⟨⟨⟨⟨⟨h1, h2⟩, h3⟩, h4⟩, h5⟩, h6⟩, h7⟩, h8⟩, h9⟩, h10⟩, h11⟩, h12⟩, h13⟩ := h
        exact good_comp2 (ihs c _ h1) h2 (ihg _ _ h3) (conds (ihc _) h4) (ihs2 _ _ h5) (ihg2 _ _ h6) (conds (ihc2 _) h7) (ihe _ _ h8) h9 h10 h11 h12 h13
      · cases h
    · split at h
      · simp only [Bool.and_eq_true, List.all_eq_true, List.contains_iff_mem] at h
        obtain ⟨⟨⟨⟨⟨⟨⟨⟨⟨⟨⟨⟨h1, h2⟩, h3⟩, h4⟩, h5⟩, h6⟩, h7⟩, h8⟩, h9⟩, h10⟩, h11⟩, h12⟩, h13⟩ := h
        exact fun i hN hl => st_asgC2 hN hl (ihs c _ h1) h2 (ihg _ _ h3) (conds (ihc _) h4) (ihs2 _ _ h5) (ihg2 _ _ h6) (conds (ihc2 _) h7) (ihe _ _ h8) h9 h10 h11 h12 h13
      · cases h
  | absent => intro c n h; cases h
  | nil =>
    intro c n h
    cases n with
    | l xs =>
      cases xs with
      | nil => exact good_nil
      | cons _ _ => cases h
    | gs xs =>
      cases xs with
      | nil => exact tgts_nil
      | cons _ _ => cases h
    | _ => cases h
  | cons a r iha ihr =>
    intro c n h
    cases n with
    | l xs =>
      cases xs with
      | nil => cases h
      | cons x xs =>
        have h : (chk a c (.e x) && chk r c (.l xs) && !isStar x) = true := h
        simp only [Bool.and_eq_true, Bool.not_eq_true'] at h
        exact good_cons (iha c _ h.1.1) (ihr c _ h.1.2) h.2
    | gs xs =>
      cases xs with
      | nil => cases h
      | cons x xs =>
        have h : (chk a c (.g x) && chk r c (.gs xs) && !isStar x) = true := h
        simp only [Bool.and_eq_true, Bool.not_eq_true'] at h
        exact tgts_cons (iha c _ h.1.1) (ihr c _ h.1.2) h.2
    | _ => cases h
  | sSeq a iha =>
    intro c n h
    exact onI_ok (fun tg x h => src_seq (iha c (.e x) h)) h
  | sR1 a iha =>
    intro c n h
    refine onI_ok (fun tg x h => ?_) h
    split at h
    · simp only [Bool.and_eq_true, decide_eq_true_eq, Bool.not_eq_true'] at h
      obtain ⟨⟨⟨rfl, h1⟩, h2⟩, h3⟩ := h
      exact src_r1 (iha c _ h1) h2 (free_of h3).1 (free_of h3).2
    · cases h
  | sR2 a b iha ihb =>
    intro c n h
    refine onI_ok (fun tg x h => ?_) h
    split at h
    · simp only [Bool.and_eq_true, decide_eq_true_eq, Bool.not_eq_true'] at h
      obtain ⟨⟨⟨⟨⟨rfl, h1⟩, h2⟩, h3⟩, h4⟩, h5⟩ := h
      exact src_r2 (iha c _ h1) (ihb c _ h2) h3 h4 (free_of h5).1 (free_of h5).2
    · cases h
  | sZip a b iha ihb =>
    intro c n h
    refine onI_ok (fun tg x h => ?_) h
    split at h
    · simp only [Bool.and_eq_true, decide_eq_true_eq, Bool.not_eq_true'] at h
      obtain ⟨⟨⟨⟨⟨rfl, h1⟩, h2⟩, h3⟩, h4⟩, h5⟩ := h
      exact src_zip (iha c _ h1) (ihb c _ h2) h3 h4 (free_of h5).1 (free_of h5).2
    · cases h
  | sEnum a iha =>
    intro c n h
    refine onI_ok (fun tg x h => ?_) h
    split at h
    · simp only [Bool.and_eq_true, decide_eq_true_eq, Bool.not_eq_true'] at h
      obtain ⟨⟨⟨rfl, h1⟩, h2⟩, h3⟩ := h
      exact src_enum (iha c _ h1) h2 (free_of h3).1 (free_of h3).2
    · cases h
  | tN i =>
    intro c n h
    refine onG_ok (fun x h => ?_) h
    split at h
    · simp only [Bool.and_eq_true, decide_eq_true_eq] at h
      exact tgt_name h.1 h.2
    · cases h
  | tT es ih =>
    intro c n h
    refine onG_ok (fun x h => ?_) h
    split at h
    · simp only [Bool.and_eq_true, beq_iff_eq] at h
      exact tgt_tup (ih c _ h.1.1) (stars h.1.2) fun ds e e' hb => (tlen_ok hb).trans h.2
    · cases h
  | asg tg x ihg ihx =>
    intro c n h
    refine onS_ok (fun st h => ?_) h
    split at h
    · split at h
      · split at h
        · simp only [Bool.and_eq_true, decide_eq_true_eq] at h
          obtain ⟨⟨h1, h2⟩, h3⟩ := h
          split at h3
          · rename_i hn
            exact st_asgN (ihx c _ h3) h1 h2 hn
          · exact ihx c _ h3 _ h1 h2
        · cases h
      · simp only [Bool.and_eq_true] at h
        obtain ⟨⟨⟨h1, h2⟩, h3⟩, h4⟩ := h
        cases tg with
        | tT es =>
          refine st_asgT (ihx c _ h3) (ihg c _ h2) fun X ok => ?_
          rcases (Bool.or_eq_true _ _).mp h4 with h4 | h4
          · exact no_swap h4 X.env
          · exact no_swapC ok h4
        | _ => cases h1
      · cases h
    · cases h
  | par i j a b iha ihb =>
    intro c n h
    refine onS_ok (fun st h => ?_) h
    split at h
    · simp only [Bool.and_eq_true, decide_eq_true_eq, Bool.not_eq_true'] at h
      obtain ⟨⟨⟨⟨⟨⟨⟨⟨⟨⟨⟨⟨h1, h2⟩, h3⟩, h4⟩, h5⟩, h6⟩, h7⟩, h8⟩, h9⟩, h10⟩, h11⟩, h12⟩, h13⟩ := h
      exact st_par (iha c _ h12) (ihb c _ h13) h1 h2 h3 h8 h9 h5 h6 (swap_is h5 h6 h7 h4 h8 h9 h10 h11)
    · cases h
  | ifS d a b ihd iha ihb =>
    intro c n h
    refine onS_ok (fun st h => ?_) h
    split at h
    · simp only [Bool.and_eq_true] at h
      exact st_if (ihd c _ h.1.1) (iha c _ h.1.2) (ihb c _ h.2)
    · cases h
  | forS tg src body ihg ihs ihb =>
    intro c n h
    refine onS_ok (fun st h => ?_) h
    split at h
    · simp only [Bool.and_eq_true] at h
      exact st_for (ihs c _ h.1.1.1) (ihg c _ h.1.1.2) (ihb c _ h.1.2) h.2
    · cases h
  | whileS a body iha ihb =>
    intro c n h
    refine onS_ok (fun st h => ?_) h
    split at h
    · simp only [Bool.and_eq_true] at h
      exact st_while (iha c _ h.1) (ihb c _ h.2)
    · cases h
  | ret a iha =>
    intro c n h
    refine onS_ok (fun st h => ?_) h
    split at h
    · exact st_ret (iha c _ h)
    · split at h
      · exact st_ret0
      · cases h
    · cases h
  | expr a iha =>
    intro c n h
    refine onS_ok (fun st h => ?_) h
    split at h
    · simp only [Bool.and_eq_true] at h
      exact st_expr (iha c _ h.2) h.1
    · cases h
  | app i a iha =>
    intro c n h
    refine onS_ok (fun st h => ?_) h
    split at h
    · simp only [Bool.and_eq_true, decide_eq_true_eq, Bool.not_eq_true'] at h
      obtain ⟨⟨⟨⟨⟨⟨⟨rfl, h1⟩, h2⟩, h3⟩, h4⟩, h5⟩, h6⟩, h7⟩ := h
      exact st_app (iha c _ h7) h1 h2 h3 h4 h5 h6
    · cases h
  | ext i a iha =>
    intro c n h
    refine onS_ok (fun st h => ?_) h
    split at h
    · simp only [Bool.and_eq_true, decide_eq_true_eq, Bool.not_eq_true'] at h
      obtain ⟨⟨⟨⟨⟨⟨⟨rfl, h1⟩, h2⟩, h3⟩, h4⟩, h5⟩, h6⟩, h7⟩ := h
      exact st_ext (iha c _ h7) h1 h2 h3 h4 h5 h6
    · cases h
  | setIx i b a ihb iha =>
    intro c n h
    refine onS_ok (fun st h => ?_) h
    split at h
    · simp only [Bool.and_eq_true, decide_eq_true_eq, Bool.not_eq_true'] at h
      obtain ⟨⟨⟨⟨⟨⟨⟨h1, h2⟩, h3⟩, h4⟩, h5⟩, h6⟩, h7⟩, h8⟩ := h
      exact st_setIx (ihb c _ h7) (iha c _ h8) h1 h2 h3 h4 h5 h6
    · cases h
  | never => intro c n h; exact t_never n h
  | brk =>
    intro c n h
    refine onS_ok (fun st h => ?_) h
    split at h
    · exact fun X ok hp F G H S σ e E W tk l hq => ofS ps_break (hq σ H G (Same.refl G) l)
    · cases h
  | cont =>
    intro c n h
    refine onS_ok (fun st h => ?_) h
    split at h
    · exact fun X ok hp F G H S σ e E W tk l hq => ofS ps_continue (hq σ H G (Same.refl G) l)
    · cases h
  | pass =>
    intro c n h
    refine onS_ok (fun st h => ?_) h
    split at h
    · exact fun X ok hp F G H S σ e E W tk l hq => ofS ps_pass (hq σ H G (Same.refl G) l)
    · cases h
  | done =>
    intro c n h
    cases n with
    | b xs =>
      cases xs with
      | nil => exact st_done
      | cons _ _ => cases h
    | _ => cases h
  | seq a b iha ihb =>
    intro c n h
    cases n with
    | b xs =>
      cases xs with
      | nil => cases h
      | cons st sts =>
        have h : (chk a c (.s st) && chk b c (.b sts)) = true := h
        simp only [Bool.and_eq_true] at h
        exact st_seq (iha c _ h.1) (ihb c _ h.2)
    | _ => cases h
end L2.Mp
set_option Elab.async false
set_option linter.all false
set_option maxRecDepth 100000
set_option maxHeartbeats 4000000
namespace L2.Mp
open PySem PySem.Spec PyProof.Rows L2

/-! ### the entry of a def -/
theorem paired_get {α β : Type} {R : α → β → Prop} : ∀ {xs : List α} {ys : List β} {i : Nat} {y : β}, Paired R xs ys → ys[i]? = some y → ∃ x, xs[i]? = some x ∧ R x y
  | _, _, 0, y, .cons h _, e => by
    cases e
    exact ⟨_, rfl, h⟩
  | _, _, i + 1, y, .cons _ h, e => paired_get (i := i) h e
  | _, _, _, _, .nil, e => by simp at e
theorem paired_len {α β : Type} {R : α → β → Prop} : ∀ {xs : List α} {ys : List β}, Paired R xs ys → xs.length = ys.length
  | _, _, .nil => rfl
  | _, _, .cons _ h => congrArg (· + 1) (paired_len h)
def slotOf : Arg → Slot
  | .d d => .val d
  | .io ds => .own true ds
theorem startF_eq (n : Nat) (as : List Arg) : startF n as = as.map slotOf ++ List.replicate (n - as.length) Slot.no := by
  unfold startF
  congr 2
theorem startF_get {n : Nat} {as : List Arg} {i : Nat} {s : Slot} (h : (startF n as)[i]? = some s) : (∃ a, as[i]? = some a ∧ s = slotOf a) ∨ s = .no := by
  rw [startF_eq] at h
  by_cases hi : i < (as.map slotOf).length
  · rw [List.getElem?_append_left hi, List.getElem?_map] at h
    cases q : as[i]? with
    | none => rw [q] at h; cases h
    | some a =>
      rw [q] at h
      cases h
      exact .inl ⟨a, rfl, rfl⟩
  · rw [List.getElem?_append_right (by omega)] at h
    exact .inr (List.mem_replicate.mp (List.mem_of_getElem? h)).2
theorem start_get {N : List Str} {vs : List V} {i : Nat} {v : V} (h : vs[i]? = some v) : (start N vs)[i]? = some (some v) := by
  have hi : i < vs.length := (List.getElem?_eq_some_iff.mp h).1
  unfold start
  rw [List.getElem?_append_left (by rw [List.length_map]; exact hi), List.getElem?_map, h]
  rfl
theorem rl_start {F G H : Hp} {N : List Str} {vs : List V} {as : List Arg} (g : Same G H) (f : Same F H) (fg : ∀ b o, G b = some o → F b = none) (pa : Paired (ArgOk KZ F G H) vs as)
    (once : ∀ (i j : Nat) (a : Addr) (ds es : List D), as[i]? = some (.io ds) → as[j]? = some (.io es) → vs[i]? = some (.ref a) → vs[j]? = some (.ref a) → i = j) : Rl KZ F G H (start N vs) (start N vs) (startF N.length as) := by
  have io : ∀ (i : Nat) (q : Bool) (ds : List D), (startF N.length as)[i]? = some (.own q ds) → as[i]? = some (.io ds) ∧ ∃ (a : Addr) (us : List V), vs[i]? = some (.ref a) ∧ H a = some (.lst us) ∧ G a = none ∧ F a = none ∧ DpAll KZ G us ds := fun i q ds h => by
    rcases startF_get h with ⟨a, h1, h2⟩ | h2
    · cases a with
      | d d => cases h2
      | io es =>
        cases h2
        obtain ⟨v, h3, a, us, rfl, h4⟩ := paired_get pa h1
        exact ⟨h1, a, us, h3, h4⟩
    · cases h2
  refine ⟨g, f, fg, ?_, fun i d h => ?_, fun i q ds h => ?_, fun i j q r ds es a h1 h2 h3 h4 => ?_⟩
  · have := paired_len pa
    rw [startF_eq, List.length_append, List.length_map, List.length_replicate]
    unfold start
    rw [List.length_append, List.length_map, List.length_replicate]
    omega
  · rcases startF_get h with ⟨a, h1, h2⟩ | h2
    · cases a with
      | d d' =>
        cases h2
        obtain ⟨v, h3, h4⟩ := paired_get pa h1
        exact ⟨v, start_get h3, h4⟩
      | io es => cases h2
    · cases h2
  · obtain ⟨h1, a, us, h2, h3, h4, h5, h6⟩ := io i q ds h
    exact ⟨a, us, start_get h2, h3, h4, h5, h6, fun _ => start_get h2⟩
  · obtain ⟨p1, a1, _, p2, _⟩ := io i q ds h1
    obtain ⟨p3, a2, _, p4, _⟩ := io j r es h2
    rw [start_get p2] at h3
    rw [start_get p4] at h4
    cases h3
    cases h4
    exact once i j a ds es p1 p3 p2 p4
/-! ### its end -/
theorem outs_all {F G H : Hp} {S σ : St} {e : Fm} (l : Rl KZ F G H S σ e) : ∀ {fl : List Bool} {as : List Arg} {vs : List V} {outs : List (List D)} (j : Nat), argsFit fl as = true → vs.length = as.length → (∀ (t : Nat) v, vs[t]? = some v → S[j + t]? = some (some v)) → outsF fl j e = some outs →
    OutsOk KZ G H vs as outs ∧ ∀ (t : Nat) (ds : List D), as[t]? = some (.io ds) → ∃ es, e[j + t]? = some (.own true es)
  | [], [], vs, outs, j, _, hl, _, ho => by
    cases vs with
    | nil =>
      cases ho
      exact ⟨trivial, fun t ds h => by simp at h⟩
    | cons _ _ => cases hl
  | true :: fl, .io ds :: as, vs, outs, j, hf, hl, hs, ho => by
    cases vs with
    | nil => cases hl
    | cons v vs =>
      have ho : (match e[j]?, outsF fl (j + 1) e with
        | some (.own true ds), some r => some (ds :: r)
        | _, _ => none) = some outs := ho
      cases q : e[j]? with
      | none => rw [q] at ho; cases ho
      | some s =>
        rw [q] at ho
        cases s with
        | own io es =>
          cases io with
          | false => cases ho
          | true =>
            cases q2 : outsF fl (j + 1) e with
            | none => rw [q2] at ho; cases ho
            | some r =>
              rw [q2] at ho
              cases ho
              obtain ⟨h1, h2⟩ := outs_all l (fl := fl) (as := as) (vs := vs) (j + 1) hf (by simpa using hl) (fun t v h => by
                have := hs (t + 1) v h
                rw [show j + 1 + t = j + (t + 1) by omega]
                exact this) q2
              obtain ⟨a, us, h3, h4, h5, h6, h7, h8⟩ := l.own j true es q
              have h9 := h8 rfl
              rw [show j = j + 0 by rfl, hs 0 v rfl] at h9
              cases h9
              refine ⟨⟨⟨a, us, rfl, h4, h5, h7⟩, h1⟩, fun t ds' h => ?_⟩
              cases t with
              | zero => exact ⟨es, q⟩
              | succ t =>
                obtain ⟨es', h10⟩ := h2 t ds' h
                exact ⟨es', by rw [show j + (t + 1) = j + 1 + t by omega]; exact h10⟩
        | _ => cases ho
  | false :: fl, .d d :: as, vs, outs, j, hf, hl, hs, ho => by
    cases vs with
    | nil => cases hl
    | cons v vs =>
      obtain ⟨h1, h2⟩ := outs_all l (fl := fl) (as := as) (vs := vs) (j + 1) hf (by simpa using hl) (fun t v h => by
        have := hs (t + 1) v h
        rw [show j + 1 + t = j + (t + 1) by omega]
        exact this) (show outsF fl (j + 1) e = some outs from ho)
      refine ⟨h1, fun t ds' h => ?_⟩
      cases t with
      | zero => cases h
      | succ t =>
        obtain ⟨es', h10⟩ := h2 t ds' h
        exact ⟨es', by rw [show j + (t + 1) = j + 1 + t by omega]; exact h10⟩
  | [], _ :: _, _, _, _, h, _, _, _ => by cases h
  | true :: _, [], _, _, _, h, _, _, _ => by cases h
  | false :: _, [], _, _, _, h, _, _, _ => by cases h
  | true :: _, .d _ :: _, _, _, _, h, _, _, _ => by cases h
  | false :: _, .io _ :: _, _, _, _, h, _, _, _ => by cases h
theorem notIo_of {F G H : Hp} {S σ : St} {e : Fm} (l : Rl KZ F G H S σ e) {vs : List V} {as : List Arg} (hs : ∀ (t : Nat) v, vs[t]? = some v → S[t]? = some (some v)) (hi : ∀ (t : Nat) (ds : List D), as[t]? = some (.io ds) → ∃ es, e[t]? = some (.own true es)) {a : Addr} (no : NoOwn σ e a) : NotIo vs as a := by
  intro i ds h1 h2
  obtain ⟨es, h3⟩ := hi i ds h1
  obtain ⟨b, us, h4, _, _, _, _, h8⟩ := l.own i true es h3
  have h9 := h8 rfl
  rw [hs i _ h2] at h9
  cases h9
  exact no i true es h3 h4
section
variable {X : Cx} {F G H : Hp} {N : List Str} {vs : List V} {as : List Arg} {Q : VK} {E : XK} {fl : List Bool}
theorem end_ok (hlen : vs.length = as.length) (hf : argsFit fl as = true) {r : R Val} (hp : CPost X.mg KZ F G vs as Q E (endF fl r)) : Po X F (start N vs) (fun cls d _ H => E cls d H) (pS X F (start N vs) { nx := fun _ H' => Q .non H', rt := Q }) G r := by
  have st : ∀ (t : Nat) v, vs[t]? = some v → (start N vs)[0 + t]? = some (some v) := fun t v h => by
    rw [Nat.zero_add]
    exact start_get h
  have st' : ∀ (t : Nat) v, vs[t]? = some v → (start N vs)[t]? = some (some v) := fun t v h => start_get h
  have outs : ∀ {e1 : Fm} {σ : St} {H' G' : Hp} {o : List (List D)}, Rl KZ F G' H' (start N vs) σ e1 → outsF fl 0 e1 = some o → OutsOk KZ G' H' vs as o ∧ ∀ (t : Nat) (ds : List D), as[t]? = some (.io ds) → ∃ es, e1[t]? = some (.own true es) := fun {e1 σ H' G' o} l q => by
    obtain ⟨h1, h2⟩ := outs_all l 0 hf hlen st q
    refine ⟨h1, fun t ds h => ?_⟩
    obtain ⟨es, h3⟩ := h2 t ds h
    rw [Nat.zero_add] at h3
    exact ⟨es, h3⟩
  cases r with
  | bad => exact hp
  | rz x e1 =>
    have hp : CPost X.mg KZ F G vs as Q E (match outsF fl 0 e1 with
      | some outs => .rz x outs
      | none => .bad) := hp
    cases q : outsF fl 0 e1 with
    | none => rw [q] at hp; exact hp.elim
    | some o =>
      rw [q] at hp
      exact fun cls dd σ H' G' s l xo => hp cls dd H' G' s l.g l.f l.fg xo (outs l q).1
  | ok v e1 =>
    cases v with
    | fl f =>
      cases f with
      | nx =>
        have hp : CPost X.mg KZ F G vs as Q E (match outsF fl 0 e1 with
          | some outs => .ok (.v .none) outs
          | none => .bad) := hp
        cases q : outsF fl 0 e1 with
        | none => rw [q] at hp; exact hp.elim
        | some o =>
          rw [q] at hp
          exact fun σ H' G' s l => hp .non H' G' s l.g l.f l.fg .non (outs l q).1
      | ret r =>
        cases r with
        | v d =>
          have hp : CPost X.mg KZ F G vs as Q E (match outsF fl 0 e1 with
            | some outs => .ok (.v d) outs
            | none => .bad) := hp
          cases q : outsF fl 0 e1 with
          | none => rw [q] at hp; exact hp.elim
          | some o =>
            rw [q] at hp
            exact fun σ u H' G' s l r => hp u H' G' s l.g l.f l.fg r (outs l q).1
        | o ds =>
          have hp : CPost X.mg KZ F G vs as Q E (match outsF fl 0 e1 with
            | some outs => .ok (.o ds) outs
            | none => .bad) := hp
          cases q : outsF fl 0 e1 with
          | none => rw [q] at hp; exact hp.elim
          | some o =>
            rw [q] at hp
            intro σ u H' G' s l r
            obtain ⟨a, us, rfl, h1, h2, h3, h4, h5⟩ := r
            obtain ⟨h6, h7⟩ := outs l q
            exact hp _ H' G' s l.g l.f l.fg ⟨a, us, rfl, h1, h2, h3, notIo_of l st' h7 h4, h5⟩ h6
        | b i => exact hp.elim
      | _ => exact hp.elim
    | _ => exact hp.elim
end
end L2.Mp
set_option Elab.async false
set_option linter.all false
set_option maxRecDepth 100000
set_option maxHeartbeats 4000000
namespace L2.Mp
open PySem PySem.Spec PyProof.Rows L2

/-! ### plain parameters -/
theorem si_none : seqItems? Value.none = pure none := rfl
section
variable {x qual : Str} {body : List Stmt} {scope : Scope} (kV doc pm : Value) (an : Option Addr) (cdv ct : Value)
theorem bp0 : bindArgs (PySem.W.fnOf x qual ⟨[], [], none, [], [], none, []⟩ body scope .none kV doc pm an cdv ct) ⟨[], []⟩ = pure [] := by
  unfold bindArgs PySem.W.fnOf
  simp only [si_none, List.map, List.nil_append, List.zip, List.zipWith, List.lookup, List.forIn_nil, pure_bind, List.length, Option.getD, List.append_nil]
  simp [List.lookup, List.filterMap]
theorem bp1 {a0 : PySem.Arg} {u0 : Value} : bindArgs (PySem.W.fnOf x qual ⟨[], [a0], none, [], [], none, []⟩ body scope .none kV doc pm an cdv ct) ⟨[u0], []⟩ = pure [(a0.arg, u0)] := by
  have e0 : (a0.arg == a0.arg) = true := beq_self_eq_true _
  unfold bindArgs PySem.W.fnOf
  simp only [si_none, List.map, List.nil_append, List.zip, List.zipWith, List.lookup, List.forIn_nil, pure_bind, List.length, Option.getD, List.append_nil, e0]
  simp [List.lookup, List.filterMap, e0]
theorem bp2 {a0 a1 : PySem.Arg} {u0 u1 : Value} (h10 : (a1.arg == a0.arg) = false) : bindArgs (PySem.W.fnOf x qual ⟨[], [a0, a1], none, [], [], none, []⟩ body scope .none kV doc pm an cdv ct) ⟨[u0, u1], []⟩ = pure [(a0.arg, u0), (a1.arg, u1)] := by
  have e0 : (a0.arg == a0.arg) = true := beq_self_eq_true _
  have e1 : (a1.arg == a1.arg) = true := beq_self_eq_true _
  unfold bindArgs PySem.W.fnOf
  simp only [si_none, List.map, List.nil_append, List.zip, List.zipWith, List.lookup, List.forIn_nil, pure_bind, List.length, Option.getD, List.append_nil, h10, e0, e1]
  simp [List.lookup, List.filterMap, h10, e0, e1]
theorem bp3 {a0 a1 a2 : PySem.Arg} {u0 u1 u2 : Value} (h10 : (a1.arg == a0.arg) = false) (h20 : (a2.arg == a0.arg) = false) (h21 : (a2.arg == a1.arg) = false) : bindArgs (PySem.W.fnOf x qual ⟨[], [a0, a1, a2], none, [], [], none, []⟩ body scope .none kV doc pm an cdv ct) ⟨[u0, u1, u2], []⟩ = pure [(a0.arg, u0), (a1.arg, u1), (a2.arg, u2)] := by
  have e0 : (a0.arg == a0.arg) = true := beq_self_eq_true _
  have e1 : (a1.arg == a1.arg) = true := beq_self_eq_true _
  have e2 : (a2.arg == a2.arg) = true := beq_self_eq_true _
  unfold bindArgs PySem.W.fnOf
  simp only [si_none, List.map, List.nil_append, List.zip, List.zipWith, List.lookup, List.forIn_nil, pure_bind, List.length, Option.getD, List.append_nil, h10, h20, h21, e0, e1, e2]
  simp [List.lookup, List.filterMap, h10, h20, h21, e0, e1, e2]
theorem bp4 {a0 a1 a2 a3 : PySem.Arg} {u0 u1 u2 u3 : Value} (h10 : (a1.arg == a0.arg) = false) (h20 : (a2.arg == a0.arg) = false) (h21 : (a2.arg == a1.arg) = false) (h30 : (a3.arg == a0.arg) = false) (h31 : (a3.arg == a1.arg) = false) (h32 : (a3.arg == a2.arg) = false) : bindArgs (PySem.W.fnOf x qual ⟨[], [a0, a1, a2, a3], none, [], [], none, []⟩ body scope .none kV doc pm an cdv ct) ⟨[u0, u1, u2, u3], []⟩ = pure [(a0.arg, u0), (a1.arg, u1), (a2.arg, u2), (a3.arg, u3)] := by
  have e0 : (a0.arg == a0.arg) = true := beq_self_eq_true _
  have e1 : (a1.arg == a1.arg) = true := beq_self_eq_true _
  have e2 : (a2.arg == a2.arg) = true := beq_self_eq_true _
  have e3 : (a3.arg == a3.arg) = true := beq_self_eq_true _
  unfold bindArgs PySem.W.fnOf
  simp only [si_none, List.map, List.nil_append, List.zip, List.zipWith, List.lookup, List.forIn_nil, pure_bind, List.length, Option.getD, List.append_nil, h10, h20, h21, h30, h31, h32, e0, e1, e2, e3]
  simp [List.lookup, List.filterMap, h10, h20, h21, h30, h31, h32, e0, e1, e2, e3]
theorem bp5 {a0 a1 a2 a3 a4 : PySem.Arg} {u0 u1 u2 u3 u4 : Value} (h10 : (a1.arg == a0.arg) = false) (h20 : (a2.arg == a0.arg) = false) (h21 : (a2.arg == a1.arg) = false) (h30 : (a3.arg == a0.arg) = false) (h31 : (a3.arg == a1.arg) = false) (h32 : (a3.arg == a2.arg) = false) (h40 : (a4.arg == a0.arg) = false) (h41 : (a4.arg == a1.arg) = false) (h42 : (a4.arg == a2.arg) = false) (h43 : (a4.arg == a3.arg) = false) : bindArgs (PySem.W.fnOf x qual ⟨[], [a0, a1, a2, a3, a4], none, [], [], none, []⟩ body scope .none kV doc pm an cdv ct) ⟨[u0, u1, u2, u3, u4], []⟩ = pure [(a0.arg, u0), (a1.arg, u1), (a2.arg, u2), (a3.arg, u3), (a4.arg, u4)] := by
  have e0 : (a0.arg == a0.arg) = true := beq_self_eq_true _
  have e1 : (a1.arg == a1.arg) = true := beq_self_eq_true _
  have e2 : (a2.arg == a2.arg) = true := beq_self_eq_true _
  have e3 : (a3.arg == a3.arg) = true := beq_self_eq_true _
  have e4 : (a4.arg == a4.arg) = true := beq_self_eq_true _
  unfold bindArgs PySem.W.fnOf
  simp only [si_none, List.map, List.nil_append, List.zip, List.zipWith, List.lookup, List.forIn_nil, pure_bind, List.length, Option.getD, List.append_nil, h10, h20, h21, h30, h31, h32, h40, h41, h42, h43, e0, e1, e2, e3, e4]
  simp [List.lookup, List.filterMap, h10, h20, h21, h30, h31, h32, h40, h41, h42, h43, e0, e1, e2, e3, e4]
theorem bp6 {a0 a1 a2 a3 a4 a5 : PySem.Arg} {u0 u1 u2 u3 u4 u5 : Value} (h10 : (a1.arg == a0.arg) = false) (h20 : (a2.arg == a0.arg) = false) (h21 : (a2.arg == a1.arg) = false) (h30 : (a3.arg == a0.arg) = false) (h31 : (a3.arg == a1.arg) = false) (h32 : (a3.arg == a2.arg) = false) (h40 : (a4.arg == a0.arg) = false) (h41 : (a4.arg == a1.arg) = false) (h42 : (a4.arg == a2.arg) = false) (h43 : (a4.arg == a3.arg) = false) (h50 : (a5.arg == a0.arg) = false) (h51 : (a5.arg == a1.arg) = false) (h52 : (a5.arg == a2.arg) = false) (h53 : (a5.arg == a3.arg) = false) (h54 : (a5.arg == a4.arg) = false) : bindArgs (PySem.W.fnOf x qual ⟨[], [a0, a1, a2, a3, a4, a5], none, [], [], none, []⟩ body scope .none kV doc pm an cdv ct) ⟨[u0, u1, u2, u3, u4, u5], []⟩ = pure [(a0.arg, u0), (a1.arg, u1), (a2.arg, u2), (a3.arg, u3), (a4.arg, u4), (a5.arg, u5)] := by
  have e0 : (a0.arg == a0.arg) = true := beq_self_eq_true _
  have e1 : (a1.arg == a1.arg) = true := beq_self_eq_true _
  have e2 : (a2.arg == a2.arg) = true := beq_self_eq_true _
  have e3 : (a3.arg == a3.arg) = true := beq_self_eq_true _
  have e4 : (a4.arg == a4.arg) = true := beq_self_eq_true _
  have e5 : (a5.arg == a5.arg) = true := beq_self_eq_true _
  unfold bindArgs PySem.W.fnOf
  simp only [si_none, List.map, List.nil_append, List.zip, List.zipWith, List.lookup, List.forIn_nil, pure_bind, List.length, Option.getD, List.append_nil, h10, h20, h21, h30, h31, h32, h40, h41, h42, h43, h50, h51, h52, h53, h54, e0, e1, e2, e3, e4, e5]
  simp [List.lookup, List.filterMap, h10, h20, h21, h30, h31, h32, h40, h41, h42, h43, h50, h51, h52, h53, h54, e0, e1, e2, e3, e4, e5]
theorem bp7 {a0 a1 a2 a3 a4 a5 a6 : PySem.Arg} {u0 u1 u2 u3 u4 u5 u6 : Value} (h10 : (a1.arg == a0.arg) = false) (h20 : (a2.arg == a0.arg) = false) (h21 : (a2.arg == a1.arg) = false) (h30 : (a3.arg == a0.arg) = false) (h31 : (a3.arg == a1.arg) = false) (h32 : (a3.arg == a2.arg) = false) (h40 : (a4.arg == a0.arg) = false) (h41 : (a4.arg == a1.arg) = false) (h42 : (a4.arg == a2.arg) = false) (h43 : (a4.arg == a3.arg) = false) (h50 : (a5.arg == a0.arg) = false) (h51 : (a5.arg == a1.arg) = false) (h52 : (a5.arg == a2.arg) = false) (h53 : (a5.arg == a3.arg) = false) (h54 : (a5.arg == a4.arg) = false) (h60 : (a6.arg == a0.arg) = false) (h61 : (a6.arg == a1.arg) = false) (h62 : (a6.arg == a2.arg) = false) (h63 : (a6.arg == a3.arg) = false) (h64 : (a6.arg == a4.arg) = false) (h65 : (a6.arg == a5.arg) = false) : bindArgs (PySem.W.fnOf x qual ⟨[], [a0, a1, a2, a3, a4, a5, a6], none, [], [], none, []⟩ body scope .none kV doc pm an cdv ct) ⟨[u0, u1, u2, u3, u4, u5, u6], []⟩ = pure [(a0.arg, u0), (a1.arg, u1), (a2.arg, u2), (a3.arg, u3), (a4.arg, u4), (a5.arg, u5), (a6.arg, u6)] := by
  have e0 : (a0.arg == a0.arg) = true := beq_self_eq_true _
  have e1 : (a1.arg == a1.arg) = true := beq_self_eq_true _
  have e2 : (a2.arg == a2.arg) = true := beq_self_eq_true _
  have e3 : (a3.arg == a3.arg) = true := beq_self_eq_true _
  have e4 : (a4.arg == a4.arg) = true := beq_self_eq_true _
  have e5 : (a5.arg == a5.arg) = true := beq_self_eq_true _
  have e6 : (a6.arg == a6.arg) = true := beq_self_eq_true _
  unfold bindArgs PySem.W.fnOf
  simp only [si_none, List.map, List.nil_append, List.zip, List.zipWith, List.lookup, List.forIn_nil, pure_bind, List.length, Option.getD, List.append_nil, h10, h20, h21, h30, h31, h32, h40, h41, h42, h43, h50, h51, h52, h53, h54, h60, h61, h62, h63, h64, h65, e0, e1, e2, e3, e4, e5, e6]
  simp [List.lookup, List.filterMap, h10, h20, h21, h30, h31, h32, h40, h41, h42, h43, h50, h51, h52, h53, h54, h60, h61, h62, h63, h64, h65, e0, e1, e2, e3, e4, e5, e6]
def plainPs (p : Arguments) (ps : List Str) : Bool := match p with
  | ⟨[], as, none, [], [], none, []⟩ => decide (as.map (·.arg) = ps) && decide (as.length ≤ 7) && decide ps.Nodup
  | _ => false
theorem nd_ne {l : List Str} (h : l.Nodup) {i j : Nat} {a b : Str} (ha : l[i]? = some a) (hb : l[j]? = some b) (hij : i < j) : (b == a) = false := by
  obtain ⟨h1, rfl⟩ := List.getElem?_eq_some_iff.mp ha
  obtain ⟨h2, rfl⟩ := List.getElem?_eq_some_iff.mp hb
  have := List.pairwise_iff_getElem.mp h i j h1 h2 hij
  simpa using Ne.symm this
theorem binds_plain {p : Arguments} {ps : List Str} (h : plainPs p ps = true) (us : List Value) (hl : us.length = ps.length) :
    bindArgs (PySem.W.fnOf x qual p body scope .none kV doc pm an cdv ct) ⟨us, []⟩ = pure (ps.zip us) := by
  unfold plainPs at h
  split at h
  case h_2 => cases h
  rename_i as
  simp only [Bool.and_eq_true, decide_eq_true_eq] at h
  obtain ⟨⟨rfl, h2⟩, nd⟩ := h
  rw [List.length_map] at hl
  match as, us, hl, h2, nd with
  | [], [], _, _, nd => exact bp0 kV doc pm an cdv ct 
  | [a0], [u0], _, _, nd => exact bp1 kV doc pm an cdv ct 
  | [a0, a1], [u0, u1], _, _, nd => exact bp2 kV doc pm an cdv ct (nd_ne nd (i := 0) (j := 1) rfl rfl (by decide))
  | [a0, a1, a2], [u0, u1, u2], _, _, nd => exact bp3 kV doc pm an cdv ct (nd_ne nd (i := 0) (j := 1) rfl rfl (by decide)) (nd_ne nd (i := 0) (j := 2) rfl rfl (by decide)) (nd_ne nd (i := 1) (j := 2) rfl rfl (by decide))
  | [a0, a1, a2, a3], [u0, u1, u2, u3], _, _, nd => exact bp4 kV doc pm an cdv ct (nd_ne nd (i := 0) (j := 1) rfl rfl (by decide)) (nd_ne nd (i := 0) (j := 2) rfl rfl (by decide)) (nd_ne nd (i := 1) (j := 2) rfl rfl (by decide)) (nd_ne nd (i := 0) (j := 3) rfl rfl (by decide)) (nd_ne nd (i := 1) (j := 3) rfl rfl (by decide)) (nd_ne nd (i := 2) (j := 3) rfl rfl (by decide))
  | [a0, a1, a2, a3, a4], [u0, u1, u2, u3, u4], _, _, nd => exact bp5 kV doc pm an cdv ct (nd_ne nd (i := 0) (j := 1) rfl rfl (by decide)) (nd_ne nd (i := 0) (j := 2) rfl rfl (by decide)) (nd_ne nd (i := 1) (j := 2) rfl rfl (by decide)) (nd_ne nd (i := 0) (j := 3) rfl rfl (by decide)) (nd_ne nd (i := 1) (j := 3) rfl rfl (by decide)) (nd_ne nd (i := 2) (j := 3) rfl rfl (by decide)) (nd_ne nd (i := 0) (j := 4) rfl rfl (by decide)) (nd_ne nd (i := 1) (j := 4) rfl rfl (by decide)) (nd_ne nd (i := 2) (j := 4) rfl rfl (by decide)) (nd_ne nd (i := 3) (j := 4) rfl rfl (by decide))
  | [a0, a1, a2, a3, a4, a5], [u0, u1, u2, u3, u4, u5], _, _, nd => exact bp6 kV doc pm an cdv ct (nd_ne nd (i := 0) (j := 1) rfl rfl (by decide)) (nd_ne nd (i := 0) (j := 2) rfl rfl (by decide)) (nd_ne nd (i := 1) (j := 2) rfl rfl (by decide)) (nd_ne nd (i := 0) (j := 3) rfl rfl (by decide)) (nd_ne nd (i := 1) (j := 3) rfl rfl (by decide)) (nd_ne nd (i := 2) (j := 3) rfl rfl (by decide)) (nd_ne nd (i := 0) (j := 4) rfl rfl (by decide)) (nd_ne nd (i := 1) (j := 4) rfl rfl (by decide)) (nd_ne nd (i := 2) (j := 4) rfl rfl (by decide)) (nd_ne nd (i := 3) (j := 4) rfl rfl (by decide)) (nd_ne nd (i := 0) (j := 5) rfl rfl (by decide)) (nd_ne nd (i := 1) (j := 5) rfl rfl (by decide)) (nd_ne nd (i := 2) (j := 5) rfl rfl (by decide)) (nd_ne nd (i := 3) (j := 5) rfl rfl (by decide)) (nd_ne nd (i := 4) (j := 5) rfl rfl (by decide))
  | [a0, a1, a2, a3, a4, a5, a6], [u0, u1, u2, u3, u4, u5, u6], _, _, nd => exact bp7 kV doc pm an cdv ct (nd_ne nd (i := 0) (j := 1) rfl rfl (by decide)) (nd_ne nd (i := 0) (j := 2) rfl rfl (by decide)) (nd_ne nd (i := 1) (j := 2) rfl rfl (by decide)) (nd_ne nd (i := 0) (j := 3) rfl rfl (by decide)) (nd_ne nd (i := 1) (j := 3) rfl rfl (by decide)) (nd_ne nd (i := 2) (j := 3) rfl rfl (by decide)) (nd_ne nd (i := 0) (j := 4) rfl rfl (by decide)) (nd_ne nd (i := 1) (j := 4) rfl rfl (by decide)) (nd_ne nd (i := 2) (j := 4) rfl rfl (by decide)) (nd_ne nd (i := 3) (j := 4) rfl rfl (by decide)) (nd_ne nd (i := 0) (j := 5) rfl rfl (by decide)) (nd_ne nd (i := 1) (j := 5) rfl rfl (by decide)) (nd_ne nd (i := 2) (j := 5) rfl rfl (by decide)) (nd_ne nd (i := 3) (j := 5) rfl rfl (by decide)) (nd_ne nd (i := 4) (j := 5) rfl rfl (by decide)) (nd_ne nd (i := 0) (j := 6) rfl rfl (by decide)) (nd_ne nd (i := 1) (j := 6) rfl rfl (by decide)) (nd_ne nd (i := 2) (j := 6) rfl rfl (by decide)) (nd_ne nd (i := 3) (j := 6) rfl rfl (by decide)) (nd_ne nd (i := 4) (j := 6) rfl rfl (by decide)) (nd_ne nd (i := 5) (j := 6) rfl rfl (by decide))
  | _ :: _ :: _ :: _ :: _ :: _ :: _ :: _ :: _, _, _, h2, _ => simp at h2
end
end L2.Mp
set_option Elab.async false
set_option linter.all false
set_option maxRecDepth 100000
set_option maxHeartbeats 4000000
namespace L2.Mp
open PySem PySem.Spec PyProof.Rows L2

/-! ### the head's hook, lists left out -/
def noLst (o : Obj) : Bool := match o.cls with
  | .type n => !(n == "list")
  | _ => true
def frN (g : Addr → Option Obj) (as : List Addr) : PySem.W.Frag := (He.frG g as).filter fun q => noLst q.2
theorem frN_mem {g : Addr → Option Obj} {as : List Addr} {a : Addr} {o : Obj} (h : (frN g as).lookup a = some o) : g a = some o ∧ noLst o = true := by
  obtain ⟨h1, h2⟩ := List.mem_filter.mp (He.lookup_mem h)
  exact ⟨He.frG_mem h1, h2⟩
def obsN (n : Nat) (fa : List He.Fa) (fn : List He.DefD) (g : Addr → Option Obj) : He.AlD := He.obsD fa fn (frN g (He.asD g n))
def NoLists (K : PySem.W.Frag) : Prop := ∀ a o, K.lookup a = some o → noLst o = true
def hookN (n : Nat) (fa : List He.Fa) (fn : List He.DefD) : PySem.W.Hook where
  α := He.AlD
  obs := fun s => obsN n fa fn s.heap.get?
  val := fun _ => He.valD fn
  says := fun _ h => ∃ K : PySem.W.Frag, K.In h ∧ NoLists K ∧ He.SaysD fa fn K
  of := fun _ _ e => ⟨_, fun _ _ z => (frN_mem z).1, fun _ _ z => (frN_mem z).2, e⟩
  keeps := fun _ _ _ ⟨K, hK, hn, c⟩ k => ⟨K, PySem.W.Frag.In.keeps hK k, hn, c⟩
theorem obsN_eq {n : Nat} {fa : List He.Fa} {fn : List He.DefD} {g : Addr → Option Obj} {s : Shared} (h : ∀ a, g a = s.heap.get? a) : obsN n fa fn g = (hookN n fa fn).obs s := by
  have e : g = s.heap.get? := funext h
  rw [e] <;> rfl
theorem rd_script {K : PySem.W.Frag} (hn : NoLists K) {H : Hp} {a : Addr} {xs : List V} (h : SqL K H a xs) : Rd H a (.lst xs) := by
  rcases h with h | ⟨o, its, n, h1, h2, _⟩
  · exact h
  · have := hn a o h1
    unfold noLst at this
    rw [h2] at this
    cases this

/-! ### the table -/
def hasGlo (fa : List He.Fa) (x : Str) : Bool := fa.any fun f => match f with
  | .glo y => decide (y = x)
  | _ => false
def hasFree (fa : List He.Fa) (x : Str) : Bool := fa.any fun f => match f with
  | .free y => decide (y = x)
  | _ => false
def hasInt (fa : List He.Fa) (x : Str) (i : Int) : Bool := fa.any fun f => match f with
  | .int y j => decide (y = x) && decide (j = i)
  | _ => false
def hasStr (fa : List He.Fa) (x z : Str) : Bool := fa.any fun f => match f with
  | .str y j => decide (y = x) && decide (j = z)
  | _ => false
theorem hasGlo_ok {fa : List He.Fa} {x : Str} (h : hasGlo fa x = true) : He.Fa.glo x ∈ fa := by
  obtain ⟨f, hf, h⟩ := List.any_eq_true.mp h
  cases f with
  | glo y => rw [← of_decide_eq_true h]; exact hf
  | _ => cases h
theorem hasFree_ok {fa : List He.Fa} {x : Str} (h : hasFree fa x = true) : He.Fa.free x ∈ fa := by
  obtain ⟨f, hf, h⟩ := List.any_eq_true.mp h
  cases f with
  | free y => rw [← of_decide_eq_true h]; exact hf
  | _ => cases h
theorem hasInt_ok {fa : List He.Fa} {x : Str} {i : Int} (h : hasInt fa x i = true) : He.Fa.int x i ∈ fa := by
  obtain ⟨f, hf, h⟩ := List.any_eq_true.mp h
  cases f with
  | int y j =>
    simp only [Bool.and_eq_true, decide_eq_true_eq] at h
    rw [← h.1, ← h.2]
    exact hf
  | _ => cases h
theorem hasStr_ok {fa : List He.Fa} {x z : Str} (h : hasStr fa x z = true) : He.Fa.str x z ∈ fa := by
  obtain ⟨f, hf, h⟩ := List.any_eq_true.mp h
  cases f with
  | str y j =>
    simp only [Bool.and_eq_true, decide_eq_true_eq] at h
    rw [← h.1, ← h.2]
    exact hf
  | _ => cases h
/-- values of the module's top that the table may read -/
def gloD (fa : List He.Fa) (p : Str × D) : Bool := match p.2 with
  | .int i => hasInt fa p.1 i
  | .str z => hasStr fa p.1 z
  | _ => false
def ctOf (tb : List Fn) (gl : List (Str × D)) (fr : List Str) (f : Fn) (sc : Scope) : Ct := ⟨tb.map fun g => (g.name, g.fl.length), gl, fr, f.ns, sc⟩
def scopeB (N P : List Str) (sc : Scope) : Bool := (match sc.kind with
    | .function => true
    | _ => false) && !sc.isCoroutine && !sc.isGenerator && decide N.Nodup && decide (N.take P.length = P) && (P.all fun x => locB sc x) && sc.names.all fun y => match y.2 with
    | .free => false
    | _ => true
theorem scope_ok {N P : List Str} {sc : Scope} (h : scopeB N P sc = true) : FnScope N P sc := by
  simp only [scopeB, Bool.and_eq_true, decide_eq_true_eq, Bool.not_eq_true', List.all_eq_true] at h
  obtain ⟨⟨⟨⟨⟨⟨h1, h2⟩, h3⟩, h4⟩, h5⟩, h6⟩, h7⟩ := h
  refine ⟨?_, h2, h3, h4, h5, fun x hx => ?_, fun y hy z => ?_⟩
  · split at h1
    · assumption
    · cases h1
  · have := h6 x hx
    unfold locB at this
    cases q : sc.names.lookup x with
    | none => rw [q] at this; cases this
    | some w =>
      rw [q] at this
      cases w with
      | «local» => exact .inl rfl
      | cell => exact .inr rfl
      | _ => cases this
  · have := h7 y hy
    rw [z] at this
    cases this
/-- one def of the table is a def of the text -/
def fnB (fn : List He.DefD) (tb : List Fn) (gl : List (Str × D)) (fr : List Str) (f : Fn) : Bool := match fn.find? (fun d => decide (d.name = f.name)) with
  | some d => decide (d.at_ = (f.name, none)) && d.dfl.isEmpty && d.kwd.isEmpty && plainPs d.params (f.ns.take f.np) && decide (f.np ≤ f.ns.length) && decide (f.fl.length = f.np) && scopeB f.ns (f.ns.take f.np) d.scope && chk f.body (ctOf tb gl fr f d.scope) (.b d.body)
  | none => false
def tabB (fa : List He.Fa) (fn : List He.DefD) (tb : List Fn) (gl : List (Str × D)) (fr : List Str) : Bool := (tb.all fun f => hasGlo fa f.name) && gl.all (gloD fa) && fr.all (hasFree fa) && tb.all (fnB fn tb gl fr) && tb.all fun f => match tb.find? (fun g => decide (g.name = f.name)) with
  | some g => decide (g.fl.length = f.fl.length)
  | none => false
section
variable {fa : List He.Fa} {fn : List He.DefD} {tb : List Fn} {gl : List (Str × D)} {fr : List Str} {P : Program} {w : World} {K : PySem.W.Frag} {mg : Str → Option Value} {base h : Heap}
theorem spF_len {cf : CF} {f : Str} {n : Nat} {vs : List V} {H : Hp} {Q : VK} {E : XK} (z : spF mg KZ cf f n vs H Q E) : vs.length = n := z.1
theorem fn_ok (c : He.SaysD fa fn K) {f : Fn} (hb : fnB fn tb gl fr f = true) (hf : tb.find? (fun g => decide (g.name = f.name)) = some f) :
    ∃ (fd : FuncData) (ps : List Str), ps = f.ns.take f.np ∧ ps.length = f.fl.length ∧ PySem.W.keepIn K (.ref (He.ga K f.name)) = true ∧ Binds K fd ps [] ∧ (∀ (s : Shared) (us : List Value), us.length = ps.length → BindsTo s fd ⟨us, []⟩ (ps.zip us)) ∧
      ∀ base k, (∀ j, j < k → GbOk P w K mg base (runF tb j) j (tb.map fun g => (g.name, g.fl.length)) gl fr) → FnOk P w K mg base (L2.CX P w) k (He.ga K f.name) fd ps (spF mg KZ (runF tb k) f.name f.fl.length) := by
  unfold fnB at hb
  cases q : fn.find? (fun d => decide (d.name = f.name)) with
  | none => rw [q] at hb; cases hb
  | some d =>
    rw [q] at hb
    simp only [Bool.and_eq_true, decide_eq_true_eq, List.isEmpty_iff] at hb
    obtain ⟨⟨⟨⟨⟨⟨⟨h1, h2⟩, h3⟩, h4⟩, h5⟩, h6⟩, h7⟩, h8⟩ := hb
    have dn : d.name = f.name := by simpa using List.find?_some q
    obtain ⟨fd, F⟩ := c.defs (List.mem_of_find?_eq_some q)
    have e1 : d.dvs K = [] := by unfold He.DefD.dvs; rw [h2]; rfl
    have e2 : d.kws K = [] := by unfold He.DefD.kws; rw [h3]; rfl
    have e3 : He.fAd K d.at_ = He.ga K f.name := by rw [h1]; rfl
    rw [e1, e2, e3, dn] at F
    have S := scope_ok h7
    have pl : (f.ns.take f.np).length = f.fl.length := by rw [List.length_take, h6]; omega
    refine ⟨fd, f.ns.take f.np, rfl, pl, F.kp, F.bindsN fun kV doc pm an cdv ct us hl => binds_plain kV doc pm an cdv ct h4 us hl, F.bindsA fun kV doc pm an cdv ct us hl => binds_plain kV doc pm an cdv ct h4 us hl, fun base k gb => ?_⟩
    cases k with
    | zero => exact ⟨fun vs H Q E z => (spF_len z).trans pl.symm, fun A outer s H args us vs Q E hr e0 hb r z => by
        obtain ⟨_, F', G', as, _, _, _, _, _, z⟩ := z
        exact z.elim⟩
    | succ k =>
      refine F.ok S (fun vs H Q E z => (spF_len z).trans pl.symm) fun cdv A outer s H vs Q E hr z => ⟨_, pss_w, ?_⟩
      obtain ⟨hl, F', G', as, g, ff, fg, pa, once, z⟩ := z
      have xo : XOk (ctOf tb gl fr f d.scope) (runF tb k) k (cxOf (L2.CX P w) P w K mg base f.ns d.qual d.scope (He.ga K f.name) cdv A outer s H E) := {
        N := rfl
        nd := S.nd
        calm := rfl
        room := hr
        kind := S.kind
        sc := fun x r hx => ⟨fun _ => hx, fun hfree => absurd hfree (S.nofree (x, r) (PySem.mem_of_lookup hx))⟩
        fnc := fun _ _ => rfl
        gb := gb k (Nat.lt_succ_self k) }
      have good := chk_ok (cf := runF tb k) (k := k) f.body _ _ h8
      have z2 : CPost mg KZ F' G' vs as Q E (match tb.find? (fun fn => decide (fn.name = f.name)) with
        | none => .bad
        | some fn => if argsFit fn.fl as then endF fn.fl (ev (runF tb k) fn.body (startF fn.ns.length as)) else .bad) := z
      rw [hf] at z2
      dsimp only at z2
      split at z2
      case isFalse => exact z2.elim
      rename_i hfit
      exact good _ xo (passes_of rfl) F' G' H (start f.ns vs) (start f.ns vs) (startF f.ns.length as) _ _ (takes_of rfl rfl rfl rfl) (rl_start g ff fg pa once) (end_ok (paired_len pa) hfit z2)
theorem table_ok (X : K.In h) (G : h.Ns mainGlobals mg) (c : He.SaysD fa fn K) (tab : tabB fa fn tb gl fr = true) : ∀ k, GbOk P w K mg base (runF tb k) k (tb.map fun g => (g.name, g.fl.length)) gl fr := by
  simp only [tabB, Bool.and_eq_true, List.all_eq_true] at tab
  obtain ⟨⟨⟨⟨t1, t2⟩, t3⟩, t4⟩, t5⟩ := tab
  intro k
  induction k using Nat.strongRecOn with
  | ind k ih =>
    refine ⟨fun f n hm => ?_, fun x d hl => ?_, fun x hx => He.free_ok X G (c.facts (hasFree_ok (t3 x hx)))⟩
    · obtain ⟨g, hg, e⟩ := List.mem_map.mp hm
      cases e
      have h5 := t5 g hg
      cases q : tb.find? (fun g' => decide (g'.name = g.name)) with
      | none => rw [q] at h5; cases h5
      | some g' =>
        rw [q] at h5
        have hn : g'.name = g.name := by simpa using List.find?_some q
        have hl : g'.fl.length = g.fl.length := of_decide_eq_true h5
        have hm' := List.mem_of_find?_eq_some q
        obtain ⟨fd, ps, _, k1, k2, k3, _, k4⟩ := fn_ok (P := P) (w := w) (mg := mg) c (t4 g' hm') (by rw [hn]; exact q)
        have k5 := k4 base k fun j hj => ih j hj
        rw [hn] at k2 k5
        rw [hl] at k1 k5
        exact ⟨_, fd, ps, k1, He.glo_ok X G (c.facts (hasGlo_ok (t1 g hg))), k2, k3, k5⟩
    · have := t2 (x, d) (PySem.mem_of_lookup hl)
      cases d with
      | int i =>
        obtain ⟨t, ht⟩ := He.int_ok X G (c.facts (hasInt_ok this))
        exact ⟨.int i, _, ht, ⟨t, rfl⟩, fun G => .int i⟩
      | str z =>
        obtain ⟨t, ht⟩ := He.str_ok X G (c.facts (hasStr_ok this))
        exact ⟨.str z, _, ht, ⟨t, rfl⟩, fun G => .str z⟩
      | _ => cases this
/-- the law's def answers as the table does -/
def spLaw (ok : List Int → Prop) : Sp := fun vs H Q _ => ∃ (a : Addr) (ns : List Int), vs = [.ref a] ∧ Rd H a (.lst (ns.map V.int)) ∧ Only H ∧ ok ns ∧ ∀ H', Q (.bl true) H'
theorem dps_ints {K : PySem.W.Frag} {G : Hp} : ∀ ns : List Int, DpAll K G (ns.map V.int) (ns.map .int)
  | [] => .nil
  | n :: ns => .cons (.int n) (dps_ints ns)
theorem cx0_of {base : Heap} {k : Nat} {f : Addr} {fd : FuncData} {ps : List Str} {ok : List Int → Prop} (F : FnOk P w K mg base (L2.CX P w) k f fd ps (spLaw ok)) : FnOk P w K mg base CX0 k f fd ps (spLaw ok) := by
  refine ⟨F.len, fun A outer s H args us vs Q E hr e0 hb r z => codeAny_mono (F.run A outer s H args us vs Q (fun _ _ _ => False) hr e0 hb r z) fun r s' hq => ?_⟩
  cases r with
  | ok fl => cases fl <;> exact hq
  | error e =>
    obtain ⟨_, _, _, _, _, _, _, _, _, _, _, _, z⟩ := hq
    exact z.elim
theorem law_ok (X : K.In h) (G : h.Ns mainGlobals mg) (nl : NoLists K) (c : He.SaysD fa fn K) (tab : tabB fa fn tb gl fr = true) {nm ar : Str} {f : Fn} (hf : tb.find? (fun g => decide (g.name = nm)) = some f) (hn : f.ns.take f.np = [ar]) {k m : Nat}
    (law : ∀ ns : List Int, ns.length ≤ m → runF tb k nm [.d (.list (ns.map .int))] = .ok (.v (.bool true)) []) {fa' : Addr} (hg : mg nm = some (.ref fa')) :
    ∃ (K : PySem.W.Frag) (fd : FuncData) (sp : Sp), K.In h ∧ (∀ (s : Shared) (v : Value), BindsTo s fd ⟨[v], []⟩ [(ar, v)]) ∧
      (∀ (H : Hp) (a : Addr) (ns : List Int), ns.length ≤ m → Only H → SqL K H a (ns.map V.int) → sp [.ref a] H (fun v _ => v = .bl true) fun _ _ _ => False) ∧
      ∀ base : Heap, K.In base → base.Ns mainGlobals mg → FnOk P w K mg base CX0 k fa' fd [ar] sp := by
  have tab' := tab
  simp only [tabB, Bool.and_eq_true, List.all_eq_true] at tab
  obtain ⟨⟨⟨⟨t1, t2⟩, t3⟩, t4⟩, t5⟩ := tab
  have fm := List.mem_of_find?_eq_some hf
  have fe : f.name = nm := by simpa using List.find?_some hf
  subst fe
  have e := hg.symm.trans (He.glo_ok X G (c.facts (hasGlo_ok (t1 f fm))))
  cases e
  obtain ⟨fd, ps, k0, k1, k2, k3, k3', k4⟩ := fn_ok (P := P) (w := w) (mg := mg) c (t4 f fm) hf
  rw [hn] at k0
  subst k0
  have e1 : f.fl.length = 1 := k1.symm
  refine ⟨K, fd, spLaw fun ns => ns.length ≤ m, X, fun s v => k3' s [v] rfl, fun H a ns hl ho hs => ⟨a, ns, rfl, rd_script nl hs, ho, hl, fun _ => rfl⟩, fun base _ _ => cx0_of ?_⟩
  have k5 := k4 base k fun j _ => table_ok X G c tab' j
  rw [e1] at k5
  refine k5.imp fun vs H Q E z => ?_
  obtain ⟨a, ns, rfl, hr, ho, hok, q⟩ := z
  refine ⟨rfl, fun _ => none, H, [.d (.list (ns.map .int))], Same.refl H, fun _ _ z => (nomatch z), fun _ _ _ => rfl, .cons (.lst (.inl hr) (dps_ints ns)) .nil, fun i j a ds es h1 => ?_, ?_⟩
  · cases i with
    | zero => cases h1
    | succ i => simp at h1
  · rw [law ns hok]
    intro v H' G' _ _ _ _ ro _
    cases ro
    exact q H'
end
end L2.Mp
set_option Elab.async false
set_option linter.all false
set_option maxRecDepth 100000
set_option maxHeartbeats 0
namespace L2.Mp
open PySem PySem.Spec PyProof.Rows L2
/-! ### the table of the defs (printed by a program of one's own) -/
def f_is_number : Fn := ⟨"is_number", ["thing"], 1, [false],
  (.seq (.ret (.and (.isi (.var 0) [.int]) (.one (.notT (.isi (.var 0) [.bool]))))) .done)⟩
def f_is_from : Fn := ⟨"is_from", ["thing", "least"], 2, [false, false],
  (.seq (.ret (.and (.call "is_number" [false] (.cons (.var 0) .nil)) (.one (.cmp .GtE (.var 0) (.var 1))))) .done)⟩
def f_is_between : Fn := ⟨"is_between", ["thing", "least", "most"], 3, [false, false, false],
  (.seq (.ret (.and (.call "is_number" [false] (.cons (.var 0) .nil)) (.one (.chain .LtE .LtE (.var 1) (.var 0) (.var 2))))) .done)⟩
def c_tuple_of_0 : T := .comp (.call "tuple_of" [false] (.cons (.var 1) .nil)) (.tN 1) (.sSeq (.var 0)) .absent [1]
def f_tuple_of : Fn := ⟨"tuple_of", ["thing", "part"], 1, [false],
  (.seq (.ifS (.isi (.var 0) [.list, .tuple]) (.seq (.ret (.prim .tuple (.cons c_tuple_of_0 .nil))) .done) .done) (.seq (.ret (.var 0)) .done))⟩
def f_is_tuple_of : Fn := ⟨"is_tuple_of", ["thing", "many"], 2, [false, false],
  (.seq (.ret (.and (.isi (.var 0) [.tuple]) (.one (.cmp .Eq (.prim .len (.cons (.var 0) .nil)) (.var 1))))) .done)⟩
def f_sure : Fn := ⟨"sure", ["flag"], 1, [false],
  (.seq (.ifS (.notT (.var 0)) (.seq .never .done) .done) .done)⟩
def c_is_rising_0 : T := .comp (.cmp .Lt (.idx (.var 0) (.var 1)) (.idx (.var 0) (.bin .Add (.var 1) (.const (.int 1))))) (.tN 1) (.sR1 (.bin .Sub (.prim .len (.cons (.var 0) .nil)) (.const (.int 1)))) .absent [1]
def f_is_rising : Fn := ⟨"is_rising", ["some", "k"], 1, [false],
  (.seq (.ret (.prim .all (.cons c_is_rising_0 .nil))) .done)⟩
def c_is_row_of_0 : T := .comp (.call "is_from" [false, false] (.cons (.var 2) (.cons (.const (.int 0)) .nil))) (.tN 2) (.sSeq (.var 0)) .absent [2]
def f_is_row_of : Fn := ⟨"is_row_of", ["thing", "many", "own"], 2, [false, false],
  (.seq (.ret (.and (.call "is_tuple_of" [false, false] (.cons (.var 0) (.cons (.var 1) .nil))) (.one (.prim .all (.cons c_is_row_of_0 .nil))))) .done)⟩
def f_is_row : Fn := ⟨"is_row", ["thing", "many"], 2, [false, false],
  (.seq (.expr (.call "sure" [false] (.cons (.call "is_between" [false, false, false] (.cons (.var 1) (.cons (.const (.int 0)) (.cons (.glo "MOST_ENTRIES" (.int 5)) .nil)))) .nil))) (.seq (.ret (.call "is_row_of" [false, false] (.cons (.var 0) (.cons (.var 1) .nil)))) .done))⟩
def c_is_low_row_0 : T := .comp (.call "is_between" [false, false, false] (.cons (.var 1) (.cons (.const (.int 0)) (.cons (.glo "MOST_NUMBER" (.int 1000000)) .nil)))) (.tN 1) (.sSeq (.var 0)) .absent [1]
def f_is_low_row : Fn := ⟨"is_low_row", ["thing", "own"], 1, [false],
  (.seq (.ifS (.or (.notT (.isi (.var 0) [.tuple])) (.one (.cmp .Gt (.prim .len (.cons (.var 0) .nil)) (.glo "MOST_ENTRIES" (.int 5))))) (.seq (.ret (.const (.bool false))) .done) .done) (.seq (.ret (.prim .all (.cons c_is_low_row_0 .nil))) .done))⟩
def f_sure_row : Fn := ⟨"sure_row", ["row", "own"], 1, [false],
  (.seq (.asg (.tN 1) (.call "tuple_of" [false] (.cons (.var 0) .nil))) (.seq (.expr (.call "sure" [false] (.cons (.call "is_low_row" [false] (.cons (.var 1) .nil)) .nil))) (.seq (.ret (.var 1)) .done)))⟩
def c_sure_rows_0 : T := .comp (.call "is_low_row" [false] (.cons (.var 2) .nil)) (.tN 2) (.sSeq (.var 1)) .absent [2]
def f_sure_rows : Fn := ⟨"sure_rows", ["rows", "some", "own"], 1, [false],
  (.seq (.asg (.tN 1) (.call "tuple_of" [false] (.cons (.var 0) .nil))) (.seq (.expr (.call "sure" [false] (.cons (.and (.isi (.var 1) [.tuple]) (.and (.cmp .LtE (.prim .len (.cons (.var 1) .nil)) (.glo "MOST_ROWS" (.int 40))) (.one (.prim .all (.cons c_sure_rows_0 .nil))))) .nil))) (.seq (.ret (.var 1)) .done)))⟩
def c_look_long_0 : T := .comp (.prim .len (.cons (.var 1) .nil)) (.tN 1) (.sSeq (.var 0)) .absent [1]
def f_look_long : Fn := ⟨"look_long", ["rows", "own"], 1, [false],
  (.seq (.ifS (.cmp .Gt (.lenSet c_look_long_0) (.const (.int 1))) (.seq .never .done) .done) .done)⟩
def c_added_0 : T := .comp (.bin .Add (.var 2) (.var 3)) (.tT (.cons (.tN 2) (.cons (.tN 3) .nil))) (.sZip (.var 0) (.var 1)) .absent [2, 3]
def f_added : Fn := ⟨"added", ["one", "other", "near", "far"], 2, [false, false],
  (.seq (.ret (.prim .tuple (.cons c_added_0 .nil))) .done)⟩
def c_at_most_0 : T := .comp (.cmp .LtE (.var 2) (.var 3)) (.tT (.cons (.tN 2) (.cons (.tN 3) .nil))) (.sZip (.var 0) (.var 1)) .absent [2, 3]
def f_at_most : Fn := ⟨"at_most", ["one", "other", "near", "far"], 2, [false, false],
  (.seq (.ret (.prim .all (.cons c_at_most_0 .nil))) .done)⟩
def c_some_at_most_0 : T := .comp (.call "at_most" [false, false] (.cons (.var 2) (.cons (.var 1) .nil))) (.tN 2) (.sSeq (.var 0)) .absent [2]
def f_some_at_most : Fn := ⟨"some_at_most", ["rows", "row", "own"], 2, [false, false],
  (.seq (.ret (.prim .any (.cons c_some_at_most_0 .nil))) .done)⟩
def l_least_of_0 : T := .forS (.tN 2) (.sSeq (.sortSet (.var 0))) (.seq (.ifS (.notT (.call "some_at_most" [false, false] (.cons (.var 1) (.cons (.var 2) .nil)))) (.seq (.app 1 (.var 2)) .done) .done) .done)
def f_least_of : Fn := ⟨"least_of", ["rows", "found", "row"], 1, [false],
  (.seq (.asg (.tN 1) (.lst .nil)) (.seq l_least_of_0 (.seq (.ret (.prim .tuple (.cons (.var 1) .nil))) .done)))⟩
def f_row_sum : Fn := ⟨"row_sum", ["one", "other", "near", "far"], 2, [false, false],
  (.seq (.par 2 3 (.call "sure_row" [false] (.cons (.var 0) .nil)) (.call "sure_row" [false] (.cons (.var 1) .nil))) (.seq (.expr (.call "look_long" [false] (.cons (.tup (.cons (.var 2) (.cons (.var 3) .nil))) .nil))) (.seq (.ret (.call "added" [false, false] (.cons (.var 2) (.cons (.var 3) .nil)))) .done)))⟩
def f_is_at_most : Fn := ⟨"is_at_most", ["one", "other", "near", "far"], 2, [false, false],
  (.seq (.par 2 3 (.call "sure_row" [false] (.cons (.var 0) .nil)) (.call "sure_row" [false] (.cons (.var 1) .nil))) (.seq (.expr (.call "look_long" [false] (.cons (.tup (.cons (.var 2) (.cons (.var 3) .nil))) .nil))) (.seq (.ret (.call "at_most" [false, false] (.cons (.var 2) (.cons (.var 3) .nil)))) .done)))⟩
def f_is_below : Fn := ⟨"is_below", ["one", "other", "near", "far"], 2, [false, false],
  (.seq (.par 2 3 (.call "sure_row" [false] (.cons (.var 0) .nil)) (.call "sure_row" [false] (.cons (.var 1) .nil))) (.seq (.expr (.call "look_long" [false] (.cons (.tup (.cons (.var 2) (.cons (.var 3) .nil))) .nil))) (.seq (.ret (.and (.call "at_most" [false, false] (.cons (.var 2) (.cons (.var 3) .nil))) (.one (.cmp .NotEq (.var 2) (.var 3))))) .done)))⟩
def f_least_rows : Fn := ⟨"least_rows", ["rows", "some"], 1, [false],
  (.seq (.asg (.tN 1) (.call "sure_rows" [false] (.cons (.var 0) .nil))) (.seq (.expr (.call "look_long" [false] (.cons (.var 1) .nil))) (.seq (.ret (.call "least_of" [false] (.cons (.var 1) .nil))) .done)))⟩
def f_reaches : Fn := ⟨"reaches", ["rows", "row", "some", "own"], 2, [false, false],
  (.seq (.par 2 3 (.call "sure_rows" [false] (.cons (.var 0) .nil)) (.call "sure_row" [false] (.cons (.var 1) .nil))) (.seq (.expr (.call "look_long" [false] (.cons (.bin .Add (.var 2) (.tup (.cons (.var 3) .nil))) .nil))) (.seq (.ret (.call "some_at_most" [false, false] (.cons (.var 2) (.cons (.var 3) .nil)))) .done)))⟩
def c_sums_of_0 : T := .comp2 (.call "added" [false, false] (.cons (.var 4) (.cons (.var 5) .nil))) (.tN 4) (.sSeq (.var 2)) .absent (.tN 5) (.sSeq (.var 3)) .absent [4, 5] [5]
def f_sums_of : Fn := ⟨"sums_of", ["rows", "others", "some", "more", "one", "other"], 2, [false, false],
  (.seq (.asg (.tT (.cons (.tN 2) (.cons (.tN 3) .nil))) (.tup (.cons (.call "sure_rows" [false] (.cons (.var 0) .nil)) (.cons (.call "sure_rows" [false] (.cons (.var 1) .nil)) .nil)))) (.seq (.expr (.call "look_long" [false] (.cons (.bin .Add (.var 2) (.var 3)) .nil))) (.seq (.ret (.call "least_of" [false] (.cons c_sums_of_0 .nil))) .done)))⟩
def c_met_0 : T := .comp (.prim .max2 (.cons (.var 7) (.cons (.var 8) .nil))) (.tT (.cons (.tN 7) (.cons (.tN 8) .nil))) (.sZip (.var 3) (.var 6)) .absent [7, 8]
def c_met_1 : T := .comp (.prim .tuple (.cons c_met_0 .nil)) (.tN 6) (.sSeq (.var 5)) .absent [6]
def l_met_0 : T := .forS (.tN 3) (.sSeq (.var 4)) (.seq (.ext 2 c_met_1) .done)
def f_met : Fn := ⟨"met", ["rows", "others", "found", "one", "some", "more", "other", "near", "far"], 2, [false, false],
  (.seq (.par 4 5 (.call "sure_rows" [false] (.cons (.var 0) .nil)) (.call "sure_rows" [false] (.cons (.var 1) .nil))) (.seq (.expr (.call "look_long" [false] (.cons (.bin .Add (.var 4) (.var 5)) .nil))) (.seq (.asg (.tN 2) (.lst .nil)) (.seq l_met_0 (.seq (.ret (.call "least_of" [false] (.cons (.var 2) .nil))) .done)))))⟩
def c_made_price_0 : T := .comp (.bin .Mult (.var 2) (.var 3)) (.tT (.cons (.tN 2) (.cons (.tN 3) .nil))) (.sZip (.var 0) (.var 1)) .absent [2, 3]
def f_made_price : Fn := ⟨"made_price", ["prices", "row", "price", "own"], 2, [false, false],
  (.seq (.ret (.prim .sum (.cons c_made_price_0 .nil))) .done)⟩
def f_price_of : Fn := ⟨"price_of", ["prices", "row", "told", "own"], 2, [false, false],
  (.seq (.par 2 3 (.call "sure_row" [false] (.cons (.var 0) .nil)) (.call "sure_row" [false] (.cons (.var 1) .nil))) (.seq (.expr (.call "look_long" [false] (.cons (.tup (.cons (.var 2) (.cons (.var 3) .nil))) .nil))) (.seq (.ret (.call "made_price" [false, false] (.cons (.var 2) (.cons (.var 3) .nil)))) .done)))⟩
def c_are_entries_0 : T := .comp (.call "is_between" [false, false, false] (.cons (.var 2) (.cons (.const (.int 0)) (.cons (.glo "MOST_ENTRY" (.int 1000)) .nil)))) (.tN 2) (.sSeq (.var 0)) .absent [2]
def f_are_entries : Fn := ⟨"are_entries", ["thing", "least", "own"], 2, [false, false],
  (.seq (.ifS (.or (.notT (.isi (.var 0) [.tuple])) (.one (.notT (.chain .LtE .LtE (.var 1) (.prim .len (.cons (.var 0) .nil)) (.glo "MOST_ENTRIES" (.int 5)))))) (.seq (.ret (.const (.bool false))) .done) .done) (.seq (.ret (.prim .all (.cons c_are_entries_0 .nil))) .done))⟩
def c_are_rows_0 : T := .comp (.call "are_entries" [false, false] (.cons (.var 3) (.cons (.var 1) .nil))) (.tN 3) (.sSeq (.var 0)) .absent [3]
def f_are_rows : Fn := ⟨"are_rows", ["thing", "least", "most", "row"], 3, [false, false, false],
  (.seq (.ifS (.or (.notT (.isi (.var 0) [.tuple])) (.one (.cmp .Gt (.prim .len (.cons (.var 0) .nil)) (.var 2)))) (.seq (.ret (.const (.bool false))) .done) .done) (.seq (.ret (.and (.prim .all (.cons c_are_rows_0 .nil)) (.one (.call "is_rising" [false] (.cons (.var 0) .nil))))) .done))⟩
def f_sure_set : Fn := ⟨"sure_set", ["rows", "least", "most", "own"], 3, [false, false, false],
  (.seq (.asg (.tN 3) (.call "tuple_of" [false] (.cons (.var 0) .nil))) (.seq (.expr (.call "sure" [false] (.cons (.call "are_rows" [false, false, false] (.cons (.var 3) (.cons (.var 1) (.cons (.var 2) .nil)))) .nil))) (.seq (.ret (.var 3)) .done)))⟩
def f_sure_numbered : Fn := ⟨"sure_numbered", ["rows", "number", "own"], 2, [false, false],
  (.seq (.asg (.tN 2) (.call "sure_set" [false, false, false] (.cons (.var 0) (.cons (.const (.int 1)) (.cons (.glo "MOST_ROWS" (.int 40)) .nil))))) (.seq (.expr (.call "sure" [false] (.cons (.call "is_between" [false, false, false] (.cons (.var 1) (.cons (.const (.int 0)) (.cons (.bin .Sub (.prim .len (.cons (.var 2) .nil)) (.const (.int 1))) .nil)))) .nil))) (.seq (.expr (.call "look_long" [false] (.cons (.var 2) .nil))) (.seq (.ret (.var 2)) .done))))⟩
def c_bears_0 : T := .comp (.cmp .LtE (.var 3) (.call "made_price" [false, false] (.cons (.var 2) (.cons (.var 4) .nil)))) (.tN 4) (.sSeq (.var 0)) .absent [4]
def c_bears_1 : T := .comp (.cmp .Gt (.var 5) (.const (.int 0))) (.tN 5) (.sSeq (.var 2)) .absent [5]
def f_bears : Fn := ⟨"bears", ["rows", "number", "thing", "here", "row", "price"], 3, [false, false, false],
  (.seq (.ifS (.or (.notT (.call "is_row_of" [false, false] (.cons (.var 2) (.cons (.prim .len (.cons (.idx (.var 0) (.const (.int 0))) .nil)) .nil)))) (.one (.notT (.prim .all (.cons c_bears_1 .nil))))) (.seq (.ret (.const (.bool false))) .done) .done) (.seq (.asg (.tN 3) (.call "made_price" [false, false] (.cons (.var 2) (.cons (.idx (.var 0) (.var 1)) .nil)))) (.seq (.ret (.prim .all (.cons c_bears_0 .nil))) .done)))⟩
def f_is_price_paper : Fn := ⟨"is_price_paper", ["rows", "number", "thing"], 3, [false, false, false],
  (.seq (.ret (.call "bears" [false, false, false] (.cons (.call "sure_numbered" [false, false] (.cons (.var 0) (.cons (.var 1) .nil))) (.cons (.var 1) (.cons (.var 2) .nil))))) .done)⟩
def c_made_mixed_0 : T := .comp (.bin .Add (.var 5) (.bin .Mult (.var 4) (.var 6))) (.tT (.cons (.tN 5) (.cons (.tN 6) .nil))) (.sZip (.var 2) (.var 3)) .absent [5, 6]
def l_made_mixed_0 : T := .forS (.tT (.cons (.tN 3) (.cons (.tN 4) .nil))) (.sZip (.var 0) (.var 1)) (.seq (.asg (.tN 2) c_made_mixed_0) .done)
def f_made_mixed : Fn := ⟨"made_mixed", ["rows", "weights", "found", "row", "weight", "own", "far"], 2, [false, false],
  (.seq (.asg (.tN 2) (.lrep (.cons (.const (.int 0)) .nil) (.prim .len (.cons (.idx (.var 0) (.const (.int 0))) .nil)))) (.seq l_made_mixed_0 (.seq (.ret (.tup (.cons (.prim .sum (.cons (.var 1) .nil)) (.cons (.prim .tuple (.cons (.var 2) .nil)) .nil)))) .done)))⟩
def f_is_mixture : Fn := ⟨"is_mixture", ["rows", "thing"], 2, [false, false],
  (.seq (.ret (.and (.call "is_row_of" [false, false] (.cons (.var 1) (.cons (.prim .len (.cons (.var 0) .nil)) .nil))) (.one (.cmp .Gt (.prim .sum (.cons (.var 1) .nil)) (.const (.int 0)))))) .done)⟩
def c_presses_0 : T := .comp (.bin .Mult (.var 3) (.var 5)) (.tN 5) (.sSeq (.var 1)) .absent [5]
def f_presses : Fn := ⟨"presses", ["rows", "row", "thing", "many", "total", "own"], 3, [false, false, false],
  (.seq (.ifS (.notT (.call "is_mixture" [false, false] (.cons (.var 0) (.cons (.var 2) .nil)))) (.seq (.ret (.const (.bool false))) .done) .done) (.seq (.asg (.tT (.cons (.tN 3) (.cons (.tN 4) .nil))) (.call "made_mixed" [false, false] (.cons (.var 0) (.cons (.var 2) .nil)))) (.seq (.ret (.call "at_most" [false, false] (.cons (.var 4) (.cons (.prim .tuple (.cons c_presses_0 .nil)) .nil)))) .done)))⟩
def c_is_mixture_paper_0 : T := .comp (.bin .Mult (.var 4) (.var 6)) (.tN 6) (.sSeq (.idx (.var 3) (.var 1))) .absent [6]
def f_is_mixture_paper : Fn := ⟨"is_mixture_paper", ["rows", "number", "thing", "own", "many", "total", "far"], 3, [false, false, false],
  (.seq (.asg (.tN 3) (.call "sure_numbered" [false, false] (.cons (.var 0) (.cons (.var 1) .nil)))) (.seq (.ifS (.notT (.call "presses" [false, false, false] (.cons (.var 3) (.cons (.idx (.var 3) (.var 1)) (.cons (.var 2) .nil))))) (.seq (.ret (.const (.bool false))) .done) .done) (.seq (.asg (.tT (.cons (.tN 4) (.cons (.tN 5) .nil))) (.call "made_mixed" [false, false] (.cons (.var 3) (.cons (.var 2) .nil)))) (.seq (.ret (.cmp .NotEq (.var 5) (.prim .tuple (.cons c_is_mixture_paper_0 .nil)))) .done))))⟩
def c_mixed_0 : T := .comp (.call "is_between" [false, false, false] (.cons (.var 4) (.cons (.const (.int 0)) (.cons (.glo "MOST_WEIGHT" (.int 1000000000000)) .nil)))) (.tN 4) (.sSeq (.var 3)) .absent [4]
def f_mixed : Fn := ⟨"mixed", ["rows", "weights", "own", "told", "weight"], 2, [false, false],
  (.seq (.par 2 3 (.call "sure_set" [false, false, false] (.cons (.var 0) (.cons (.const (.int 1)) (.cons (.glo "MOST_ROWS" (.int 40)) .nil)))) (.call "tuple_of" [false] (.cons (.var 1) .nil))) (.seq (.expr (.call "sure" [false] (.cons (.and (.call "is_mixture" [false, false] (.cons (.var 2) (.cons (.var 3) .nil))) (.one (.prim .all (.cons c_mixed_0 .nil)))) .nil))) (.seq (.expr (.call "look_long" [false] (.cons (.var 2) .nil))) (.seq (.ret (.call "made_mixed" [false, false] (.cons (.var 2) (.cons (.var 3) .nil)))) .done))))⟩
def f_law_box : Fn := ⟨"_law_box", ["script", "k", "cell"], 2, [false, false],
  (.seq (.asg (.tN 2) (.ite (.cmp .Lt (.var 1) (.prim .len (.cons (.var 0) .nil))) (.idx (.var 0) (.var 1)) (.const (.int 0)))) (.seq (.ret (.lst (.cons (.bin .Mult (.prim .abs (.cons (.var 2) .nil)) (.prim .int (.cons (.cmp .GtE (.prim .abs (.cons (.var 2) .nil)) (.bin .Pow (.const (.int 10)) (.const (.int 18)))) .nil))) (.cons (.bin .Add (.bin .Add (.bin .Mod (.prim .int (.cons (.var 2) .nil)) (.const (.int 2305843009213693951))) (.bin .Mult (.const (.int 39373)) (.var 1))) (.const (.int 2631688))) (.cons (.const (.int 0)) .nil))))) .done))⟩
def s_law_take_0 : T := .ifS (.cmp .Gt (.idx (.var 0) (.const (.int 0))) (.const (.int 0))) (.seq (.asg (.tN 5) (.bin .Mod (.prim .int (.cons (.idx (.var 0) (.const (.int 0))) .nil)) (.var 1))) (.seq (.setIx 0 (.const (.int 0)) (.bin .FloorDiv (.idx (.var 0) (.const (.int 0))) (.var 1))) (.seq (.ret (.var 5)) .done))) .done
def s_law_take_1 : T := .setIx 0 (.const (.int 2)) (.bin .Add (.idx (.var 0) (.const (.int 2))) (.const (.int 1)))
def s_law_take_2 : T := .asg (.tN 2) (.bin .Mod (.prim .int (.cons (.bin .Mult (.bin .Add (.idx (.var 0) (.const (.int 1))) (.bin .Mult (.const (.int 48271)) (.idx (.var 0) (.const (.int 2))))) (.bin .Add (.const (.int 39373)) (.idx (.var 0) (.const (.int 2))))) .nil)) (.const (.int 2147483647)))
def s_law_take_3 : T := .asg (.tN 3) (.bin .Add (.bin .Mod (.prim .int (.cons (.var 2) .nil)) (.const (.int 40009))) (.const (.int 7)))
def s_law_take_4 : T := .asg (.tN 4) (.bin .Mod (.prim .int (.cons (.bin .Mult (.bin .Add (.bin .Add (.var 2) (.idx (.var 0) (.const (.int 2)))) (.bin .FloorDiv (.idx (.var 0) (.const (.int 1))) (.const (.int 1000003)))) (.var 3)) .nil)) (.const (.int 2147483629)))
def s_law_take_5 : T := .ret (.bin .Mod (.prim .int (.cons (.bin .FloorDiv (.bin .Mod (.prim .int (.cons (.bin .Add (.bin .Mult (.var 4) (.const (.int 48271))) (.var 2)) .nil)) (.const (.int 2147483587))) (.const (.int 64))) .nil)) (.var 1))
def f_law_take : Fn := ⟨"_law_take", ["box", "size_so", "once", "far", "twice", "drawn"], 2, [true, false],
  (.seq s_law_take_0 (.seq s_law_take_1 (.seq s_law_take_2 (.seq s_law_take_3 (.seq s_law_take_4 (.seq s_law_take_5 .done))))))⟩
def l_law_cells_0 : T := .forS (.tT (.cons (.tN 3) (.cons (.tN 4) .nil))) (.sEnum (.slc (.var 0) (.var 1) (.const (.int 63)))) (.seq (.asg (.tN 5) (.bin .Mod (.prim .int (.cons (.var 3) .nil)) (.var 1))) (.seq (.setIx 2 (.var 5) (.bin .Add (.idx (.var 2) (.var 5)) (.bin .Mult (.var 4) (.bin .Add (.var 3) (.const (.int 2)))))) .done))
def f_law_cells : Fn := ⟨"_law_cells", ["script", "top_so", "cells_so", "k", "cell", "at_so"], 2, [false, false],
  (.seq (.asg (.tN 2) (.or (.prim .list (.cons (.slc (.var 0) .absent (.var 1)) .nil)) (.one (.lst (.cons (.const (.int 0)) .nil))))) (.seq l_law_cells_0 (.seq (.ret (.var 2)) .done)))⟩
def c_law_same_0 : T := .comp (.call "_law_same" [false, false] (.cons (.var 2) (.cons (.var 3) .nil))) (.tT (.cons (.tN 2) (.cons (.tN 3) .nil))) (.sZip (.var 0) (.var 1)) .absent [2, 3]
def f_law_same : Fn := ⟨"_law_same", ["got", "due", "mine", "its"], 2, [false, false],
  (.seq (.ifS (.isi (.var 1) [.list, .tuple]) (.seq (.ifS (.or (.cmp .NotEq (.isi (.var 0) [.list]) (.isi (.var 1) [.list])) (.one (.cmp .NotEq (.isi (.var 0) [.tuple]) (.isi (.var 1) [.tuple])))) (.seq (.ret (.const (.bool false))) .done) .done) (.seq (.ret (.and (.cmp .Eq (.prim .len (.cons (.var 0) .nil)) (.prim .len (.cons (.var 1) .nil))) (.one (.prim .all (.cons c_law_same_0 .nil))))) .done)) .done) (.seq (.ifS (.or (.cmp .Is (.var 1) (.const .none)) (.one (.isi (.var 1) [.bool, .str]))) (.seq (.ret (.and (.cmp .Eq (.var 0) (.var 1)) (.and (.cmp .Eq (.isi (.var 0) [.bool]) (.isi (.var 1) [.bool])) (.one (.cmp .Eq (.cmp .Is (.var 0) (.const .none)) (.cmp .Is (.var 1) (.const .none))))))) .done) .done) (.seq (.ret (.and (.isi (.var 0) [.int]) (.and (.notT (.isi (.var 0) [.bool])) (.one (.cmp .Eq (.var 0) (.var 1)))))) .done)))⟩
def f_law_of : Fn := ⟨"_law_of", ["box", "pool_so"], 2, [true, false],
  (.seq (.ret (.idx (.var 1) (.call "_law_take" [true, false] (.cons (.var 0) (.cons (.prim .len (.cons (.var 1) .nil)) .nil))))) .done)⟩
def l_law_pick_0 : T := .forS (.tN 3) (.sR1 (.prim .min2 (.cons (.prim .int (.cons (.var 2) .nil)) (.cons (.prim .len (.cons (.var 4) .nil)) .nil)))) (.seq (.app 5 .never) .done)
def f_law_pick : Fn := ⟨"_law_pick", ["box", "goods_so", "count_so", "turn", "pool_so", "found"], 3, [true, false, false],
  (.seq (.par 4 5 (.prim .list (.cons (.var 1) .nil)) (.lst .nil)) (.seq l_law_pick_0 (.seq (.ret (.var 5)) .done)))⟩
def f_law_number : Fn := ⟨"_law_number", ["box"], 1, [true],
  (.seq (.ret (.call "_law_of" [true, false] (.cons (.var 0) (.cons (.lst (.cons (.const (.int 0)) (.cons (.const (.int 1)) (.cons (.bin .Pow (.const (.int 10)) (.const (.int 6))) (.cons (.bin .Sub (.bin .Pow (.const (.int 10)) (.const (.int 6))) (.const (.int 1))) (.cons (.const (.int 999)) (.cons (.call "_law_take" [true, false] (.cons (.var 0) (.cons (.bin .Pow (.const (.int 10)) (.const (.int 6))) .nil))) (.cons (.call "_law_take" [true, false] (.cons (.var 0) (.cons (.bin .Pow (.const (.int 10)) (.const (.int 3))) .nil))) .nil)))))))) .nil)))) .done)⟩
def s_law_right_0 : T := .asg (.tN 1) (.bin .Add (.const (.int 1)) (.call "_law_take" [true, false] (.cons (.var 0) (.cons (.const (.int 5)) .nil))))
def c_law_right_0 : T := .comp (.call "_law_number" [true] (.cons (.var 0) .nil)) (.tN 6) (.sR1 (.var 1)) .absent [6]
def c_law_right_1 : T := .comp (.prim .tuple (.cons c_law_right_0 .nil)) (.tN 20) (.sR1 (.const (.int 3))) .absent [20]
def s_law_right_1 : T := .asg (.tT (.cons (.tN 13) (.cons (.tN 14) (.cons (.tN 15) .nil)))) c_law_right_1
def c_law_right_2 : T := .comp (.bin .Add (.var 23) (.var 24)) (.tT (.cons (.tN 23) (.cons (.tN 24) .nil))) (.sZip (.var 13) (.var 14)) .absent [23, 24]
def s_law_right_2 : T := .asg (.tN 2) (.prim .tuple (.cons c_law_right_2 .nil))
def s_law_right_3 : T := .asg (.tN 3) (.lst (.cons (.call "row_sum" [false, false] (.cons (.var 13) (.cons (.var 14) .nil))) (.cons (.call "price_of" [false, false] (.cons (.var 15) (.cons (.var 13) .nil))) (.cons (.call "price_of" [false, false] (.cons (.var 15) (.cons (.var 14) .nil))) (.cons (.call "is_row" [false, false] (.cons (.var 2) (.cons (.var 1) .nil))) .nil)))))
def c_law_right_3 : T := .comp (.bin .Mult (.var 23) (.var 24)) (.tT (.cons (.tN 23) (.cons (.tN 24) .nil))) (.sZip (.var 15) (.var 13)) .absent [23, 24]
def c_law_right_4 : T := .comp (.bin .Mult (.var 23) (.var 24)) (.tT (.cons (.tN 23) (.cons (.tN 24) .nil))) (.sZip (.var 15) (.var 14)) .absent [23, 24]
def s_law_right_4 : T := .ifS (.notT (.call "_law_same" [false, false] (.cons (.var 3) (.cons (.lst (.cons (.var 2) (.cons (.prim .sum (.cons c_law_right_3 .nil)) (.cons (.prim .sum (.cons c_law_right_4 .nil)) (.cons (.const (.bool true)) .nil))))) .nil)))) (.seq (.ret (.const (.bool false))) .done) .done
def c_law_right_5 : T := .comp (.const (.int 1)) (.tT (.cons (.tN 23) (.cons (.tN 24) .nil))) (.sZip (.var 13) (.var 14)) (.cmp .Gt (.var 23) (.var 24)) [23, 24]
def s_law_right_5 : T := .asg (.tN 4) (.cmp .Eq c_law_right_5 (.lst .nil))
def c_law_right_6 : T := .comp (.prim .max2 (.cons (.var 23) (.cons (.var 24) .nil))) (.tT (.cons (.tN 23) (.cons (.tN 24) .nil))) (.sZip (.var 13) (.var 14)) .absent [23, 24]
def s_law_right_6 : T := .asg (.tN 5) (.prim .tuple (.cons c_law_right_6 .nil))
def s_law_right_7 : T := .asg (.tN 3) (.lst (.cons (.call "is_at_most" [false, false] (.cons (.var 13) (.cons (.var 14) .nil))) (.cons (.call "is_below" [false, false] (.cons (.var 13) (.cons (.var 14) .nil))) (.cons (.call "reaches" [false, false] (.cons (.tup (.cons (.var 14) .nil)) (.cons (.var 13) .nil))) (.cons (.call "met" [false, false] (.cons (.tup (.cons (.var 13) .nil)) (.cons (.tup (.cons (.var 14) .nil)) .nil))) (.cons (.call "sums_of" [false, false] (.cons (.tup (.cons (.var 13) .nil)) (.cons (.tup (.cons (.var 14) .nil)) .nil))) .nil))))))
def c_law_right_7 : T := .comp (.const (.int 1)) (.tT (.cons (.tN 23) (.cons (.tN 24) .nil))) (.sZip (.var 14) (.var 13)) (.cmp .Gt (.var 23) (.var 24)) [23, 24]
def s_law_right_8 : T := .ifS (.notT (.call "_law_same" [false, false] (.cons (.var 3) (.cons (.lst (.cons (.var 4) (.cons (.and (.var 4) (.one (.cmp .NotEq (.var 13) (.var 14)))) (.cons (.cmp .Eq c_law_right_7 (.lst .nil)) (.cons (.tup (.cons (.var 5) .nil)) (.cons (.tup (.cons (.var 2) .nil)) .nil)))))) .nil)))) (.seq (.ret (.const (.bool false))) .done) .done
def s_law_right_9 : T := .asg (.tN 6) (.call "_law_take" [true, false] (.cons (.var 0) (.cons (.var 1) .nil)))
def s_law_right_10 : T := .asg (.tN 7) (.bin .Add (.bin .Add (.slc (.var 13) .absent (.var 6)) (.tup (.cons (.ite (.cmp .Lt (.idx (.var 13) (.var 6)) (.bin .Pow (.const (.int 10)) (.const (.int 6)))) (.bin .Add (.idx (.var 13) (.var 6)) (.const (.int 1))) (.bin .Sub (.idx (.var 13) (.var 6)) (.const (.int 1)))) .nil))) (.slc (.var 13) (.bin .Add (.var 6) (.const (.int 1))) .absent))
def s_law_right_11 : T := .asg (.tN 8) (.cmp .Gt (.idx (.var 7) (.var 6)) (.idx (.var 13) (.var 6)))
def s_law_right_12 : T := .asg (.tN 3) (.lst (.cons (.call "is_below" [false, false] (.cons (.var 13) (.cons (.var 7) .nil))) (.cons (.call "is_below" [false, false] (.cons (.var 7) (.cons (.var 13) .nil))) (.cons (.call "least_rows" [false] (.cons (.tup (.cons (.var 13) (.cons (.var 7) .nil))) .nil)) (.cons (.bin .Sub (.call "price_of" [false, false] (.cons (.var 15) (.cons (.var 7) .nil))) (.call "price_of" [false, false] (.cons (.var 15) (.cons (.var 13) .nil)))) .nil)))))
def s_law_right_13 : T := .ifS (.notT (.call "_law_same" [false, false] (.cons (.var 3) (.cons (.lst (.cons (.var 8) (.cons (.notT (.var 8)) (.cons (.tup (.cons (.ite (.var 8) (.var 13) (.var 7)) .nil)) (.cons (.ite (.var 8) (.idx (.var 15) (.var 6)) (.neg (.idx (.var 15) (.var 6)))) .nil))))) .nil)))) (.seq (.ret (.const (.bool false))) .done) .done
def c_law_right_8 : T := .comp (.call "_law_take" [true, false] (.cons (.var 0) (.cons (.const (.int 1001)) .nil))) (.tN 21) (.sR1 (.var 1)) .absent [21]
def c_law_right_9 : T := .comp (.prim .tuple (.cons c_law_right_8 .nil)) (.tN 20) (.sR1 (.bin .Add (.const (.int 2)) (.call "_law_take" [true, false] (.cons (.var 0) (.cons (.const (.int 5)) .nil))))) .absent [20]
def s_law_right_14 : T := .asg (.tN 9) (.prim .tuple (.cons (.sortSet c_law_right_9) .nil))
def c_law_right_10 : T := .comp (.call "_law_of" [true, false] (.cons (.var 0) (.cons (.lst (.cons (.const (.int 0)) (.cons (.const (.int 1)) (.cons (.bin .Pow (.const (.int 10)) (.const (.int 12))) (.cons (.bin .Sub (.bin .Pow (.const (.int 10)) (.const (.int 12))) (.const (.int 1))) (.cons (.call "_law_take" [true, false] (.cons (.var 0) (.cons (.bin .Pow (.const (.int 10)) (.const (.int 12))) .nil))) .nil)))))) .nil))) (.tN 16) (.sSeq (.var 9)) .absent [16]
def s_law_right_15 : T := .asg (.tN 10) (.prim .tuple (.cons c_law_right_10 .nil))
def s_law_right_16 : T := .ifS (.cmp .Eq (.prim .sum (.cons (.var 10) .nil)) (.const (.int 0))) (.seq (.asg (.tN 10) (.bin .Add (.tup (.cons (.bin .Pow (.const (.int 10)) (.const (.int 12))) .nil)) (.slc (.var 10) (.const (.int 1)) .absent))) .done) .done
def c_law_right_11 : T := .comp (.bin .Mult (.var 25) (.idx (.var 16) (.var 21))) (.tT (.cons (.tN 25) (.cons (.tN 16) .nil))) (.sZip (.var 10) (.var 9)) .absent [25, 16]
def c_law_right_12 : T := .comp (.prim .sum (.cons c_law_right_11 .nil)) (.tN 21) (.sR1 (.var 1)) .absent [21]
def s_law_right_17 : T := .asg (.tN 11) (.prim .tuple (.cons c_law_right_12 .nil))
def s_law_right_18 : T := .ifS (.notT (.call "_law_same" [false, false] (.cons (.call "mixed" [false, false] (.cons (.var 9) (.cons (.var 10) .nil))) (.cons (.tup (.cons (.prim .sum (.cons (.var 10) .nil)) (.cons (.var 11) .nil))) .nil)))) (.seq (.ret (.const (.bool false))) .done) .done
def s_law_right_19 : T := .asg (.tN 16) (.idx (.var 9) (.var 12))
def c_law_right_13 : T := .comp (.const (.int 1)) (.tT (.cons (.tN 23) (.cons (.tN 24) .nil))) (.sZip (.var 11) (.var 16)) (.cmp .Gt (.var 23) (.bin .Mult (.var 24) (.prim .sum (.cons (.var 10) .nil)))) [23, 24]
def c_law_right_14 : T := .comp (.bin .Mult (.var 26) (.prim .sum (.cons (.var 10) .nil))) (.tN 26) (.sSeq (.var 16)) .absent [26]
def s_law_right_20 : T := .asg (.tN 17) (.and (.cmp .Eq c_law_right_13 (.lst .nil)) (.one (.cmp .NotEq (.var 11) (.prim .tuple (.cons c_law_right_14 .nil)))))
def c_law_right_15 : T := .comp (.ite (.cmp .Eq (.var 21) (.var 12)) (.bin .Pow (.const (.int 10)) (.const (.int 12))) (.const (.int 0))) (.tN 21) (.sR1 (.prim .len (.cons (.var 9) .nil))) .absent [21]
def s_law_right_21 : T := .asg (.tN 18) (.prim .tuple (.cons c_law_right_15 .nil))
def c_law_right_16 : T := .comp (.bin .Mult (.var 23) (.var 24)) (.tT (.cons (.tN 23) (.cons (.tN 24) .nil))) (.sZip (.var 15) (.var 22)) .absent [23, 24]
def c_law_right_17 : T := .comp (.prim .sum (.cons c_law_right_16 .nil)) (.tN 22) (.sSeq (.var 9)) .absent [22]
def s_law_right_22 : T := .asg (.tN 19) c_law_right_17
def s_law_right_23 : T := .asg (.tN 3) (.lst (.cons (.call "is_mixture_paper" [false, false, false] (.cons (.var 9) (.cons (.var 12) (.cons (.var 10) .nil)))) (.cons (.call "is_mixture_paper" [false, false, false] (.cons (.var 9) (.cons (.var 12) (.cons (.var 18) .nil)))) (.cons (.call "is_price_paper" [false, false, false] (.cons (.var 9) (.cons (.var 12) (.cons (.var 15) .nil)))) .nil))))
def s_law_right_24 : T := .ifS (.notT (.call "_law_same" [false, false] (.cons (.var 3) (.cons (.lst (.cons (.var 17) (.cons (.const (.bool false)) (.cons (.and (.cmp .Eq (.idx (.var 19) (.var 12)) (.prim .min1 (.cons (.var 19) .nil))) (.one (.cmp .Gt (.prim .min1 (.cons (.var 15) .nil)) (.const (.int 0))))) .nil)))) .nil)))) (.seq (.ret (.const (.bool false))) .done) .done
def l_law_right_0 : T := .forS (.tN 12) (.sR1 (.prim .len (.cons (.var 9) .nil))) (.seq s_law_right_19 (.seq s_law_right_20 (.seq s_law_right_21 (.seq s_law_right_22 (.seq s_law_right_23 (.seq s_law_right_24 .done))))))
def s_law_right_25 : T := .ret (.const (.bool true))
def f_law_right : Fn := ⟨"_law_right", ["box", "many", "total", "got", "low", "tops", "k", "more", "rise", "rows", "weights", "whole", "number", "one", "other", "prices", "row", "good", "lone", "costs", "turn", "j", "far", "a", "b", "weight", "own"], 1, [true],
  (.seq s_law_right_0 (.seq s_law_right_1 (.seq s_law_right_2 (.seq s_law_right_3 (.seq s_law_right_4 (.seq s_law_right_5 (.seq s_law_right_6 (.seq s_law_right_7 (.seq s_law_right_8 (.seq s_law_right_9 (.seq s_law_right_10 (.seq s_law_right_11 (.seq s_law_right_12 (.seq s_law_right_13 (.seq s_law_right_14 (.seq s_law_right_15 (.seq s_law_right_16 (.seq s_law_right_17 (.seq s_law_right_18 (.seq l_law_right_0 (.seq s_law_right_25 .done)))))))))))))))))))))⟩
def f_law : Fn := ⟨"law", ["script", "box"], 1, [false],
  (.seq (.asg (.tN 1) (.call "_law_box" [false, false] (.cons (.call "_law_cells" [false, false] (.cons (.var 0) (.cons (.const (.int 1)) .nil))) (.cons (.const (.int 0)) .nil)))) (.seq (.ret (.and (.call "_law_right" [true] (.cons (.var 1) .nil)) (.one (.call "_law_right" [true] (.cons (.var 1) .nil))))) .done))⟩
def tb : List Fn := [f_is_number, f_is_from, f_is_between, f_tuple_of, f_is_tuple_of, f_sure, f_is_rising, f_is_row_of, f_is_row, f_is_low_row, f_sure_row, f_sure_rows, f_look_long, f_added, f_at_most, f_some_at_most, f_least_of, f_row_sum, f_is_at_most, f_is_below, f_least_rows, f_reaches, f_sums_of, f_met, f_made_price, f_price_of, f_are_entries, f_are_rows, f_sure_set, f_sure_numbered, f_bears, f_is_price_paper, f_made_mixed, f_is_mixture, f_presses, f_is_mixture_paper, f_mixed, f_law_box, f_law_take, f_law_cells, f_law_same, f_law_of, f_law_pick, f_law_number, f_law_right, f_law]
def gl : List (Str × D) := [("MOST_ENTRIES", (.int 5)), ("MOST_ENTRY", (.int 1000)), ("MOST_NUMBER", (.int 1000000)), ("MOST_ROWS", (.int 40)), ("MOST_WEIGHT", (.int 1000000000000))]
def fr : List Str := ["abs", "all", "any", "bool", "enumerate", "int", "isinstance", "len", "list", "max", "min", "range", "set", "sorted", "str", "sum", "tuple", "zip"]
abbrev pw : PySem.Program := PySem.Challenge.pw_countsandfloors_k88_great_numbers_in_row
abbrev rw0 : PySem.W.OpenLaw := PySem.Challenge.rw_countsandfloors_k88_great_numbers_in_row
def dOf : Stmt → Option He.DefD
  | .FunctionDef (name := n) (args := a) (body := b) (scope := s) .. => some ⟨(n, none), n, n, a, b, s, [], []⟩
  | _ => none
def fn : List He.DefD := pw.main.body.filterMap dOf
def fa : List He.Fa := (fn.map fun d => .glo d.name) ++ fr.map .free ++ gl.filterMap fun p => match p.2 with
  | .int i => some (.int p.1 i)
  | .str z => some (.str p.1 z)
  | _ => none
theorem tab : tabB fa fn tb gl fr = true := by decide +kernel
/-! ### the head -/
abbrev R0 : PySem.W.OpenRow := PySem.W.OpenLaw.row rw0
abbrev hk : PySem.W.Hook := hookN 4 fa fn
def ob (s : PySem.W.SharedT) : He.AlD := obsN 4 fa fn (HandSHeadRun.getT s)
theorem ob_eq (s : PySem.W.SharedT) : ob s = hk.obs s.abs := obsN_eq (HandSHeadRun.getT_eq s)
def loose0 : List PySem.Str := ["Unfit", "OtherLength", "MOST_NUMBER", "is_number", "is_from", "is_between", "tuple_of", "is_tuple_of", "sure", "is_rising", "MOST_ENTRIES", "MOST_ROWS", "is_row_of", "is_row", "is_low_row", "sure_row", "sure_rows", "look_long", "added", "at_most", "some_at_most", "least_of", "row_sum", "is_at_most", "is_below"]
def loose1 : List PySem.Str := ["least_rows", "reaches", "sums_of", "met", "made_price", "price_of", "MOST_ENTRY", "MOST_WEIGHT", "are_entries", "are_rows", "sure_set", "sure_numbered", "bears", "is_price_paper", "made_mixed", "is_mixture", "presses", "is_mixture_paper", "mixed", "_law_box", "_law_take", "_law_cells", "_law_same", "_law_of", "_law_pick"]
def loose2 : List PySem.Str := ["_law_number", "_law_right"]
abbrev loose : List PySem.Str := loose0 ++ loose1 ++ loose2
theorem run (w : World) : HandSHeadRun.RunEq R0 (PySem.W.view R0.prog [58]) hk ob 4000 loose w := by
  intro os
  kernel_rfl
/-- what is left to show: the table's law answers yes -/
def LawSays (k : Nat) : Prop := ∀ ns : List Int, ns.length ≤ 63 → runF tb k "law" [.d (.list (ns.map .int))] = .ok (.v (.bool true)) []
end L2.Mp
open PySem PySem.W PySem.Calls PyProof.Rows
theorem law_holds (k : Nat) (room : L2.Room k callerA) (says : L2.Mp.LawSays k) : L2.Mp.rw0.Holds := by
  w_on; o_law
  refine HandSHeadRun.head_any (r := OpenLaw.row L2.Mp.rw0) (q := view (OpenLaw.row L2.Mp.rw0).prog [58]) (H := L2.Mp.hk) (ob := L2.Mp.ob) (M := 4000) (loose := L2.Mp.loose) (d := HandSHeadRun.topDef (OpenLaw.row L2.Mp.rw0).prog 58) (kwd := []) L2.Mp.ob_eq
    (by kernel_rfl) (fun s => by kernel_rfl) L2.Mp.run (by kernel_rfl) (by kernel_rfl) (by kernel_rfl) (by rfl) (by first | assumption | decide +kernel) (by decide +kernel) ⟨rfl, rfl, rfl, rfl, rfl, by decide +kernel⟩ ?hw ?hc
  case hw => w_witness2
  case hc =>
    refine L2.walk_ofE (l := L2.Mp.rw0) (n := 63) (k := k) (x := "script") (CX := L2.CX0) rfl (by decide) (by kernel_rfl) room ?F (fun _ _ _ _ z => z)
    intro w mg fa h Y G hmg0
    obtain ⟨K, KX, nl, c⟩ := Y
    have hmg : mg ("law" : PySem.Str) = some (.ref fa) := by
      have e : (HandSHeadRun.topDef (OpenLaw.row L2.Mp.rw0).prog 58).name = ("law" : PySem.Str) := by kernel_rfl
      rw [← e]
      exact hmg0
    exact L2.Mp.law_ok KX G nl c L2.Mp.tab (nm := "law") (ar := "script") (f := L2.Mp.f_law) rfl rfl says hmg
set_option Elab.async false
set_option linter.all false
set_option maxRecDepth 100000
set_option maxHeartbeats 4000000
namespace L2.Mp
open PySem PySem.Spec PyProof.Rows L2
/-! ### plain laws of the evaluator -/
theorem wS_len : ∀ (vs : List Nat) (e : Fm), (wipeS vs e).length = e.length
  | [], _ => rfl
  | v :: vs, e => by
    show ((wipeS vs e).set v .no).length = _
    rw [List.length_set, wS_len vs e]
theorem wS_out {j : Nat} : ∀ {vs : List Nat} {e : Fm}, j ∉ vs → (wipeS vs e)[j]? = e[j]?
  | [], _, _ => rfl
  | v :: vs, e, h => by
    show ((wipeS vs e).set v .no)[j]? = _
    rw [List.getElem?_set_ne (fun z => h (by rw [z]; exact List.mem_cons_self)), wS_out fun z => h (List.mem_cons_of_mem _ z)]
theorem bS_len (e0 : Fm) : ∀ (vs : List Nat) (e : Fm), (backS e0 vs e).length = e.length
  | [], _ => rfl
  | v :: vs, e => by
    show ((backS e0 vs e).set v _).length = _
    rw [List.length_set, bS_len e0 vs e]
theorem bS_at {e0 : Fm} {j : Nat} : ∀ {vs : List Nat} {e : Fm}, e.length = e0.length → (backS e0 vs e)[j]? = if j ∈ vs then e0[j]? else e[j]?
  | [], e, _ => by simp [backS]
  | v :: vs, e, hl => by
    show ((backS e0 vs e).set v (e0.getD v .no))[j]? = _
    by_cases hv : v = j
    · subst hv
      rw [if_pos List.mem_cons_self]
      by_cases hb : v < e.length
      · rw [List.getElem?_set_self (by rw [bS_len]; exact hb), List.getD_eq_getElem?_getD, List.getElem?_eq_getElem (by omega)]
        rfl
      · rw [List.getElem?_eq_none (by rw [List.length_set, bS_len]; omega), List.getElem?_eq_none (by omega)]
    · rw [List.getElem?_set_ne hv, bS_at hl]
      by_cases hj : j ∈ vs
      · rw [if_pos hj, if_pos (List.mem_cons_of_mem _ hj)]
      · rw [if_neg hj, if_neg (fun z => by
          rcases List.mem_cons.mp z with z | z
          · exact hv z.symm
          · exact hj z)]
/-- brought back: as it was -/
theorem bS_back {e0 e : Fm} {vs : List Nat} (h : wipeS vs e = wipeS vs e0) : backS e0 vs e = e0 := by
  have hl : e.length = e0.length := by
    have := congrArg List.length h
    rw [wS_len, wS_len] at this
    exact this
  refine List.ext_getElem? fun j => ?_
  rw [bS_at hl]
  by_cases hj : j ∈ vs
  · rw [if_pos hj]
  · rw [if_neg hj, ← wS_out (vs := vs) (e := e) hj, h, wS_out hj]
def evC' (cf : CF) (t : T) (e : Fm) : R Bool := match t with
  | .absent => .ok true e
  | _ => testR (ev cf t e)
def stepD (cf : CF) (tg cond elt : T) (own : List Nat) : D → Fm → List D → R (List D) := fun d e acc => match bindT tg d (wipeS own e) with
  | none => .bad
  | some e3 => (evC' cf cond e3).bnd fun k e4 => if k = true then pushE acc (ev cf elt e4) else .ok acc e4
/-- a comprehension whose turns leave the rest of the frame alone: g gives an item or none -/
theorem cLoop_pure {α : Type} {enc : α → D} {cf : CF} {tg cond elt : T} {own : List Nat} {w : Fm} {g : α → Option D} : ∀ (xs : List α) (e : Fm) (acc : List D), wipeS own e = w → acc.length + xs.length ≤ LINE →
    (∀ x ∈ xs, ∃ e3, bindT tg (enc x) w = some e3 ∧ wipeS own e3 = w ∧ ((g x = none ∧ evC' cf cond e3 = .ok false e3) ∨ ∃ d r, g x = some d ∧ evC' cf cond e3 = .ok true e3 ∧ ev cf elt e3 = .ok (.rv r) e3 ∧ fz r e3 = some (d, e3))) →
    ∃ e', cLoop (stepD cf tg cond elt own) (xs.map enc) e acc = .ok (acc ++ xs.filterMap g) e' ∧ wipeS own e' = w
  | [], e, acc, hw, _, _ => ⟨e, by simp [cLoop], hw⟩
  | x :: xs, e, acc, hw, hl, h => by
    rw [List.length_cons] at hl
    obtain ⟨e3, h1, h2, h3⟩ := h x List.mem_cons_self
    have hr : ∀ y ∈ xs, _ := fun y hy => h y (List.mem_cons_of_mem _ hy)
    show ∃ e', (match stepD cf tg cond elt own (enc x) e acc with
      | .ok acc1 e1 => cLoop (stepD cf tg cond elt own) (xs.map enc) e1 acc1
      | _ => .bad) = R.ok (acc ++ (x :: xs).filterMap g) e' ∧ _
    have hs : stepD cf tg cond elt own (enc x) e acc = (evC' cf cond e3).bnd fun k e4 => if k = true then pushE acc (ev cf elt e4) else .ok acc e4 := by
      unfold stepD
      rw [hw, h1]
    rw [hs]
    rcases h3 with ⟨h3, h4⟩ | ⟨d, r, h3, h4, h5, h6⟩
    · rw [h4, List.filterMap_cons_none h3]
      exact cLoop_pure xs e3 acc h2 (by omega) hr
    · rw [h4, List.filterMap_cons_some h3]
      dsimp only [R.bnd]
      rw [if_pos rfl, h5]
      unfold pushE R.rv
      dsimp only
      rw [h6]
      dsimp only
      rw [if_pos (by omega)]
      dsimp only
      obtain ⟨e', q1, q2⟩ := cLoop_pure xs e3 (acc ++ [d]) h2 (by rw [List.length_append, List.length_singleton]; omega) hr
      refine ⟨e', ?_, q2⟩
      rw [q1, List.append_assoc]
      rfl
theorem ev_compD {cf : CF} {elt tg src cond : T} {own : List Nat} (e : Fm) : ev cf (.comp elt tg src cond own) e = (ev cf src e).dsk fun items e1 => if own.any (fun i => isOwnS e1[i]?) then .bad else
    (match cLoop (stepD cf tg cond elt own) items e1 [] with
    | .ok acc e5 => .ok (.rv (.o acc)) (backS e1 own e5)
    | _ => .bad) := rfl
theorem comp_fm {α : Type} {cf : CF} {elt tg src cond : T} {own : List Nat} {e e1 : Fm} {xs : List α} (enc : α → D) (g : α → Option D) (hs : ev cf src e = .ok (.ds (xs.map enc)) e1) (hl : xs.length ≤ LINE) (ho : own.any (fun i => isOwnS e1[i]?) = false)
    (h : ∀ x ∈ xs, ∃ e3, bindT tg (enc x) (wipeS own e1) = some e3 ∧ wipeS own e3 = wipeS own e1 ∧ ((g x = none ∧ evC' cf cond e3 = .ok false e3) ∨ ∃ d r, g x = some d ∧ evC' cf cond e3 = .ok true e3 ∧ ev cf elt e3 = .ok (.rv r) e3 ∧ fz r e3 = some (d, e3))) :
    ev cf (.comp elt tg src cond own) e = .ok (.rv (.o (xs.filterMap g))) e1 := by
  rw [ev_compD, hs]
  dsimp only [R.dsk]
  rw [ho, if_neg Bool.false_ne_true]
  obtain ⟨e', q1, q2⟩ := cLoop_pure (enc := enc) (cf := cf) (tg := tg) (cond := cond) (elt := elt) (own := own) (w := wipeS own e1) (g := g) xs e1 [] rfl (by simpa using hl) h
  rw [q1]
  dsimp only
  rw [bS_back q2, List.nil_append]
theorem comp_map {α : Type} {cf : CF} {elt tg src : T} {own : List Nat} {e e1 : Fm} {xs : List α} (enc : α → D) (g : α → D) (hs : ev cf src e = .ok (.ds (xs.map enc)) e1) (hl : xs.length ≤ LINE) (ho : own.any (fun i => isOwnS e1[i]?) = false)
    (h : ∀ x ∈ xs, ∃ e3 r, bindT tg (enc x) (wipeS own e1) = some e3 ∧ wipeS own e3 = wipeS own e1 ∧ ev cf elt e3 = .ok (.rv r) e3 ∧ fz r e3 = some (g x, e3)) :
    ev cf (.comp elt tg src .absent own) e = .ok (.rv (.o (xs.map g))) e1 := by
  rw [comp_fm enc (fun x => some (g x)) hs hl ho fun x hx => ?_]
  · rw [List.filterMap_eq_map']
  · obtain ⟨e3, r, h1, h2, h3, h4⟩ := h x hx
    exact ⟨e3, h1, h2, .inr ⟨g x, r, rfl, rfl, h3, h4⟩⟩
/-! ### what is walked, as a list of one's own -/
theorem zipF_enc {α β : Type} (f : α → D) (g : β → D) : ∀ (a : List α) (b : List β), zipF (a.map f) (b.map g) = (a.zip b).map fun p => .tuple [f p.1, g p.2]
  | [], _ => by simp [zipF]
  | _ :: _, [] => by simp [zipF]
  | x :: r, y :: s => by
    show PyData.tuple [f x, g y] :: zipF (r.map f) (s.map g) = _
    rw [zipF_enc f g r s]
    rfl
theorem iota_enc : ∀ (n : Nat) (lo : Int), iota lo n = (List.range n).map fun i => .int (lo + (i : Nat))
  | 0, _ => rfl
  | n + 1, lo => by
    show PyData.int lo :: iota (lo + 1) n = _
    rw [iota_enc n (lo + 1), List.range_succ_eq_map, List.map_cons, List.map_map]
    congr 1
    · simp
    · refine List.map_congr_left fun i _ => ?_
      show PyData.int _ = PyData.int _
      congr 1
      simp only [Function.comp, Nat.succ_eq_add_one, Int.natCast_add]
      omega
/-- a slot that is told, or not -/
def sl : Option D → Slot
  | none => .no
  | some d => .val d
/-- a loop whose turns turn a state -/
theorem fLoop_st {α β : Type} {enc : α → D} {step : D → Fm → R Val} (fr : β → Option D → Fm) (f : β → α → β) (I : Nat → β → Prop) (tot : Nat) : ∀ (xs : List α) (n : Nat) (b : β) (s : Option D), n + xs.length ≤ tot → I n b →
    (∀ n b x s, n < tot → x ∈ xs → I n b → I (n + 1) (f b x) ∧ step (enc x) (fr b s) = .ok (.fl .nx) (fr (f b x) (some (enc x)))) →
    ∃ s', fLoop step (xs.map enc) (fr b s) = .ok (.fl .nx) (fr (xs.foldl f b) s') ∧ I (n + xs.length) (xs.foldl f b)
  | [], n, b, s, _, hb, _ => ⟨s, rfl, hb⟩
  | x :: xs, n, b, s, hn, hb, h => by
    rw [List.length_cons] at hn
    obtain ⟨h1, h2⟩ := h n b x s (by omega) List.mem_cons_self hb
    obtain ⟨s', h3, h4⟩ := fLoop_st fr f I tot xs (n + 1) (f b x) (some (enc x)) (by omega) h1 fun n b y s hn hy => h n b y s hn (List.mem_cons_of_mem _ hy)
    refine ⟨s', ?_, ?_⟩
    · show (match step (enc x) (fr b s) with
        | .ok (.fl .nx) e1 => fLoop step (xs.map enc) e1
        | .ok (.fl .cont) e1 => fLoop step (xs.map enc) e1
        | .ok (.fl .brk) e1 => .ok (.fl .nx) e1
        | .ok (.fl (.ret r)) e1 => .ok (.fl (.ret r)) e1
        | .rz x e1 => .rz x e1
        | _ => .bad) = _
      rw [h2]
      exact h3
    · rw [List.length_cons, show n + (xs.length + 1) = n + 1 + xs.length by omega]
      exact h4
theorem nolist_row (r : List Int) : nolist (rowD r) = true := by
  show nolists (r.map .int) = true
  induction r with
  | nil => rfl
  | cons a r ih => exact ih
theorem nolists_rows (rs : List (List Int)) : nolists (rs.map rowD) = true := by
  induction rs with
  | nil => rfl
  | cons a r ih =>
    show (nolist (rowD a) && nolists (r.map rowD)) = true
    rw [nolist_row, ih]
    rfl
theorem dedI_const {m : Int} : ∀ (l acc : List Int), (∀ x ∈ l, x = m) → (acc = [] ∨ acc = [m]) → (l.foldl (fun acc n => if acc.any (· == n) then acc else acc ++ [n]) acc).length ≤ 1
  | [], acc, _, h => by rcases h with rfl | rfl <;> simp
  | x :: l, acc, hx, h => by
    rw [List.foldl_cons]
    refine dedI_const l _ (fun y hy => hx y (List.mem_cons_of_mem _ hy)) ?_
    have e := hx x List.mem_cons_self
    subst e
    rcases h with rfl | rfl
    · exact .inr rfl
    · simp
/-! ### data -/
theorem intsOf_map : ∀ ns : List Int, intsOf (ns.map .int) = some ns
  | [] => rfl
  | n :: ns => by
    show (intsOf (ns.map .int)).map (n :: ·) = _
    rw [intsOf_map ns]
    rfl
theorem boolsOf_map : ∀ ns : List Bool, boolsOf (ns.map .bool) = some ns
  | [] => rfl
  | n :: ns => by
    show (boolsOf (ns.map .bool)).map (n :: ·) = _
    rw [boolsOf_map ns]
    rfl
theorem rowsI_map : ∀ rs : List (List Int), rowsI (rs.map rowD) = some rs
  | [] => rfl
  | r :: rs => by
    show (match intsOf (r.map .int), rowsI (rs.map rowD) with
      | some is, some rs => some (is :: rs)
      | _, _ => none) = _
    rw [intsOf_map, rowsI_map rs]
/-! ### comparisons of rows -/
theorem eqv_ints : ∀ a b : List Int, PyData.eqvAll (a.map .int) (b.map .int) = decide (a = b)
  | [], [] => rfl
  | [], _ :: _ => rfl
  | _ :: _, [] => rfl
  | x :: a, y :: b => by
    show ((x == y) && PyData.eqvAll (a.map .int) (b.map .int)) = _
    rw [eqv_ints a b]
    by_cases h : x = y
    · by_cases h2 : a = b <;> simp [h, h2]
    · simp [h]
theorem depth_ints1 : ∀ a : List Int, PyData.depthAll (a.map .int) ≤ 1
  | [] => Nat.zero_le _
  | x :: a => by
    have := depth_ints1 a
    show max (PyData.int x).depth (PyData.depthAll (a.map .int)) ≤ 1
    have e : (PyData.int x).depth ≤ 1 := by simp [PyData.depth]
    omega
theorem depth_row (a : List Int) : (rowD a).depth ≤ 2 := by
  have := depth_ints1 a
  show PyData.depthAll (a.map .int) + 1 ≤ 2
  omega
theorem cmpOk_of {x y : D} (h : x.depth ≤ 190) : cmpOk x y = true := decide_eq_true (by omega)
theorem ne_row (a b : List Int) : cmpD .NotEq (rowD a) (rowD b) = some (!decide (a = b)) := by
  have e : cmpD .NotEq (rowD a) (rowD b) = if cmpOk (rowD a) (rowD b) then some (!PyData.eqvAll (a.map .int) (b.map .int)) else none := rfl
  rw [e, cmpOk_of (by have := depth_row a; omega), if_pos rfl, eqv_ints]
theorem eq_row (a b : List Int) : cmpD .Eq (rowD a) (rowD b) = some (decide (a = b)) := by
  have e : cmpD .Eq (rowD a) (rowD b) = if cmpOk (rowD a) (rowD b) then some (PyData.eqvAll (a.map .int) (b.map .int)) else none := rfl
  rw [e, cmpOk_of (by have := depth_row a; omega), if_pos rfl, eqv_ints]
theorem alike_ints2 : ∀ a b : List Int, PySem.W.alikeAll (a.map .int) (b.map .int) = true
  | [], _ => rfl
  | _ :: _, [] => rfl
  | _ :: a, _ :: b => by
    show (true && PySem.W.alikeAll (a.map .int) (b.map .int)) = true
    rw [alike_ints2 a b]
    rfl
theorem lt_ints : ∀ {a b : List Int}, a.length = b.length → PyProof.Rows.lexLt PyProof.Rows.itemOrd (PySem.W.keyToksAll (a.map .int)) (PySem.W.keyToksAll (b.map .int)) = ltL a b
  | [], [], _ => by
    show PyProof.Rows.lexLt PyProof.Rows.itemOrd [.inl 0] [.inl 0] = false
    decide
  | x :: a, y :: b, h => by
    rw [List.map_cons, List.map_cons, PySem.W.dataLt_cons rfl, lt_ints (a := a) (b := b) (by simpa using h)]
    show (if (x == y) = true then ltL a b else PySem.W.dataLt (.int x) (.int y)) = _
    rw [PySem.W.dataLt_int]
    by_cases e : x = y
    · subst e
      simp [ltL]
    · simp [ltL, e]
  | [], _ :: _, h => by cases h
  | _ :: _, [], h => by cases h
theorem lt_row {a b : List Int} (h : a.length = b.length) : cmpD .Lt (rowD a) (rowD b) = some (ltL a b) := by
  have e : cmpD .Lt (rowD a) (rowD b) = if PySem.W.alikeAll (a.map .int) (b.map .int) && cmpOk (rowD a) (rowD b) then some (PySem.W.dataLt (rowD a) (rowD b)) else none := rfl
  rw [e, cmpOk_of (by have := depth_row a; omega), alike_ints2, Bool.and_self, if_pos rfl]
  unfold rowD
  rw [PySem.W.dataLt_tuple, lt_ints h]
/-! ### small things -/
theorem addRow_len (a b : List Int) (h : a.length = b.length) : ((a.zip b).map fun p => p.1 + p.2).length = a.length := by rw [List.length_map, List.length_zip]; omega
/-! ### one step each -/
theorem p_len_l (xs : List D) : primD .len [.list xs] = some (.v (.int xs.length)) := rfl
theorem p_len_t (xs : List D) : primD .len [.tuple xs] = some (.v (.int xs.length)) := rfl
theorem p_len_r (r : List Int) : primD .len [rowD r] = some (.v (.int r.length)) := by
  show some (RV.v (.int ((r.map PyData.int).length : Nat))) = _
  rw [List.length_map]
theorem p_abs (i : Int) : primD .abs [.int i] = some (.v (.int (if i < 0 then -i else i))) := rfl
theorem p_int (i : Int) : primD .int [.int i] = some (.v (.int i)) := rfl
theorem p_intB (b : Bool) : primD .int [.bool b] = some (.v (.int (if b = true then 1 else 0))) := rfl
theorem p_tup_l (xs : List D) : primD .tuple [.list xs] = some (.v (.tuple xs)) := rfl
theorem p_tup_t (xs : List D) : primD .tuple [.tuple xs] = some (.v (.tuple xs)) := rfl
theorem p_lst_l (xs : List D) : primD .list [.list xs] = some (.o xs) := rfl
theorem p_lst_t (xs : List D) : primD .list [.tuple xs] = some (.o xs) := rfl
theorem p_sum_l (xs : List D) : primD .sum [.list xs] = (intsOf xs).map fun is => .v (.int is.sum) := rfl
theorem p_sum_t (xs : List D) : primD .sum [.tuple xs] = (intsOf xs).map fun is => .v (.int is.sum) := rfl
theorem p_sum_r (r : List Int) : primD .sum [rowD r] = some (.v (.int r.sum)) := by
  show (intsOf (r.map .int)).map (fun is => RV.v (.int is.sum)) = _
  rw [intsOf_map]
  rfl
theorem p_all (xs : List D) : primD .all [.list xs] = (boolsOf xs).map fun bs => .v (.bool (bs.all id)) := rfl
theorem p_any (xs : List D) : primD .any [.list xs] = (boolsOf xs).map fun bs => .v (.bool (bs.any id)) := rfl
theorem p_max2 (i j : Int) : primD .max2 [.int i, .int j] = some (.v (.int (if j > i then j else i))) := rfl
theorem p_min2 (i j : Int) : primD .min2 [.int i, .int j] = some (.v (.int (if j < i then j else i))) := rfl
theorem p_min_l {xs : List D} {ns : List Int} (h : intsOf xs = some ns) (h' : ns ≠ []) : primD .min1 [.list xs] = some (.v (.int (minI ns))) := by
  show (intsOf xs).bind (fun is => if is = [] then none else some (RV.v (.int (minI is)))) = _
  rw [h]
  exact if_neg h'
theorem p_min_r {r : List Int} (h' : r ≠ []) : primD .min1 [rowD r] = some (.v (.int (minI r))) := by
  show (intsOf (r.map .int)).bind (fun is => if is = [] then none else some (RV.v (.int (minI is)))) = _
  rw [intsOf_map]
  exact if_neg h'
theorem i_t (xs : List D) (i : Int) : idxD (.tuple xs) (.int i) = atI xs i := rfl
theorem i_l (xs : List D) (i : Int) : idxD (.list xs) (.int i) = atI xs i := rfl
theorem i_r (r : List Int) (i : Int) : idxD (rowD r) (.int i) = atI (r.map .int) i := rfl
theorem it_l (xs : List D) : itemsOf (.list xs) = some xs := rfl
theorem it_t (xs : List D) : itemsOf (.tuple xs) = some xs := rfl
theorem it_r (r : List Int) : itemsOf (rowD r) = some (r.map .int) := rfl
theorem ty_r (r : List Int) : tyN (rowD r) = .tuple := rfl
theorem fz_l (xs : List D) (e : Fm) : fz (.v (.list xs)) e = some (.list xs, e) := rfl
theorem sl_t (xs : List D) (lo hi : Option Int) : slcD (.tuple xs) lo hi = some (.v (.tuple (cut xs lo hi))) := rfl
theorem sl_l (xs : List D) (lo hi : Option Int) : slcD (.list xs) lo hi = some (.o (cut xs lo hi)) := rfl
theorem lrep_ok {cf : CF} {es b : T} {e e1 e2 e3 : Fm} {rs : List RV} {ds : List D} {rb : RV} {k : Nat} (h1 : ev cf es e = .ok (.rvs rs) e1) (h2 : fzs rs e1 = some (ds, e2)) (hl : ds.length ≤ LINE) (h3 : ev cf b e2 = .ok (.rv rb) e3) (h4 : rd rb e3 = some (.int (k : Nat))) (hk : k ≤ 1000000) (hk2 : ds.length * k ≤ LINE) :
    ev cf (.lrep es b) e = .ok (.rv (.o (List.replicate k ds).flatten)) e3 := by
  show (ev cf es e).rvs _ = _
  rw [h1]
  show (match fzs rs e1 with
    | some (ds, e2) => if ds.length ≤ LINE then (ev cf b e2).rv fun rb e3 => (match rd rb e3 with
      | some (.int k) => if -(2 ^ 63) ≤ k ∧ k < 2 ^ 63 ∧ ds.length * k.toNat ≤ LINE then R.ok (Val.rv (RV.o (List.replicate k.toNat ds).flatten)) e3 else .bad
      | _ => .bad) else .bad
    | none => .bad) = _
  rw [h2]
  dsimp only
  rw [if_pos hl, h3]
  dsimp only [R.rv]
  rw [h4]
  dsimp only
  have e0 : (k : Int).toNat = k := Int.toNat_natCast k
  rw [e0, if_pos ⟨by omega, by omega, hk2⟩]
theorem b_add (i j : Int) : binD .Add (.int i) (.int j) = some (.v (.int (i + j))) := rfl
theorem b_sub (i j : Int) : binD .Sub (.int i) (.int j) = some (.v (.int (i - j))) := rfl
theorem b_mul (i j : Int) : binD .Mult (.int i) (.int j) = if mulOk i j = true then some (.v (.int (i * j))) else none := rfl
theorem b_mod (i j : Int) : binD .Mod (.int i) (.int j) = if 0 < j then some (.v (.int (i % j))) else none := rfl
theorem b_fdiv (i j : Int) : binD .FloorDiv (.int i) (.int j) = if 0 < j ∧ j.natAbs.log2 < 9000 then some (.v (.int (i / j))) else none := rfl
theorem b_addt (xs ys : List D) : binD .Add (.tuple xs) (.tuple ys) = if xs.length + ys.length ≤ LINE then some (.v (.tuple (xs ++ ys))) else none := rfl
theorem b_addr (a b : List Int) (h : a.length + b.length ≤ 1000) : binD .Add (rowD a) (rowD b) = some (.v (rowD (a ++ b))) := by
  show (if (a.map PyData.int).length + (b.map PyData.int).length ≤ LINE then some (RV.v (.tuple (a.map .int ++ b.map .int))) else none) = _
  rw [if_pos (by rw [List.length_map, List.length_map]; unfold LINE; omega), ← List.map_append]
  rfl
theorem b_addl (xs ys : List D) : binD .Add (.list xs) (.list ys) = if xs.length + ys.length ≤ LINE then some (.o (xs ++ ys)) else none := rfl
theorem b_pow3 : binD .Pow (.int 10) (.int 3) = some (.v (.int 1000)) := by rfl
theorem b_pow6 : binD .Pow (.int 10) (.int 6) = some (.v (.int 1000000)) := by rfl
theorem b_pow12 : binD .Pow (.int 10) (.int 12) = some (.v (.int 1000000000000)) := by rfl
theorem b_pow18 : binD .Pow (.int 10) (.int 18) = some (.v (.int 1000000000000000000)) := by rfl
/-! ### comprehensions whose turns turn a state -/
theorem bS_to {e0 e e2 : Fm} {vs : List Nat} (h : wipeS vs e = wipeS vs e2) (hl2 : e0.length = e2.length) (ha : ∀ j ∈ vs, e0[j]? = e2[j]?) : backS e0 vs e = e2 := by
  have hl : e.length = e0.length := by
    have := congrArg List.length h
    rw [wS_len, wS_len] at this
    omega
  refine List.ext_getElem? fun j => ?_
  rw [bS_at hl]
  by_cases hj : j ∈ vs
  · rw [if_pos hj, ha j hj]
  · rw [if_neg hj, ← wS_out (vs := vs) (e := e) hj, h, wS_out hj]
theorem cLoop_rel {α β : Type} {enc : α → D} {F : β → Fm} {P : D → Prop} {I : Nat → β → Prop} {cf : CF} {elt tg : T} {own : List Nat} (tot : Nat) : ∀ (xs : List α) (i : Nat) (b : β) (e : Fm) (acc : List D), i + xs.length ≤ tot → wipeS own e = wipeS own (F b) → I i b → acc.length + xs.length ≤ LINE →
    (∀ i b x, x ∈ xs → i < tot → I i b → ∃ (d : D) (b' : β) (e3 e4 e5 : Fm) (r : RV), bindT tg (enc x) (wipeS own (F b)) = some e3 ∧ ev cf elt e3 = .ok (.rv r) e4 ∧ fz r e4 = some (d, e5) ∧ wipeS own e5 = wipeS own (F b') ∧ P d ∧ I (i + 1) b') →
    ∃ (ds : List D) (b' : β) (e' : Fm), cLoop (stepD cf tg .absent elt own) (xs.map enc) e acc = .ok (acc ++ ds) e' ∧ ds.length = xs.length ∧ (∀ d ∈ ds, P d) ∧ I (i + xs.length) b' ∧ wipeS own e' = wipeS own (F b')
  | [], i, b, e, acc, _, hw, hi, _, _ => ⟨[], b, e, by simp [cLoop], rfl, fun _ z => (nomatch z), hi, hw⟩
  | x :: xs, i, b, e, acc, ht, hw, hi, hl, h => by
    rw [List.length_cons] at ht hl
    obtain ⟨d, b1, e3, e4, e5, r, h1, h2, h3, h4, h5, h6⟩ := h i b x List.mem_cons_self (by omega) hi
    obtain ⟨ds, b', e', q1, q2, q3, q4, q5⟩ := cLoop_rel tot xs (i + 1) b1 e5 (acc ++ [d]) (by omega) h4 h6 (by rw [List.length_append, List.length_singleton]; omega) fun i b y hy => h i b y (List.mem_cons_of_mem _ hy)
    refine ⟨d :: ds, b', e', ?_, by rw [List.length_cons, q2]; rfl, fun y hy => ?_, by rw [List.length_cons, show i + (xs.length + 1) = i + 1 + xs.length by omega]; exact q4, q5⟩
    · show (match stepD cf tg .absent elt own (enc x) e acc with
        | .ok acc1 e1 => cLoop (stepD cf tg .absent elt own) (xs.map enc) e1 acc1
        | _ => .bad) = R.ok (acc ++ d :: ds) e'
      have hs : stepD cf tg .absent elt own (enc x) e acc = .ok (acc ++ [d]) e5 := by
        unfold stepD
        rw [hw, h1]
        show pushE acc (ev cf elt e3) = _
        rw [h2]
        unfold pushE R.rv
        dsimp only
        rw [h3]
        dsimp only
        rw [if_pos (by omega)]
      rw [hs]
      dsimp only
      rw [q1, List.append_assoc]
      rfl
    · rcases List.mem_cons.mp hy with rfl | hy
      · exact h5
      · exact q3 y hy
theorem comp_rel {α β : Type} {enc : α → D} {F : β → Fm} {P : D → Prop} {I : Nat → β → Prop} {cf : CF} {elt tg src : T} {own : List Nat} {e : Fm} {b0 : β} (xs : List α) (hs : ev cf src e = .ok (.ds (xs.map enc)) (F b0)) (ho : own.any (fun i => isOwnS (F b0)[i]?) = false) (hl : xs.length ≤ LINE) (hF : ∀ b b', ∀ j ∈ own, (F b)[j]? = (F b')[j]?) (hFl : ∀ b b', (F b).length = (F b').length) (hi : I 0 b0)
    (h : ∀ i b x, x ∈ xs → i < xs.length → I i b → ∃ (d : D) (b' : β) (e3 e4 e5 : Fm) (r : RV), bindT tg (enc x) (wipeS own (F b)) = some e3 ∧ ev cf elt e3 = .ok (.rv r) e4 ∧ fz r e4 = some (d, e5) ∧ wipeS own e5 = wipeS own (F b') ∧ P d ∧ I (i + 1) b') :
    ∃ (ds : List D) (b' : β), ev cf (.comp elt tg src .absent own) e = .ok (.rv (.o ds)) (F b') ∧ ds.length = xs.length ∧ (∀ d ∈ ds, P d) ∧ I xs.length b' := by
  obtain ⟨ds, b', e', q1, q2, q3, q4, q5⟩ := cLoop_rel (enc := enc) (F := F) (P := P) (I := I) (cf := cf) (elt := elt) (tg := tg) (own := own) xs.length xs 0 b0 (F b0) [] (by omega) rfl hi (by simpa using hl) h
  refine ⟨ds, b', ?_, q2, q3, by simpa using q4⟩
  rw [ev_compD, hs]
  dsimp only [R.dsk]
  rw [ho, if_neg Bool.false_ne_true, q1]
  dsimp only
  rw [bS_to q5 (hFl _ _) (hF _ _), List.nil_append]
theorem ints_ex {Q : Int → Prop} : ∀ {ds : List D}, (∀ d ∈ ds, ∃ x, d = .int x ∧ Q x) → ∃ ns : List Int, ds = ns.map .int ∧ ∀ x ∈ ns, Q x
  | [], _ => ⟨[], rfl, fun _ z => nomatch z⟩
  | d :: ds, h => by
    obtain ⟨x, rfl, hx⟩ := h d List.mem_cons_self
    obtain ⟨ns, rfl, hn⟩ := ints_ex fun d hd => h d (List.mem_cons_of_mem _ hd)
    refine ⟨x :: ns, rfl, fun y hy => ?_⟩
    rcases List.mem_cons.mp hy with rfl | hy
    · exact hx
    · exact hn y hy
theorem rows_ex {Q : List Int → Prop} : ∀ {ds : List D}, (∀ d ∈ ds, ∃ r, d = rowD r ∧ Q r) → ∃ rs : List (List Int), ds = rs.map rowD ∧ ∀ r ∈ rs, Q r
  | [], _ => ⟨[], rfl, fun _ z => nomatch z⟩
  | d :: ds, h => by
    obtain ⟨x, rfl, hx⟩ := h d List.mem_cons_self
    obtain ⟨ns, rfl, hn⟩ := rows_ex fun d hd => h d (List.mem_cons_of_mem _ hd)
    refine ⟨x :: ns, rfl, fun y hy => ?_⟩
    rcases List.mem_cons.mp hy with rfl | hy
    · exact hx
    · exact hn y hy
theorem sR1_g {cf : CF} {a : T} {e : Fm} {m : Int} (h : ev cf a e = .ok (.rv (.v (.int m))) e) (h1 : -(2 ^ 62) ≤ m) (h2 : m < 2 ^ 62) : ev cf (.sR1 a) e = .ok (.ds (iota 0 m.toNat)) e := by
  show (ev cf a e).rv (fun ra e1 => (match rd ra e1 with
    | some (.int n) => if -(2 ^ 62) ≤ n ∧ n < 2 ^ 62 then R.ok (Val.ds (iota 0 n.toNat)) e1 else .bad
    | _ => .bad)) = _
  rw [h]
  dsimp only [R.rv, rd]
  rw [if_pos ⟨h1, h2⟩]
theorem sR1_ok {cf : CF} {a : T} {e : Fm} {n : Nat} (h : ev cf a e = .ok (.rv (.v (.int (n : Nat)))) e) (hn : n ≤ 1000000) : ev cf (.sR1 a) e = .ok (.ds ((List.range n).map fun i : Nat => PyData.int (0 + (i : Nat)))) e := by
  have q := sR1_g h (by omega) (by omega)
  rw [Int.toNat_natCast] at q
  rw [q, ← iota_enc]
end L2.Mp
set_option Elab.async false
set_option linter.all false
set_option maxRecDepth 100000
set_option maxHeartbeats 4000000
namespace L2.Mp
open PySem PySem.Spec PyProof.Rows L2
/-! ### pure steps, over any frame -/
abbrev V (cf : CF) (e : Fm) (t : T) (d : D) : Prop := ev cf t e = .ok (.rv (.v d)) e
abbrev O (cf : CF) (e : Fm) (t : T) (ds : List D) : Prop := ev cf t e = .ok (.rv (.o ds)) e
abbrev Vs (cf : CF) (e : Fm) (t : T) (ds : List D) : Prop := ev cf t e = .ok (.rvs (ds.map .v)) e
section
variable {cf : CF} {e : Fm}
theorem V_var {i : Nat} {d : D} (h : e[i]? = some (.val d)) : V cf e (.var i) d := by
  show (match e[i]? with
    | some (.val d) => R.ok (Val.rv (.v d)) e
    | some (.own _ _) => R.ok (Val.rv (.b i)) e
    | _ => .bad) = _
  rw [h]
theorem V_c (d : D) : V cf e (.const d) d := rfl
theorem Vs_nil : Vs cf e .nil [] := rfl
theorem Vs_cons {a r : T} {d : D} {ds : List D} (h : V cf e a d) (hr : Vs cf e r ds) : Vs cf e (.cons a r) (d :: ds) := by
  show (ev cf a e).rv (fun ra e1 => (ev cf r e1).rvs fun rs e2 => R.ok (Val.rvs (nrm ra :: rs)) e2) = _
  rw [h]
  show (ev cf r e).rvs (fun rs e2 => .ok (Val.rvs (RV.v d :: rs)) e2) = _
  rw [hr]
  rfl
theorem Vs_consO {a r : T} {xs : List D} {ds : List D} (h : O cf e a xs) (hr : Vs cf e r ds) : Vs cf e (.cons a r) (.list xs :: ds) := by
  show (ev cf a e).rv (fun ra e1 => (ev cf r e1).rvs fun rs e2 => R.ok (Val.rvs (nrm ra :: rs)) e2) = _
  rw [h]
  show (ev cf r e).rvs (fun rs e2 => .ok (Val.rvs (RV.v (.list xs) :: rs)) e2) = _
  rw [hr]
  rfl
theorem rds_v : ∀ (ds : List D) (e : Fm), rds (ds.map .v) e = some ds
  | [], _ => rfl
  | d :: ds, e => by
    show (match rd (.v d) e, rds (ds.map .v) e with
      | some d, some ds => some (d :: ds)
      | _, _ => none) = _
    rw [rds_v ds e]
    rfl
theorem fzs_v : ∀ (ds : List D) (e : Fm), fzs (ds.map .v) e = some (ds, e)
  | [], _ => rfl
  | d :: ds, e => by
    show (match fzs (ds.map .v) e with
      | some (ds, e2) => some (d :: ds, e2)
      | none => none) = _
    rw [fzs_v ds e]
theorem mkArgs_v : ∀ (ds : List D) (e : Fm), mkArgs (ds.map fun _ => false) (ds.map .v) e = some (ds.map .d, [], [])
  | [], _ => rfl
  | d :: ds, e => by
    show (match rd (.v d) e, mkArgs (ds.map fun _ => false) (ds.map .v) e with
      | some d, some (as, is, bs) => some (Arg.d d :: as, is, lent (.v d) e bs)
      | _, _ => none) = _
    rw [mkArgs_v ds e]
    rfl
theorem call_r {f : Str} {fl : List Bool} {as : T} {ds : List D} {r : RV} (hs : Vs cf e as ds) (h : cf f (ds.map .d) = .ok r []) (hf : fl = ds.map (fun _ => false) := by rfl) : ev cf (.call f fl as) e = .ok (.rv r) e := by
  show (ev cf as e).rvs (fun rs e1 => doCall cf f fl rs e1) = _
  rw [hs, hf]
  show doCall cf f (ds.map fun _ => false) (ds.map .v) e = _
  unfold doCall
  rw [mkArgs_v]
  dsimp only
  rw [h]
  rfl
theorem V_call {f : Str} {fl : List Bool} {as : T} {ds : List D} {d : D} (hs : Vs cf e as ds) (h : cf f (ds.map .d) = .ok (.v d) []) (hf : fl = ds.map (fun _ => false) := by rfl) : V cf e (.call f fl as) d := call_r hs h hf
theorem prim_r {p : Prim} {as : T} {ds : List D} {r : RV} (hs : Vs cf e as ds) (h : primD p ds = some r) : ev cf (.prim p as) e = .ok (.rv r) e := by
  show (ev cf as e).rvs (fun rs e1 => (match rds rs e1 with
    | some ds => optR (primD p ds) e1
    | none => .bad)) = _
  rw [hs]
  show (match rds (ds.map .v) e with
    | some ds => optR (primD p ds) e
    | none => .bad) = _
  rw [rds_v]
  dsimp only
  rw [h]
  rfl
theorem V_prim {p : Prim} {as : T} {ds : List D} {d : D} (hs : Vs cf e as ds) (h : primD p ds = some (.v d)) : V cf e (.prim p as) d := prim_r hs h
theorem V_tupO {a : T} {xs : List D} (h : O cf e a xs) : V cf e (.prim .tuple (.cons a .nil)) (.tuple xs) := V_prim (Vs_consO h Vs_nil) rfl
theorem O_lst {as : T} {ds : List D} (hs : Vs cf e as ds) (h : ds.length ≤ LINE) : O cf e (.lst as) ds := by
  show (ev cf as e).rvs (fun rs e1 => (match fzs rs e1 with
    | some (ds, e2) => if ds.length ≤ LINE then R.ok (Val.rv (.o ds)) e2 else .bad
    | none => .bad)) = _
  rw [hs]
  show (match fzs (ds.map .v) e with
    | some (ds, e2) => if ds.length ≤ LINE then R.ok (Val.rv (.o ds)) e2 else .bad
    | none => .bad) = _
  rw [fzs_v]
  dsimp only
  rw [if_pos h]
theorem V_bin {op : Operator} {a b : T} {x y d : D} (ha : V cf e a x) (hb : V cf e b y) (h : binD op x y = some (.v d)) : V cf e (.bin op a b) d := by
  show (ev cf a e).rv (fun ra e1 => (ev cf b e1).rv fun rb e2 => (match rd ra e2, rd rb e2 with
    | some x, some y => optR (binD op x y) e2
    | _, _ => .bad)) = _
  rw [ha]
  show (ev cf b e).rv (fun rb e2 => (match rd (.v x) e2, rd rb e2 with
    | some x, some y => optR (binD op x y) e2
    | _, _ => .bad)) = _
  rw [hb]
  show optR (binD op x y) e = _
  rw [h]
  rfl
theorem asg_v {i : Nat} {x : T} {e1 : Fm} {d : D} (h : ev cf x e = .ok (.rv (.v d)) e1) (hs : storable e1[i]? = true) : ev cf (.asg (.tN i) x) e = .ok (.fl .nx) (e1.set i (.val d)) := by
  show (ev cf x e).rv (fun r e1 => (match e1[i]? with
    | some (.own true _) => .bad
    | none => .bad
    | some _ => (match r with
      | .o ds => R.ok (Val.fl .nx) (e1.set i (.own false ds))
      | _ => (match fz r e1 with
        | some (d, e2) => R.ok (Val.fl .nx) (e2.set i (.val d))
        | none => .bad)))) = _
  rw [h]
  dsimp only [R.rv]
  split
  · next q => rw [q] at hs; cases hs
  · next q => rw [q] at hs; cases hs
  · rfl
theorem asg_l {i : Nat} {x : T} {e1 : Fm} {ds : List D} (h : ev cf x e = .ok (.rv (.o ds)) e1) (hs : storable e1[i]? = true) : ev cf (.asg (.tN i) x) e = .ok (.fl .nx) (e1.set i (.own false ds)) := by
  show (ev cf x e).rv (fun r e1 => (match e1[i]? with
    | some (.own true _) => .bad
    | none => .bad
    | some _ => (match r with
      | .o ds => R.ok (Val.fl .nx) (e1.set i (.own false ds))
      | _ => (match fz r e1 with
        | some (d, e2) => R.ok (Val.fl .nx) (e2.set i (.val d))
        | none => .bad)))) = _
  rw [h]
  dsimp only [R.rv]
  split
  · next q => rw [q] at hs; cases hs
  · next q => rw [q] at hs; cases hs
  · rfl
theorem asg_o {t tg : T} {e1 e2 : Fm} {ds : List D} (h : ev cf t e = .ok (.rv (.o ds)) e1) (hb : bindT (.tT tg) (.list ds) e1 = some e2) : ev cf (.asg (.tT tg) t) e = .ok (.fl .nx) e2 := by
  show (ev cf t e).rv _ = _
  rw [h]
  show (match bindT (.tT tg) (.list ds) e1 with
      | some e3 => R.ok (Val.fl .nx) e3
      | none => .bad) = _
  rw [hb]
theorem V_cmp {op : CmpOp} {a b : T} {x y : D} {t : Bool} (ha : V cf e a x) (hb : V cf e b y) (h : cmpD op x y = some t) : V cf e (.cmp op a b) (.bool t) := by
  show (ev cf a e).rv (fun ra e1 => (ev cf b e1).rv fun rb e2 => (match rd ra e2, rd rb e2 with
    | some x, some y => (match cmpD op x y with
      | some k => R.ok (Val.rv (.v (.bool k))) e2
      | none => .bad)
    | _, _ => .bad)) = _
  rw [ha]
  show (ev cf b e).rv (fun rb e2 => (match rd (.v x) e2, rd rb e2 with
    | some x, some y => (match cmpD op x y with
      | some k => R.ok (Val.rv (.v (.bool k))) e2
      | none => .bad)
    | _, _ => .bad)) = _
  rw [hb]
  show (match cmpD op x y with
      | some k => R.ok (Val.rv (.v (.bool k))) e
      | none => .bad) = _
  rw [h]
theorem V_cmpO {op : CmpOp} {a b : T} {x y : List D} {t : Bool} (ha : O cf e a x) (hb : O cf e b y) (h : cmpD op (.list x) (.list y) = some t) : V cf e (.cmp op a b) (.bool t) := by
  show (ev cf a e).rv (fun ra e1 => (ev cf b e1).rv fun rb e2 => (match rd ra e2, rd rb e2 with
    | some x, some y => (match cmpD op x y with
      | some k => R.ok (Val.rv (.v (.bool k))) e2
      | none => .bad)
    | _, _ => .bad)) = _
  rw [ha]
  show (ev cf b e).rv (fun rb e2 => (match rd (.o x) e2, rd rb e2 with
    | some x, some y => (match cmpD op x y with
      | some k => R.ok (Val.rv (.v (.bool k))) e2
      | none => .bad)
    | _, _ => .bad)) = _
  rw [hb]
  show (match cmpD op (.list x) (.list y) with
      | some k => R.ok (Val.rv (.v (.bool k))) e
      | none => .bad) = _
  rw [h]
theorem V_and {a b : T} {x y : Bool} (ha : V cf e a (.bool x)) (hb : x = true → V cf e b (.bool y)) : V cf e (.and a b) (.bool (x && y)) := by
  show (ev cf a e).rv (fun ra e1 => (match (rd ra e1).bind tru with
    | some true => ev cf b e1
    | some false => R.ok (Val.rv ra) e1
    | none => .bad)) = _
  rw [ha]
  cases x with
  | false => rfl
  | true => exact hb rfl
theorem V_not {a : T} {x : Bool} (ha : V cf e a (.bool x)) : V cf e (.notT a) (.bool (!x)) := by
  show (testR (ev cf a e)).bnd (fun k e1 => R.ok (Val.rv (.v (.bool (!k)))) e1) = _
  rw [ha]
  rfl
theorem ite_r {c a b : T} {x : Bool} {e1 : Fm} {r : R Val} (hc : ev cf c e = .ok (.rv (.v (.bool x))) e1) (ha : x = true → ev cf a e1 = r) (hb : x = false → ev cf b e1 = r) : ev cf (.ite c a b) e = r := by
  show (testR (ev cf c e)).bnd (fun k e1 => if k = true then ev cf a e1 else ev cf b e1) = _
  rw [hc]
  cases x with
  | false => exact hb rfl
  | true => exact ha rfl
theorem if_r {c a b : T} {x : Bool} {e1 : Fm} {r : R Val} (hc : ev cf c e = .ok (.rv (.v (.bool x))) e1) (ha : x = true → ev cf a e1 = r) (hb : x = false → ev cf b e1 = r) : ev cf (.ifS c a b) e = r := by
  show (testR (ev cf c e)).bnd (fun k e1 => if k = true then ev cf a e1 else ev cf b e1) = _
  rw [hc]
  cases x with
  | false => exact hb rfl
  | true => exact ha rfl
theorem V_tup {as : T} {ds : List D} (hs : Vs cf e as ds) (h : ds.length ≤ LINE) : V cf e (.tup as) (.tuple ds) := by
  show (ev cf as e).rvs (fun rs e1 => (match fzs rs e1 with
    | some (ds, e2) => if ds.length ≤ LINE then R.ok (Val.rv (.v (.tuple ds))) e2 else .bad
    | none => .bad)) = _
  rw [hs]
  show (match fzs (ds.map .v) e with
    | some (ds, e2) => if ds.length ≤ LINE then R.ok (Val.rv (.v (.tuple ds))) e2 else .bad
    | none => .bad) = _
  rw [fzs_v]
  dsimp only
  rw [if_pos h]
theorem V_idx {a b : T} {x y d : D} (ha : V cf e a x) (hb : V cf e b y) (h : idxD x y = some d) : V cf e (.idx a b) d := by
  show (ev cf a e).rv (fun ra e1 => (ev cf b e1).rv fun rb e2 => (match rd ra e2, rd rb e2 with
    | some x, some y => (match idxD x y with
      | some d => R.ok (Val.rv (.v d)) e2
      | none => .bad)
    | _, _ => .bad)) = _
  rw [ha]
  show (ev cf b e).rv (fun rb e2 => (match rd (.v x) e2, rd rb e2 with
    | some x, some y => (match idxD x y with
      | some d => R.ok (Val.rv (.v d)) e2
      | none => .bad)
    | _, _ => .bad)) = _
  rw [hb]
  show (match idxD x y with
      | some d => R.ok (Val.rv (.v d)) e
      | none => .bad) = _
  rw [h]
theorem seq_nx {a b : T} {e1 : Fm} {r : R Val} (ha : ev cf a e = .ok (.fl .nx) e1) (hb : ev cf b e1 = r) : ev cf (.seq a b) e = r := by
  show ev cf (.seq a b) e = _
  rw [ev, ha]
  exact hb
end
end L2.Mp
set_option Elab.async false
set_option linter.all false
set_option maxRecDepth 100000
set_option maxHeartbeats 0
namespace L2.Mp
open PySem PySem.Spec PyProof.Rows L2
/-! ### the defs, one by one -/
theorem u_is_number (k : Nat) (as : List Arg) : runF tb (k+1) "is_number" as = if argsFit [false] as then endF [false] (ev (runF tb k) f_is_number.body (startF 1 as)) else .bad := rfl
theorem u_is_from (k : Nat) (as : List Arg) : runF tb (k+1) "is_from" as = if argsFit [false, false] as then endF [false, false] (ev (runF tb k) f_is_from.body (startF 2 as)) else .bad := rfl
theorem u_is_between (k : Nat) (as : List Arg) : runF tb (k+1) "is_between" as = if argsFit [false, false, false] as then endF [false, false, false] (ev (runF tb k) f_is_between.body (startF 3 as)) else .bad := rfl
theorem u_tuple_of (k : Nat) (as : List Arg) : runF tb (k+1) "tuple_of" as = if argsFit [false] as then endF [false] (ev (runF tb k) f_tuple_of.body (startF 2 as)) else .bad := rfl
theorem u_is_tuple_of (k : Nat) (as : List Arg) : runF tb (k+1) "is_tuple_of" as = if argsFit [false, false] as then endF [false, false] (ev (runF tb k) f_is_tuple_of.body (startF 2 as)) else .bad := rfl
theorem u_sure (k : Nat) (as : List Arg) : runF tb (k+1) "sure" as = if argsFit [false] as then endF [false] (ev (runF tb k) f_sure.body (startF 1 as)) else .bad := rfl
theorem u_is_rising (k : Nat) (as : List Arg) : runF tb (k+1) "is_rising" as = if argsFit [false] as then endF [false] (ev (runF tb k) f_is_rising.body (startF 2 as)) else .bad := rfl
theorem u_is_row_of (k : Nat) (as : List Arg) : runF tb (k+1) "is_row_of" as = if argsFit [false, false] as then endF [false, false] (ev (runF tb k) f_is_row_of.body (startF 3 as)) else .bad := rfl
theorem u_is_row (k : Nat) (as : List Arg) : runF tb (k+1) "is_row" as = if argsFit [false, false] as then endF [false, false] (ev (runF tb k) f_is_row.body (startF 2 as)) else .bad := rfl
theorem u_is_low_row (k : Nat) (as : List Arg) : runF tb (k+1) "is_low_row" as = if argsFit [false] as then endF [false] (ev (runF tb k) f_is_low_row.body (startF 2 as)) else .bad := rfl
theorem u_sure_row (k : Nat) (as : List Arg) : runF tb (k+1) "sure_row" as = if argsFit [false] as then endF [false] (ev (runF tb k) f_sure_row.body (startF 2 as)) else .bad := rfl
theorem u_sure_rows (k : Nat) (as : List Arg) : runF tb (k+1) "sure_rows" as = if argsFit [false] as then endF [false] (ev (runF tb k) f_sure_rows.body (startF 3 as)) else .bad := rfl
theorem u_look_long (k : Nat) (as : List Arg) : runF tb (k+1) "look_long" as = if argsFit [false] as then endF [false] (ev (runF tb k) f_look_long.body (startF 2 as)) else .bad := rfl
theorem u_added (k : Nat) (as : List Arg) : runF tb (k+1) "added" as = if argsFit [false, false] as then endF [false, false] (ev (runF tb k) f_added.body (startF 4 as)) else .bad := rfl
theorem u_at_most (k : Nat) (as : List Arg) : runF tb (k+1) "at_most" as = if argsFit [false, false] as then endF [false, false] (ev (runF tb k) f_at_most.body (startF 4 as)) else .bad := rfl
theorem u_some_at_most (k : Nat) (as : List Arg) : runF tb (k+1) "some_at_most" as = if argsFit [false, false] as then endF [false, false] (ev (runF tb k) f_some_at_most.body (startF 3 as)) else .bad := rfl
theorem u_least_of (k : Nat) (as : List Arg) : runF tb (k+1) "least_of" as = if argsFit [false] as then endF [false] (ev (runF tb k) f_least_of.body (startF 3 as)) else .bad := rfl
theorem u_row_sum (k : Nat) (as : List Arg) : runF tb (k+1) "row_sum" as = if argsFit [false, false] as then endF [false, false] (ev (runF tb k) f_row_sum.body (startF 4 as)) else .bad := rfl
theorem u_is_at_most (k : Nat) (as : List Arg) : runF tb (k+1) "is_at_most" as = if argsFit [false, false] as then endF [false, false] (ev (runF tb k) f_is_at_most.body (startF 4 as)) else .bad := rfl
theorem u_is_below (k : Nat) (as : List Arg) : runF tb (k+1) "is_below" as = if argsFit [false, false] as then endF [false, false] (ev (runF tb k) f_is_below.body (startF 4 as)) else .bad := rfl
theorem u_least_rows (k : Nat) (as : List Arg) : runF tb (k+1) "least_rows" as = if argsFit [false] as then endF [false] (ev (runF tb k) f_least_rows.body (startF 2 as)) else .bad := rfl
theorem u_reaches (k : Nat) (as : List Arg) : runF tb (k+1) "reaches" as = if argsFit [false, false] as then endF [false, false] (ev (runF tb k) f_reaches.body (startF 4 as)) else .bad := rfl
theorem u_sums_of (k : Nat) (as : List Arg) : runF tb (k+1) "sums_of" as = if argsFit [false, false] as then endF [false, false] (ev (runF tb k) f_sums_of.body (startF 6 as)) else .bad := rfl
theorem u_met (k : Nat) (as : List Arg) : runF tb (k+1) "met" as = if argsFit [false, false] as then endF [false, false] (ev (runF tb k) f_met.body (startF 9 as)) else .bad := rfl
theorem u_made_price (k : Nat) (as : List Arg) : runF tb (k+1) "made_price" as = if argsFit [false, false] as then endF [false, false] (ev (runF tb k) f_made_price.body (startF 4 as)) else .bad := rfl
theorem u_price_of (k : Nat) (as : List Arg) : runF tb (k+1) "price_of" as = if argsFit [false, false] as then endF [false, false] (ev (runF tb k) f_price_of.body (startF 4 as)) else .bad := rfl
theorem u_are_entries (k : Nat) (as : List Arg) : runF tb (k+1) "are_entries" as = if argsFit [false, false] as then endF [false, false] (ev (runF tb k) f_are_entries.body (startF 3 as)) else .bad := rfl
theorem u_are_rows (k : Nat) (as : List Arg) : runF tb (k+1) "are_rows" as = if argsFit [false, false, false] as then endF [false, false, false] (ev (runF tb k) f_are_rows.body (startF 4 as)) else .bad := rfl
theorem u_sure_set (k : Nat) (as : List Arg) : runF tb (k+1) "sure_set" as = if argsFit [false, false, false] as then endF [false, false, false] (ev (runF tb k) f_sure_set.body (startF 4 as)) else .bad := rfl
theorem u_sure_numbered (k : Nat) (as : List Arg) : runF tb (k+1) "sure_numbered" as = if argsFit [false, false] as then endF [false, false] (ev (runF tb k) f_sure_numbered.body (startF 3 as)) else .bad := rfl
theorem u_bears (k : Nat) (as : List Arg) : runF tb (k+1) "bears" as = if argsFit [false, false, false] as then endF [false, false, false] (ev (runF tb k) f_bears.body (startF 6 as)) else .bad := rfl
theorem u_is_price_paper (k : Nat) (as : List Arg) : runF tb (k+1) "is_price_paper" as = if argsFit [false, false, false] as then endF [false, false, false] (ev (runF tb k) f_is_price_paper.body (startF 3 as)) else .bad := rfl
theorem u_made_mixed (k : Nat) (as : List Arg) : runF tb (k+1) "made_mixed" as = if argsFit [false, false] as then endF [false, false] (ev (runF tb k) f_made_mixed.body (startF 7 as)) else .bad := rfl
theorem u_is_mixture (k : Nat) (as : List Arg) : runF tb (k+1) "is_mixture" as = if argsFit [false, false] as then endF [false, false] (ev (runF tb k) f_is_mixture.body (startF 2 as)) else .bad := rfl
theorem u_presses (k : Nat) (as : List Arg) : runF tb (k+1) "presses" as = if argsFit [false, false, false] as then endF [false, false, false] (ev (runF tb k) f_presses.body (startF 6 as)) else .bad := rfl
theorem u_is_mixture_paper (k : Nat) (as : List Arg) : runF tb (k+1) "is_mixture_paper" as = if argsFit [false, false, false] as then endF [false, false, false] (ev (runF tb k) f_is_mixture_paper.body (startF 7 as)) else .bad := rfl
theorem u_mixed (k : Nat) (as : List Arg) : runF tb (k+1) "mixed" as = if argsFit [false, false] as then endF [false, false] (ev (runF tb k) f_mixed.body (startF 5 as)) else .bad := rfl
theorem u_law_box (k : Nat) (as : List Arg) : runF tb (k+1) "_law_box" as = if argsFit [false, false] as then endF [false, false] (ev (runF tb k) f_law_box.body (startF 3 as)) else .bad := rfl
theorem u_law_take (k : Nat) (as : List Arg) : runF tb (k+1) "_law_take" as = if argsFit [true, false] as then endF [true, false] (ev (runF tb k) f_law_take.body (startF 6 as)) else .bad := rfl
theorem u_law_cells (k : Nat) (as : List Arg) : runF tb (k+1) "_law_cells" as = if argsFit [false, false] as then endF [false, false] (ev (runF tb k) f_law_cells.body (startF 6 as)) else .bad := rfl
theorem u_law_same (k : Nat) (as : List Arg) : runF tb (k+1) "_law_same" as = if argsFit [false, false] as then endF [false, false] (ev (runF tb k) f_law_same.body (startF 4 as)) else .bad := rfl
theorem u_law_of (k : Nat) (as : List Arg) : runF tb (k+1) "_law_of" as = if argsFit [true, false] as then endF [true, false] (ev (runF tb k) f_law_of.body (startF 2 as)) else .bad := rfl
theorem u_law_pick (k : Nat) (as : List Arg) : runF tb (k+1) "_law_pick" as = if argsFit [true, false, false] as then endF [true, false, false] (ev (runF tb k) f_law_pick.body (startF 6 as)) else .bad := rfl
theorem u_law_number (k : Nat) (as : List Arg) : runF tb (k+1) "_law_number" as = if argsFit [true] as then endF [true] (ev (runF tb k) f_law_number.body (startF 1 as)) else .bad := rfl
theorem u_law_right (k : Nat) (as : List Arg) : runF tb (k+1) "_law_right" as = if argsFit [true] as then endF [true] (ev (runF tb k) f_law_right.body (startF 27 as)) else .bad := rfl
theorem u_law (k : Nat) (as : List Arg) : runF tb (k+1) "law" as = if argsFit [false] as then endF [false] (ev (runF tb k) f_law.body (startF 2 as)) else .bad := rfl
section
variable (k : Nat)
theorem c_le (a b : Int) : cmpD .LtE (.int a) (.int b) = some (decide (a ≤ b)) := rfl
theorem c_ge (a b : Int) : cmpD .GtE (.int a) (.int b) = some (decide (b ≤ a)) := rfl
theorem c_lt (a b : Int) : cmpD .Lt (.int a) (.int b) = some (decide (a < b)) := rfl
theorem c_gt (a b : Int) : cmpD .Gt (.int a) (.int b) = some (decide (b < a)) := rfl
theorem c_eq (a b : Int) : cmpD .Eq (.int a) (.int b) = some (decide (a = b)) := by rfl
theorem c_neB (a b : Bool) : cmpD .NotEq (.bool a) (.bool b) = some (!decide (a = b)) := by cases a <;> cases b <;> rfl
theorem c_eqB (a b : Bool) : cmpD .Eq (.bool a) (.bool b) = some (decide (a = b)) := by cases a <;> cases b <;> rfl
theorem len_row (r : List Int) : (r.map PyData.int).length = r.length := List.length_map _
theorem s_number (n : Int) : runF tb (k+1) "is_number" [.d (.int n)] = .ok (.v (.bool true)) [] := by rfl
theorem s_from (n a : Int) : runF tb (k+2) "is_from" [.d (.int n), .d (.int a)] = .ok (.v (.bool (decide (a ≤ n)))) [] := by
  rw [u_is_from]
  simp only [ev, R.rv, R.rvs, R.dsk, R.bnd, testR, partR, rd, rds, fz, fzs, nrm, optR, keepS, storable, tru, isD, tyN, Ty.sub, List.any_cons, List.any_nil, List.all_cons, List.all_nil, doCall, mkArgs, lent, isOwnS, noDup, putOuts, argsFit, endF, outsF, startF, bindT, bindTs, List.getElem?_cons_zero, List.getElem?_cons_succ, List.getElem?_nil, List.map_cons, List.map_nil, List.length_cons, List.length_nil, List.replicate, List.cons_append, List.nil_append, List.set_cons_zero, List.set_cons_succ, Option.bind, Option.map, Bool.and_true, Bool.true_and, Bool.and_false, Bool.false_and, Bool.or_true, Bool.true_or, Bool.or_false, Bool.false_or, Bool.not_true, Bool.not_false, Bool.not_not, if_true, if_false, Bool.false_eq_true, reduceIte, reduceCtorEq, decide_true, decide_false, List.isEmpty_nil, List.isEmpty_cons, beq_self_eq_true, Nat.reduceAdd, Nat.reduceSub, Nat.reduceLeDiff, Nat.reduceLT, List.contains_nil, it_l, it_t, it_r, ty_r, b_add, b_sub, b_mul, b_mod, b_fdiv, b_addt, b_addl, b_pow3, b_pow6, b_pow12, b_pow18, i_t, i_l, i_r, sl_t, sl_l, p_len_l, p_len_t, p_len_r, p_abs, p_int, p_intB, p_tup_l, p_tup_t, p_lst_l, p_lst_t, p_sum_l, p_sum_t, p_sum_r, p_all, p_any, p_max2, p_min2, isNon, nolistR, nolist, and_self, and_true, true_and, f_is_from, s_number, c_ge]
theorem s_between (n a b : Int) : runF tb (k+2) "is_between" [.d (.int n), .d (.int a), .d (.int b)] = .ok (.v (.bool (decide (a ≤ n) && decide (n ≤ b)))) [] := by
  rw [u_is_between]
  simp only [ev, R.rv, R.rvs, R.dsk, R.bnd, testR, partR, rd, rds, fz, fzs, nrm, optR, keepS, storable, tru, isD, tyN, Ty.sub, List.any_cons, List.any_nil, List.all_cons, List.all_nil, doCall, mkArgs, lent, isOwnS, noDup, putOuts, argsFit, endF, outsF, startF, bindT, bindTs, List.getElem?_cons_zero, List.getElem?_cons_succ, List.getElem?_nil, List.map_cons, List.map_nil, List.length_cons, List.length_nil, List.replicate, List.cons_append, List.nil_append, List.set_cons_zero, List.set_cons_succ, Option.bind, Option.map, Bool.and_true, Bool.true_and, Bool.and_false, Bool.false_and, Bool.or_true, Bool.true_or, Bool.or_false, Bool.false_or, Bool.not_true, Bool.not_false, Bool.not_not, if_true, if_false, Bool.false_eq_true, reduceIte, reduceCtorEq, decide_true, decide_false, List.isEmpty_nil, List.isEmpty_cons, beq_self_eq_true, Nat.reduceAdd, Nat.reduceSub, Nat.reduceLeDiff, Nat.reduceLT, List.contains_nil, it_l, it_t, it_r, ty_r, b_add, b_sub, b_mul, b_mod, b_fdiv, b_addt, b_addl, b_pow3, b_pow6, b_pow12, b_pow18, i_t, i_l, i_r, sl_t, sl_l, p_len_l, p_len_t, p_len_r, p_abs, p_int, p_intB, p_tup_l, p_tup_t, p_lst_l, p_lst_t, p_sum_l, p_sum_t, p_sum_r, p_all, p_any, p_max2, p_min2, isNon, nolistR, nolist, and_self, and_true, true_and, f_is_between, s_number, c_le]
  by_cases h : a ≤ n
  · simp only [ev, R.rv, R.rvs, R.dsk, R.bnd, testR, partR, rd, rds, fz, fzs, nrm, optR, keepS, storable, tru, isD, tyN, Ty.sub, List.any_cons, List.any_nil, List.all_cons, List.all_nil, doCall, mkArgs, lent, isOwnS, noDup, putOuts, argsFit, endF, outsF, startF, bindT, bindTs, List.getElem?_cons_zero, List.getElem?_cons_succ, List.getElem?_nil, List.map_cons, List.map_nil, List.length_cons, List.length_nil, List.replicate, List.cons_append, List.nil_append, List.set_cons_zero, List.set_cons_succ, Option.bind, Option.map, Bool.and_true, Bool.true_and, Bool.and_false, Bool.false_and, Bool.or_true, Bool.true_or, Bool.or_false, Bool.false_or, Bool.not_true, Bool.not_false, Bool.not_not, if_true, if_false, Bool.false_eq_true, reduceIte, reduceCtorEq, decide_true, decide_false, List.isEmpty_nil, List.isEmpty_cons, beq_self_eq_true, Nat.reduceAdd, Nat.reduceSub, Nat.reduceLeDiff, Nat.reduceLT, List.contains_nil, it_l, it_t, it_r, ty_r, b_add, b_sub, b_mul, b_mod, b_fdiv, b_addt, b_addl, b_pow3, b_pow6, b_pow12, b_pow18, i_t, i_l, i_r, sl_t, sl_l, p_len_l, p_len_t, p_len_r, p_abs, p_int, p_intB, p_tup_l, p_tup_t, p_lst_l, p_lst_t, p_sum_l, p_sum_t, p_sum_r, p_all, p_any, p_max2, p_min2, isNon, nolistR, nolist, and_self, and_true, true_and, h]
  · simp only [ev, R.rv, R.rvs, R.dsk, R.bnd, testR, partR, rd, rds, fz, fzs, nrm, optR, keepS, storable, tru, isD, tyN, Ty.sub, List.any_cons, List.any_nil, List.all_cons, List.all_nil, doCall, mkArgs, lent, isOwnS, noDup, putOuts, argsFit, endF, outsF, startF, bindT, bindTs, List.getElem?_cons_zero, List.getElem?_cons_succ, List.getElem?_nil, List.map_cons, List.map_nil, List.length_cons, List.length_nil, List.replicate, List.cons_append, List.nil_append, List.set_cons_zero, List.set_cons_succ, Option.bind, Option.map, Bool.and_true, Bool.true_and, Bool.and_false, Bool.false_and, Bool.or_true, Bool.true_or, Bool.or_false, Bool.false_or, Bool.not_true, Bool.not_false, Bool.not_not, if_true, if_false, Bool.false_eq_true, reduceIte, reduceCtorEq, decide_true, decide_false, List.isEmpty_nil, List.isEmpty_cons, beq_self_eq_true, Nat.reduceAdd, Nat.reduceSub, Nat.reduceLeDiff, Nat.reduceLT, List.contains_nil, it_l, it_t, it_r, ty_r, b_add, b_sub, b_mul, b_mod, b_fdiv, b_addt, b_addl, b_pow3, b_pow6, b_pow12, b_pow18, i_t, i_l, i_r, sl_t, sl_l, p_len_l, p_len_t, p_len_r, p_abs, p_int, p_intB, p_tup_l, p_tup_t, p_lst_l, p_lst_t, p_sum_l, p_sum_t, p_sum_r, p_all, p_any, p_max2, p_min2, isNon, nolistR, nolist, and_self, and_true, true_and, h]
theorem s_tuple_int (n : Int) : runF tb (k+1) "tuple_of" [.d (.int n)] = .ok (.v (.int n)) [] := by rfl
theorem s_tuple_row (r : List Int) (h : r.length ≤ 1000) : runF tb (k+2) "tuple_of" [.d (rowD r)] = .ok (.v (rowD r)) [] := by
  have hc : ev (runF tb (k+1)) c_tuple_of_0 [.val (rowD r), .no] = .ok (.rv (.o (r.map .int))) [.val (rowD r), .no] :=
    comp_map .int .int rfl (by unfold LINE; omega) rfl fun n _ => ⟨[.val (rowD r), .val (.int n)], _, rfl, rfl, by rfl, rfl⟩
  unfold rowD at hc ⊢
  rw [u_tuple_of]
  simp only [ev, R.rv, R.rvs, R.dsk, R.bnd, testR, partR, rd, rds, fz, fzs, nrm, optR, keepS, storable, tru, isD, tyN, Ty.sub, List.any_cons, List.any_nil, List.all_cons, List.all_nil, doCall, mkArgs, lent, isOwnS, noDup, putOuts, argsFit, endF, outsF, startF, bindT, bindTs, List.getElem?_cons_zero, List.getElem?_cons_succ, List.getElem?_nil, List.map_cons, List.map_nil, List.length_cons, List.length_nil, List.replicate, List.cons_append, List.nil_append, List.set_cons_zero, List.set_cons_succ, Option.bind, Option.map, Bool.and_true, Bool.true_and, Bool.and_false, Bool.false_and, Bool.or_true, Bool.true_or, Bool.or_false, Bool.false_or, Bool.not_true, Bool.not_false, Bool.not_not, if_true, if_false, Bool.false_eq_true, reduceIte, reduceCtorEq, decide_true, decide_false, List.isEmpty_nil, List.isEmpty_cons, beq_self_eq_true, Nat.reduceAdd, Nat.reduceSub, Nat.reduceLeDiff, Nat.reduceLT, List.contains_nil, it_l, it_t, it_r, ty_r, b_add, b_sub, b_mul, b_mod, b_fdiv, b_addt, b_addl, b_pow3, b_pow6, b_pow12, b_pow18, i_t, i_l, i_r, sl_t, sl_l, p_len_l, p_len_t, p_len_r, p_abs, p_int, p_intB, p_tup_l, p_tup_t, p_lst_l, p_lst_t, p_sum_l, p_sum_t, p_sum_r, p_all, p_any, p_max2, p_min2, isNon, nolistR, nolist, and_self, and_true, true_and, f_tuple_of, hc]
theorem s_tuple_rows (rs : List (List Int)) (h : rs.length ≤ 1000) (h' : ∀ r ∈ rs, r.length ≤ 1000) : runF tb (k+3) "tuple_of" [.d (.tuple (rs.map rowD))] = .ok (.v (.tuple (rs.map rowD))) [] := by
  have hc : ev (runF tb (k+2)) c_tuple_of_0 [.val (.tuple (rs.map rowD)), .no] = .ok (.rv (.o (rs.map rowD))) [.val (.tuple (rs.map rowD)), .no] := by
    refine comp_map rowD rowD rfl (by unfold LINE; omega) rfl fun r hr => ⟨[.val (.tuple (rs.map rowD)), .val (rowD r)], .v (rowD r), rfl, rfl, ?_, rfl⟩
    simp only [ev, R.rv, R.rvs, R.dsk, R.bnd, testR, partR, rd, rds, fz, fzs, nrm, optR, keepS, storable, tru, isD, tyN, Ty.sub, List.any_cons, List.any_nil, List.all_cons, List.all_nil, doCall, mkArgs, lent, isOwnS, noDup, putOuts, argsFit, endF, outsF, startF, bindT, bindTs, List.getElem?_cons_zero, List.getElem?_cons_succ, List.getElem?_nil, List.map_cons, List.map_nil, List.length_cons, List.length_nil, List.replicate, List.cons_append, List.nil_append, List.set_cons_zero, List.set_cons_succ, Option.bind, Option.map, Bool.and_true, Bool.true_and, Bool.and_false, Bool.false_and, Bool.or_true, Bool.true_or, Bool.or_false, Bool.false_or, Bool.not_true, Bool.not_false, Bool.not_not, if_true, if_false, Bool.false_eq_true, reduceIte, reduceCtorEq, decide_true, decide_false, List.isEmpty_nil, List.isEmpty_cons, beq_self_eq_true, Nat.reduceAdd, Nat.reduceSub, Nat.reduceLeDiff, Nat.reduceLT, List.contains_nil, it_l, it_t, it_r, ty_r, b_add, b_sub, b_mul, b_mod, b_fdiv, b_addt, b_addl, b_pow3, b_pow6, b_pow12, b_pow18, i_t, i_l, i_r, sl_t, sl_l, p_len_l, p_len_t, p_len_r, p_abs, p_int, p_intB, p_tup_l, p_tup_t, p_lst_l, p_lst_t, p_sum_l, p_sum_t, p_sum_r, p_all, p_any, p_max2, p_min2, isNon, nolistR, nolist, and_self, and_true, true_and, s_tuple_row k r (h' r hr)]
  rw [u_tuple_of]
  simp only [ev, R.rv, R.rvs, R.dsk, R.bnd, testR, partR, rd, rds, fz, fzs, nrm, optR, keepS, storable, tru, isD, tyN, Ty.sub, List.any_cons, List.any_nil, List.all_cons, List.all_nil, doCall, mkArgs, lent, isOwnS, noDup, putOuts, argsFit, endF, outsF, startF, bindT, bindTs, List.getElem?_cons_zero, List.getElem?_cons_succ, List.getElem?_nil, List.map_cons, List.map_nil, List.length_cons, List.length_nil, List.replicate, List.cons_append, List.nil_append, List.set_cons_zero, List.set_cons_succ, Option.bind, Option.map, Bool.and_true, Bool.true_and, Bool.and_false, Bool.false_and, Bool.or_true, Bool.true_or, Bool.or_false, Bool.false_or, Bool.not_true, Bool.not_false, Bool.not_not, if_true, if_false, Bool.false_eq_true, reduceIte, reduceCtorEq, decide_true, decide_false, List.isEmpty_nil, List.isEmpty_cons, beq_self_eq_true, Nat.reduceAdd, Nat.reduceSub, Nat.reduceLeDiff, Nat.reduceLT, List.contains_nil, it_l, it_t, it_r, ty_r, b_add, b_sub, b_mul, b_mod, b_fdiv, b_addt, b_addl, b_pow3, b_pow6, b_pow12, b_pow18, i_t, i_l, i_r, sl_t, sl_l, p_len_l, p_len_t, p_len_r, p_abs, p_int, p_intB, p_tup_l, p_tup_t, p_lst_l, p_lst_t, p_sum_l, p_sum_t, p_sum_r, p_all, p_any, p_max2, p_min2, isNon, nolistR, nolist, and_self, and_true, true_and, f_tuple_of, hc]
theorem s_sure : runF tb (k+1) "sure" [.d (.bool true)] = .ok (.v .none) [] := by rfl
theorem s_tuple_many (r : List Int) (m : Int) : runF tb (k+1) "is_tuple_of" [.d (rowD r), .d (.int m)] = .ok (.v (.bool (decide ((r.length : Int) = m)))) [] := by
  unfold rowD
  rw [u_is_tuple_of]
  simp only [ev, R.rv, R.rvs, R.dsk, R.bnd, testR, partR, rd, rds, fz, fzs, nrm, optR, keepS, storable, tru, isD, tyN, Ty.sub, List.any_cons, List.any_nil, List.all_cons, List.all_nil, doCall, mkArgs, lent, isOwnS, noDup, putOuts, argsFit, endF, outsF, startF, bindT, bindTs, List.getElem?_cons_zero, List.getElem?_cons_succ, List.getElem?_nil, List.map_cons, List.map_nil, List.length_cons, List.length_nil, List.replicate, List.cons_append, List.nil_append, List.set_cons_zero, List.set_cons_succ, Option.bind, Option.map, Bool.and_true, Bool.true_and, Bool.and_false, Bool.false_and, Bool.or_true, Bool.true_or, Bool.or_false, Bool.false_or, Bool.not_true, Bool.not_false, Bool.not_not, if_true, if_false, Bool.false_eq_true, reduceIte, reduceCtorEq, decide_true, decide_false, List.isEmpty_nil, List.isEmpty_cons, beq_self_eq_true, Nat.reduceAdd, Nat.reduceSub, Nat.reduceLeDiff, Nat.reduceLT, List.contains_nil, it_l, it_t, it_r, ty_r, b_add, b_sub, b_mul, b_mod, b_fdiv, b_addt, b_addl, b_pow3, b_pow6, b_pow12, b_pow18, i_t, i_l, i_r, sl_t, sl_l, p_len_l, p_len_t, p_len_r, p_abs, p_int, p_intB, p_tup_l, p_tup_t, p_lst_l, p_lst_t, p_sum_l, p_sum_t, p_sum_r, p_all, p_any, p_max2, p_min2, isNon, nolistR, nolist, and_self, and_true, true_and, f_is_tuple_of, len_row, c_eq]
theorem s_row_of (r : List Int) (m : Int) (hr : r.length ≤ 1000) : runF tb (k+3) "is_row_of" [.d (rowD r), .d (.int m)] = .ok (.v (.bool (decide ((r.length : Int) = m) && r.all fun n => decide (0 ≤ n)))) [] := by
  have hc : ev (runF tb (k+2)) c_is_row_of_0 [.val (rowD r), .val (.int m), .no] = .ok (.rv (.o (r.map fun n => .bool (decide (0 ≤ n))))) [.val (rowD r), .val (.int m), .no] := by
    refine comp_map .int (fun n => .bool (decide (0 ≤ n))) rfl (by unfold LINE; omega) rfl fun n _ => ⟨[.val (rowD r), .val (.int m), .val (.int n)], .v (.bool (decide (0 ≤ n))), rfl, rfl, ?_, rfl⟩
    simp only [ev, R.rv, R.rvs, R.dsk, R.bnd, testR, partR, rd, rds, fz, fzs, nrm, optR, keepS, storable, tru, isD, tyN, Ty.sub, List.any_cons, List.any_nil, List.all_cons, List.all_nil, doCall, mkArgs, lent, isOwnS, noDup, putOuts, argsFit, endF, outsF, startF, bindT, bindTs, List.getElem?_cons_zero, List.getElem?_cons_succ, List.getElem?_nil, List.map_cons, List.map_nil, List.length_cons, List.length_nil, List.replicate, List.cons_append, List.nil_append, List.set_cons_zero, List.set_cons_succ, Option.bind, Option.map, Bool.and_true, Bool.true_and, Bool.and_false, Bool.false_and, Bool.or_true, Bool.true_or, Bool.or_false, Bool.false_or, Bool.not_true, Bool.not_false, Bool.not_not, if_true, if_false, Bool.false_eq_true, reduceIte, reduceCtorEq, decide_true, decide_false, List.isEmpty_nil, List.isEmpty_cons, beq_self_eq_true, Nat.reduceAdd, Nat.reduceSub, Nat.reduceLeDiff, Nat.reduceLT, List.contains_nil, it_l, it_t, it_r, ty_r, b_add, b_sub, b_mul, b_mod, b_fdiv, b_addt, b_addl, b_pow3, b_pow6, b_pow12, b_pow18, i_t, i_l, i_r, sl_t, sl_l, p_len_l, p_len_t, p_len_r, p_abs, p_int, p_intB, p_tup_l, p_tup_t, p_lst_l, p_lst_t, p_sum_l, p_sum_t, p_sum_r, p_all, p_any, p_max2, p_min2, isNon, nolistR, nolist, and_self, and_true, true_and, s_from]
  have e : (r.map fun n => PyData.bool (decide (0 ≤ n))) = (r.map fun n => decide (0 ≤ n)).map .bool := by rw [List.map_map]; rfl
  rw [u_is_row_of]
  simp only [ev, R.rv, R.rvs, R.dsk, R.bnd, testR, partR, rd, rds, fz, fzs, nrm, optR, keepS, storable, tru, isD, tyN, Ty.sub, List.any_cons, List.any_nil, List.all_cons, List.all_nil, doCall, mkArgs, lent, isOwnS, noDup, putOuts, argsFit, endF, outsF, startF, bindT, bindTs, List.getElem?_cons_zero, List.getElem?_cons_succ, List.getElem?_nil, List.map_cons, List.map_nil, List.length_cons, List.length_nil, List.replicate, List.cons_append, List.nil_append, List.set_cons_zero, List.set_cons_succ, Option.bind, Option.map, Bool.and_true, Bool.true_and, Bool.and_false, Bool.false_and, Bool.or_true, Bool.true_or, Bool.or_false, Bool.false_or, Bool.not_true, Bool.not_false, Bool.not_not, if_true, if_false, Bool.false_eq_true, reduceIte, reduceCtorEq, decide_true, decide_false, List.isEmpty_nil, List.isEmpty_cons, beq_self_eq_true, Nat.reduceAdd, Nat.reduceSub, Nat.reduceLeDiff, Nat.reduceLT, List.contains_nil, it_l, it_t, it_r, ty_r, b_add, b_sub, b_mul, b_mod, b_fdiv, b_addt, b_addl, b_pow3, b_pow6, b_pow12, b_pow18, i_t, i_l, i_r, sl_t, sl_l, p_len_l, p_len_t, p_len_r, p_abs, p_int, p_intB, p_tup_l, p_tup_t, p_lst_l, p_lst_t, p_sum_l, p_sum_t, p_sum_r, p_all, p_any, p_max2, p_min2, isNon, nolistR, nolist, and_self, and_true, true_and, f_is_row_of, s_tuple_many (k+1), hc, e, boolsOf_map]
  by_cases h : (r.length : Int) = m
  · simp only [ev, R.rv, R.rvs, R.dsk, R.bnd, testR, partR, rd, rds, fz, fzs, nrm, optR, keepS, storable, tru, isD, tyN, Ty.sub, List.any_cons, List.any_nil, List.all_cons, List.all_nil, doCall, mkArgs, lent, isOwnS, noDup, putOuts, argsFit, endF, outsF, startF, bindT, bindTs, List.getElem?_cons_zero, List.getElem?_cons_succ, List.getElem?_nil, List.map_cons, List.map_nil, List.length_cons, List.length_nil, List.replicate, List.cons_append, List.nil_append, List.set_cons_zero, List.set_cons_succ, Option.bind, Option.map, Bool.and_true, Bool.true_and, Bool.and_false, Bool.false_and, Bool.or_true, Bool.true_or, Bool.or_false, Bool.false_or, Bool.not_true, Bool.not_false, Bool.not_not, if_true, if_false, Bool.false_eq_true, reduceIte, reduceCtorEq, decide_true, decide_false, List.isEmpty_nil, List.isEmpty_cons, beq_self_eq_true, Nat.reduceAdd, Nat.reduceSub, Nat.reduceLeDiff, Nat.reduceLT, List.contains_nil, it_l, it_t, it_r, ty_r, b_add, b_sub, b_mul, b_mod, b_fdiv, b_addt, b_addl, b_pow3, b_pow6, b_pow12, b_pow18, i_t, i_l, i_r, sl_t, sl_l, p_len_l, p_len_t, p_len_r, p_abs, p_int, p_intB, p_tup_l, p_tup_t, p_lst_l, p_lst_t, p_sum_l, p_sum_t, p_sum_r, p_all, p_any, p_max2, p_min2, isNon, nolistR, nolist, and_self, and_true, true_and, h, List.all_map, Function.comp_def, id]
  · simp only [ev, R.rv, R.rvs, R.dsk, R.bnd, testR, partR, rd, rds, fz, fzs, nrm, optR, keepS, storable, tru, isD, tyN, Ty.sub, List.any_cons, List.any_nil, List.all_cons, List.all_nil, doCall, mkArgs, lent, isOwnS, noDup, putOuts, argsFit, endF, outsF, startF, bindT, bindTs, List.getElem?_cons_zero, List.getElem?_cons_succ, List.getElem?_nil, List.map_cons, List.map_nil, List.length_cons, List.length_nil, List.replicate, List.cons_append, List.nil_append, List.set_cons_zero, List.set_cons_succ, Option.bind, Option.map, Bool.and_true, Bool.true_and, Bool.and_false, Bool.false_and, Bool.or_true, Bool.true_or, Bool.or_false, Bool.false_or, Bool.not_true, Bool.not_false, Bool.not_not, if_true, if_false, Bool.false_eq_true, reduceIte, reduceCtorEq, decide_true, decide_false, List.isEmpty_nil, List.isEmpty_cons, beq_self_eq_true, Nat.reduceAdd, Nat.reduceSub, Nat.reduceLeDiff, Nat.reduceLT, List.contains_nil, it_l, it_t, it_r, ty_r, b_add, b_sub, b_mul, b_mod, b_fdiv, b_addt, b_addl, b_pow3, b_pow6, b_pow12, b_pow18, i_t, i_l, i_r, sl_t, sl_l, p_len_l, p_len_t, p_len_r, p_abs, p_int, p_intB, p_tup_l, p_tup_t, p_lst_l, p_lst_t, p_sum_l, p_sum_t, p_sum_r, p_all, p_any, p_max2, p_min2, isNon, nolistR, nolist, and_self, and_true, true_and, h]
theorem s_low (r : List Int) (h : r.length ≤ 5) : runF tb (k+3) "is_low_row" [.d (rowD r)] = .ok (.v (.bool (r.all fun n => decide (0 ≤ n) && decide (n ≤ 1000000)))) [] := by
  have hc : ev (runF tb (k+2)) c_is_low_row_0 [.val (rowD r), .no] = .ok (.rv (.o (r.map fun n => .bool (decide (0 ≤ n) && decide (n ≤ 1000000))))) [.val (rowD r), .no] := by
    refine comp_map .int (fun n => .bool (decide (0 ≤ n) && decide (n ≤ 1000000))) rfl (by unfold LINE; omega) rfl fun n _ => ⟨[.val (rowD r), .val (.int n)], .v (.bool (decide (0 ≤ n) && decide (n ≤ 1000000))), rfl, rfl, ?_, rfl⟩
    simp only [ev, R.rv, R.rvs, R.dsk, R.bnd, testR, partR, rd, rds, fz, fzs, nrm, optR, keepS, storable, tru, isD, tyN, Ty.sub, List.any_cons, List.any_nil, List.all_cons, List.all_nil, doCall, mkArgs, lent, isOwnS, noDup, putOuts, argsFit, endF, outsF, startF, bindT, bindTs, List.getElem?_cons_zero, List.getElem?_cons_succ, List.getElem?_nil, List.map_cons, List.map_nil, List.length_cons, List.length_nil, List.replicate, List.cons_append, List.nil_append, List.set_cons_zero, List.set_cons_succ, Option.bind, Option.map, Bool.and_true, Bool.true_and, Bool.and_false, Bool.false_and, Bool.or_true, Bool.true_or, Bool.or_false, Bool.false_or, Bool.not_true, Bool.not_false, Bool.not_not, if_true, if_false, Bool.false_eq_true, reduceIte, reduceCtorEq, decide_true, decide_false, List.isEmpty_nil, List.isEmpty_cons, beq_self_eq_true, Nat.reduceAdd, Nat.reduceSub, Nat.reduceLeDiff, Nat.reduceLT, List.contains_nil, it_l, it_t, it_r, ty_r, b_add, b_sub, b_mul, b_mod, b_fdiv, b_addt, b_addl, b_pow3, b_pow6, b_pow12, b_pow18, i_t, i_l, i_r, sl_t, sl_l, p_len_l, p_len_t, p_len_r, p_abs, p_int, p_intB, p_tup_l, p_tup_t, p_lst_l, p_lst_t, p_sum_l, p_sum_t, p_sum_r, p_all, p_any, p_max2, p_min2, isNon, nolistR, nolist, and_self, and_true, true_and, s_between]
  have e : (r.map fun n => PyData.bool (decide (0 ≤ n) && decide (n ≤ 1000000))) = (r.map fun n => decide (0 ≤ n) && decide (n ≤ 1000000)).map .bool := by rw [List.map_map]; rfl
  have h5 : ¬ (5 : Int) < (r.length : Int) := by omega
  unfold rowD at hc ⊢
  rw [u_is_low_row]
  simp only [ev, R.rv, R.rvs, R.dsk, R.bnd, testR, partR, rd, rds, fz, fzs, nrm, optR, keepS, storable, tru, isD, tyN, Ty.sub, List.any_cons, List.any_nil, List.all_cons, List.all_nil, doCall, mkArgs, lent, isOwnS, noDup, putOuts, argsFit, endF, outsF, startF, bindT, bindTs, List.getElem?_cons_zero, List.getElem?_cons_succ, List.getElem?_nil, List.map_cons, List.map_nil, List.length_cons, List.length_nil, List.replicate, List.cons_append, List.nil_append, List.set_cons_zero, List.set_cons_succ, Option.bind, Option.map, Bool.and_true, Bool.true_and, Bool.and_false, Bool.false_and, Bool.or_true, Bool.true_or, Bool.or_false, Bool.false_or, Bool.not_true, Bool.not_false, Bool.not_not, if_true, if_false, Bool.false_eq_true, reduceIte, reduceCtorEq, decide_true, decide_false, List.isEmpty_nil, List.isEmpty_cons, beq_self_eq_true, Nat.reduceAdd, Nat.reduceSub, Nat.reduceLeDiff, Nat.reduceLT, List.contains_nil, it_l, it_t, it_r, ty_r, b_add, b_sub, b_mul, b_mod, b_fdiv, b_addt, b_addl, b_pow3, b_pow6, b_pow12, b_pow18, i_t, i_l, i_r, sl_t, sl_l, p_len_l, p_len_t, p_len_r, p_abs, p_int, p_intB, p_tup_l, p_tup_t, p_lst_l, p_lst_t, p_sum_l, p_sum_t, p_sum_r, p_all, p_any, p_max2, p_min2, isNon, nolistR, nolist, and_self, and_true, true_and, f_is_low_row, hc, e, boolsOf_map, len_row, c_gt, h5, List.all_map, Function.comp_def, id]
abbrev Low (r : List Int) : Prop := r.length ≤ 5 ∧ (r.all fun n => decide (0 ≤ n) && decide (n ≤ 1000000)) = true
theorem s_sure_row {r : List Int} (h : Low r) : runF tb (k+4) "sure_row" [.d (rowD r)] = .ok (.v (rowD r)) [] := by
  rw [u_sure_row]
  simp only [ev, R.rv, R.rvs, R.dsk, R.bnd, testR, partR, rd, rds, fz, fzs, nrm, optR, keepS, storable, tru, isD, tyN, Ty.sub, List.any_cons, List.any_nil, List.all_cons, List.all_nil, doCall, mkArgs, lent, isOwnS, noDup, putOuts, argsFit, endF, outsF, startF, bindT, bindTs, List.getElem?_cons_zero, List.getElem?_cons_succ, List.getElem?_nil, List.map_cons, List.map_nil, List.length_cons, List.length_nil, List.replicate, List.cons_append, List.nil_append, List.set_cons_zero, List.set_cons_succ, Option.bind, Option.map, Bool.and_true, Bool.true_and, Bool.and_false, Bool.false_and, Bool.or_true, Bool.true_or, Bool.or_false, Bool.false_or, Bool.not_true, Bool.not_false, Bool.not_not, if_true, if_false, Bool.false_eq_true, reduceIte, reduceCtorEq, decide_true, decide_false, List.isEmpty_nil, List.isEmpty_cons, beq_self_eq_true, Nat.reduceAdd, Nat.reduceSub, Nat.reduceLeDiff, Nat.reduceLT, List.contains_nil, it_l, it_t, it_r, ty_r, b_add, b_sub, b_mul, b_mod, b_fdiv, b_addt, b_addl, b_pow3, b_pow6, b_pow12, b_pow18, i_t, i_l, i_r, sl_t, sl_l, p_len_l, p_len_t, p_len_r, p_abs, p_int, p_intB, p_tup_l, p_tup_t, p_lst_l, p_lst_t, p_sum_l, p_sum_t, p_sum_r, p_all, p_any, p_max2, p_min2, isNon, nolistR, nolist, and_self, and_true, true_and, f_sure_row, s_tuple_row (k+1) r (by omega), s_low k r h.1, h.2, s_sure (k+2)]
theorem s_sure_rows {rs : List (List Int)} (hl : rs.length ≤ 40) (h : ∀ r ∈ rs, Low r) : runF tb (k+4) "sure_rows" [.d (.tuple (rs.map rowD))] = .ok (.v (.tuple (rs.map rowD))) [] := by
  have hc : ev (runF tb (k+3)) c_sure_rows_0 [.val (.tuple (rs.map rowD)), .val (.tuple (rs.map rowD)), .no] = .ok (.rv (.o (rs.map fun _ => .bool true))) [.val (.tuple (rs.map rowD)), .val (.tuple (rs.map rowD)), .no] := by
    refine comp_map rowD (fun _ => .bool true) rfl (by unfold LINE; omega) rfl fun r hr => ⟨[.val (.tuple (rs.map rowD)), .val (.tuple (rs.map rowD)), .val (rowD r)], .v (.bool true), rfl, rfl, ?_, rfl⟩
    simp only [ev, R.rv, R.rvs, R.dsk, R.bnd, testR, partR, rd, rds, fz, fzs, nrm, optR, keepS, storable, tru, isD, tyN, Ty.sub, List.any_cons, List.any_nil, List.all_cons, List.all_nil, doCall, mkArgs, lent, isOwnS, noDup, putOuts, argsFit, endF, outsF, startF, bindT, bindTs, List.getElem?_cons_zero, List.getElem?_cons_succ, List.getElem?_nil, List.map_cons, List.map_nil, List.length_cons, List.length_nil, List.replicate, List.cons_append, List.nil_append, List.set_cons_zero, List.set_cons_succ, Option.bind, Option.map, Bool.and_true, Bool.true_and, Bool.and_false, Bool.false_and, Bool.or_true, Bool.true_or, Bool.or_false, Bool.false_or, Bool.not_true, Bool.not_false, Bool.not_not, if_true, if_false, Bool.false_eq_true, reduceIte, reduceCtorEq, decide_true, decide_false, List.isEmpty_nil, List.isEmpty_cons, beq_self_eq_true, Nat.reduceAdd, Nat.reduceSub, Nat.reduceLeDiff, Nat.reduceLT, List.contains_nil, it_l, it_t, it_r, ty_r, b_add, b_sub, b_mul, b_mod, b_fdiv, b_addt, b_addl, b_pow3, b_pow6, b_pow12, b_pow18, i_t, i_l, i_r, sl_t, sl_l, p_len_l, p_len_t, p_len_r, p_abs, p_int, p_intB, p_tup_l, p_tup_t, p_lst_l, p_lst_t, p_sum_l, p_sum_t, p_sum_r, p_all, p_any, p_max2, p_min2, isNon, nolistR, nolist, and_self, and_true, true_and, s_low k r (h r hr).1, (h r hr).2]
  have e : (rs.map fun _ => PyData.bool true) = (rs.map fun _ => true).map .bool := by rw [List.map_map]; rfl
  have h5 : (rs.length : Int) ≤ 40 := by omega
  have ht : (rs.map fun _ => true).all id = true := by rw [List.all_map]; exact List.all_eq_true.mpr fun _ _ => rfl
  rw [u_sure_rows]
  simp only [ev, R.rv, R.rvs, R.dsk, R.bnd, testR, partR, rd, rds, fz, fzs, nrm, optR, keepS, storable, tru, isD, tyN, Ty.sub, List.any_cons, List.any_nil, List.all_cons, List.all_nil, doCall, mkArgs, lent, isOwnS, noDup, putOuts, argsFit, endF, outsF, startF, bindT, bindTs, List.getElem?_cons_zero, List.getElem?_cons_succ, List.getElem?_nil, List.map_cons, List.map_nil, List.length_cons, List.length_nil, List.replicate, List.cons_append, List.nil_append, List.set_cons_zero, List.set_cons_succ, Option.bind, Option.map, Bool.and_true, Bool.true_and, Bool.and_false, Bool.false_and, Bool.or_true, Bool.true_or, Bool.or_false, Bool.false_or, Bool.not_true, Bool.not_false, Bool.not_not, if_true, if_false, Bool.false_eq_true, reduceIte, reduceCtorEq, decide_true, decide_false, List.isEmpty_nil, List.isEmpty_cons, beq_self_eq_true, Nat.reduceAdd, Nat.reduceSub, Nat.reduceLeDiff, Nat.reduceLT, List.contains_nil, it_l, it_t, it_r, ty_r, b_add, b_sub, b_mul, b_mod, b_fdiv, b_addt, b_addl, b_pow3, b_pow6, b_pow12, b_pow18, i_t, i_l, i_r, sl_t, sl_l, p_len_l, p_len_t, p_len_r, p_abs, p_int, p_intB, p_tup_l, p_tup_t, p_lst_l, p_lst_t, p_sum_l, p_sum_t, p_sum_r, p_all, p_any, p_max2, p_min2, isNon, nolistR, nolist, and_self, and_true, true_and, f_sure_rows, s_tuple_rows k rs (by omega) (fun r hr => by have := (h r hr).1; omega), hc, e, boolsOf_map, List.length_map, c_le, h5, ht, s_sure (k+2)]
theorem s_look {rs : List (List Int)} {m : Nat} (hl : rs.length ≤ 4000) (h : ∀ r ∈ rs, r.length = m) : runF tb (k+1) "look_long" [.d (.tuple (rs.map rowD))] = .ok (.v .none) [] := by
  have hc : ev (runF tb k) c_look_long_0 [.val (.tuple (rs.map rowD)), .no] = .ok (.rv (.o (rs.map fun r => .int r.length))) [.val (.tuple (rs.map rowD)), .no] := by
    refine comp_map rowD (fun r => .int r.length) rfl (by unfold LINE; omega) rfl fun r hr => ⟨[.val (.tuple (rs.map rowD)), .val (rowD r)], .v (.int r.length), rfl, rfl, ?_, rfl⟩
    unfold rowD
    simp only [ev, R.rv, R.rvs, R.dsk, R.bnd, testR, partR, rd, rds, fz, fzs, nrm, optR, keepS, storable, tru, isD, tyN, Ty.sub, List.any_cons, List.any_nil, List.all_cons, List.all_nil, doCall, mkArgs, lent, isOwnS, noDup, putOuts, argsFit, endF, outsF, startF, bindT, bindTs, List.getElem?_cons_zero, List.getElem?_cons_succ, List.getElem?_nil, List.map_cons, List.map_nil, List.length_cons, List.length_nil, List.replicate, List.cons_append, List.nil_append, List.set_cons_zero, List.set_cons_succ, Option.bind, Option.map, Bool.and_true, Bool.true_and, Bool.and_false, Bool.false_and, Bool.or_true, Bool.true_or, Bool.or_false, Bool.false_or, Bool.not_true, Bool.not_false, Bool.not_not, if_true, if_false, Bool.false_eq_true, reduceIte, reduceCtorEq, decide_true, decide_false, List.isEmpty_nil, List.isEmpty_cons, beq_self_eq_true, Nat.reduceAdd, Nat.reduceSub, Nat.reduceLeDiff, Nat.reduceLT, List.contains_nil, it_l, it_t, it_r, ty_r, b_add, b_sub, b_mul, b_mod, b_fdiv, b_addt, b_addl, b_pow3, b_pow6, b_pow12, b_pow18, i_t, i_l, i_r, sl_t, sl_l, p_len_l, p_len_t, p_len_r, p_abs, p_int, p_intB, p_tup_l, p_tup_t, p_lst_l, p_lst_t, p_sum_l, p_sum_t, p_sum_r, p_all, p_any, p_max2, p_min2, isNon, nolistR, nolist, and_self, and_true, true_and, len_row]
  have e : (rs.map fun r => PyData.int r.length) = (rs.map fun r => (r.length : Int)).map .int := by rw [List.map_map]; rfl
  have e2 : lenSetD (.list (rs.map fun r => .int r.length)) = some ((dedI (rs.map fun r => (r.length : Int))).length : Int) := by
    rw [e]
    show (intsOf _).bind _ = _
    rw [intsOf_map]
    show (if _ then _ else none) = _
    rw [if_pos (by rw [List.length_map]; exact hl)]
  have h1 : (dedI (rs.map fun r => (r.length : Int))).length ≤ 1 := dedI_const (m := m) _ [] (fun x hx => by
    obtain ⟨r, hr, rfl⟩ := List.mem_map.mp hx
    rw [h r hr]) (.inl rfl)
  have h2 : ¬ (1 : Int) < ((dedI (rs.map fun r => (r.length : Int))).length : Int) := by omega
  rw [u_look_long]
  simp only [ev, R.rv, R.rvs, R.dsk, R.bnd, testR, partR, rd, rds, fz, fzs, nrm, optR, keepS, storable, tru, isD, tyN, Ty.sub, List.any_cons, List.any_nil, List.all_cons, List.all_nil, doCall, mkArgs, lent, isOwnS, noDup, putOuts, argsFit, endF, outsF, startF, bindT, bindTs, List.getElem?_cons_zero, List.getElem?_cons_succ, List.getElem?_nil, List.map_cons, List.map_nil, List.length_cons, List.length_nil, List.replicate, List.cons_append, List.nil_append, List.set_cons_zero, List.set_cons_succ, Option.bind, Option.map, Bool.and_true, Bool.true_and, Bool.and_false, Bool.false_and, Bool.or_true, Bool.true_or, Bool.or_false, Bool.false_or, Bool.not_true, Bool.not_false, Bool.not_not, if_true, if_false, Bool.false_eq_true, reduceIte, reduceCtorEq, decide_true, decide_false, List.isEmpty_nil, List.isEmpty_cons, beq_self_eq_true, Nat.reduceAdd, Nat.reduceSub, Nat.reduceLeDiff, Nat.reduceLT, List.contains_nil, it_l, it_t, it_r, ty_r, b_add, b_sub, b_mul, b_mod, b_fdiv, b_addt, b_addl, b_pow3, b_pow6, b_pow12, b_pow18, i_t, i_l, i_r, sl_t, sl_l, p_len_l, p_len_t, p_len_r, p_abs, p_int, p_intB, p_tup_l, p_tup_t, p_lst_l, p_lst_t, p_sum_l, p_sum_t, p_sum_r, p_all, p_any, p_max2, p_min2, isNon, nolistR, nolist, and_self, and_true, true_and, f_look_long, hc, e2, c_gt, h2]
abbrev addR (a b : List Int) : List Int := (a.zip b).map fun p => p.1 + p.2
theorem s_added (a b : List Int) (h : a.length ≤ 1000) : runF tb (k+1) "added" [.d (rowD a), .d (rowD b)] = .ok (.v (rowD (addR a b))) [] := by
  have hc : ev (runF tb k) c_added_0 [.val (rowD a), .val (rowD b), .no, .no] = .ok (.rv (.o ((a.zip b).map fun p => .int (p.1 + p.2)))) [.val (rowD a), .val (rowD b), .no, .no] := by
    refine comp_map (fun p : Int × Int => .tuple [.int p.1, .int p.2]) (fun p => .int (p.1 + p.2)) (by rw [← zipF_enc]; rfl) (by rw [List.length_zip]; unfold LINE; omega) rfl fun p _ => ⟨[.val (rowD a), .val (rowD b), .val (.int p.1), .val (.int p.2)], .v (.int (p.1 + p.2)), rfl, rfl, rfl, rfl⟩
  have e : ((a.zip b).map fun p => PyData.int (p.1 + p.2)) = (addR a b).map .int := by rw [List.map_map]; rfl
  rw [u_added]
  simp only [ev, R.rv, R.rvs, R.dsk, R.bnd, testR, partR, rd, rds, fz, fzs, nrm, optR, keepS, storable, tru, isD, tyN, Ty.sub, List.any_cons, List.any_nil, List.all_cons, List.all_nil, doCall, mkArgs, lent, isOwnS, noDup, putOuts, argsFit, endF, outsF, startF, bindT, bindTs, List.getElem?_cons_zero, List.getElem?_cons_succ, List.getElem?_nil, List.map_cons, List.map_nil, List.length_cons, List.length_nil, List.replicate, List.cons_append, List.nil_append, List.set_cons_zero, List.set_cons_succ, Option.bind, Option.map, Bool.and_true, Bool.true_and, Bool.and_false, Bool.false_and, Bool.or_true, Bool.true_or, Bool.or_false, Bool.false_or, Bool.not_true, Bool.not_false, Bool.not_not, if_true, if_false, Bool.false_eq_true, reduceIte, reduceCtorEq, decide_true, decide_false, List.isEmpty_nil, List.isEmpty_cons, beq_self_eq_true, Nat.reduceAdd, Nat.reduceSub, Nat.reduceLeDiff, Nat.reduceLT, List.contains_nil, it_l, it_t, it_r, ty_r, b_add, b_sub, b_mul, b_mod, b_fdiv, b_addt, b_addl, b_pow3, b_pow6, b_pow12, b_pow18, i_t, i_l, i_r, sl_t, sl_l, p_len_l, p_len_t, p_len_r, p_abs, p_int, p_intB, p_tup_l, p_tup_t, p_lst_l, p_lst_t, p_sum_l, p_sum_t, p_sum_r, p_all, p_any, p_max2, p_min2, isNon, nolistR, nolist, and_self, and_true, true_and, f_added, hc]
  rw [e]
  rfl
abbrev atMost (a b : List Int) : Bool := (a.zip b).all fun p => decide (p.1 ≤ p.2)
theorem s_at_most (a b : List Int) (h : a.length ≤ 1000) : runF tb (k+1) "at_most" [.d (rowD a), .d (rowD b)] = .ok (.v (.bool (atMost a b))) [] := by
  have hc : ev (runF tb k) c_at_most_0 [.val (rowD a), .val (rowD b), .no, .no] = .ok (.rv (.o ((a.zip b).map fun p => .bool (decide (p.1 ≤ p.2))))) [.val (rowD a), .val (rowD b), .no, .no] := by
    refine comp_map (fun p : Int × Int => .tuple [.int p.1, .int p.2]) (fun p => .bool (decide (p.1 ≤ p.2))) (by rw [← zipF_enc]; rfl) (by rw [List.length_zip]; unfold LINE; omega) rfl fun p _ => ⟨[.val (rowD a), .val (rowD b), .val (.int p.1), .val (.int p.2)], .v (.bool (decide (p.1 ≤ p.2))), rfl, rfl, rfl, rfl⟩
  have e : ((a.zip b).map fun p => PyData.bool (decide (p.1 ≤ p.2))) = ((a.zip b).map fun p => decide (p.1 ≤ p.2)).map .bool := by rw [List.map_map]; rfl
  rw [u_at_most]
  simp only [ev, R.rv, R.rvs, R.dsk, R.bnd, testR, partR, rd, rds, fz, fzs, nrm, optR, keepS, storable, tru, isD, tyN, Ty.sub, List.any_cons, List.any_nil, List.all_cons, List.all_nil, doCall, mkArgs, lent, isOwnS, noDup, putOuts, argsFit, endF, outsF, startF, bindT, bindTs, List.getElem?_cons_zero, List.getElem?_cons_succ, List.getElem?_nil, List.map_cons, List.map_nil, List.length_cons, List.length_nil, List.replicate, List.cons_append, List.nil_append, List.set_cons_zero, List.set_cons_succ, Option.bind, Option.map, Bool.and_true, Bool.true_and, Bool.and_false, Bool.false_and, Bool.or_true, Bool.true_or, Bool.or_false, Bool.false_or, Bool.not_true, Bool.not_false, Bool.not_not, if_true, if_false, Bool.false_eq_true, reduceIte, reduceCtorEq, decide_true, decide_false, List.isEmpty_nil, List.isEmpty_cons, beq_self_eq_true, Nat.reduceAdd, Nat.reduceSub, Nat.reduceLeDiff, Nat.reduceLT, List.contains_nil, it_l, it_t, it_r, ty_r, b_add, b_sub, b_mul, b_mod, b_fdiv, b_addt, b_addl, b_pow3, b_pow6, b_pow12, b_pow18, i_t, i_l, i_r, sl_t, sl_l, p_len_l, p_len_t, p_len_r, p_abs, p_int, p_intB, p_tup_l, p_tup_t, p_lst_l, p_lst_t, p_sum_l, p_sum_t, p_sum_r, p_all, p_any, p_max2, p_min2, isNon, nolistR, nolist, and_self, and_true, true_and, f_at_most, hc, e, boolsOf_map, List.all_map, Function.comp_def, id]
theorem s_some (rs : List (List Int)) (r : List Int) (kd : Bool) (hl : rs.length ≤ 1000) (h : ∀ x ∈ rs, x.length ≤ 1000) : runF tb (k+2) "some_at_most" [.d (if kd = true then .tuple (rs.map rowD) else .list (rs.map rowD)), .d (rowD r)] = .ok (.v (.bool (rs.any fun o => atMost o r))) [] := by
  have hc : ev (runF tb (k+1)) c_some_at_most_0 [.val (if kd = true then .tuple (rs.map rowD) else .list (rs.map rowD)), .val (rowD r), .no] = .ok (.rv (.o (rs.map fun o => .bool (atMost o r)))) [.val (if kd = true then .tuple (rs.map rowD) else .list (rs.map rowD)), .val (rowD r), .no] := by
    refine comp_map rowD (fun o => .bool (atMost o r)) (by cases kd <;> rfl) (by unfold LINE; omega) rfl fun o ho => ⟨[.val (if kd = true then .tuple (rs.map rowD) else .list (rs.map rowD)), .val (rowD r), .val (rowD o)], .v (.bool (atMost o r)), rfl, rfl, ?_, rfl⟩
    simp only [ev, R.rv, R.rvs, R.dsk, R.bnd, testR, partR, rd, rds, fz, fzs, nrm, optR, keepS, storable, tru, isD, tyN, Ty.sub, List.any_cons, List.any_nil, List.all_cons, List.all_nil, doCall, mkArgs, lent, isOwnS, noDup, putOuts, argsFit, endF, outsF, startF, bindT, bindTs, List.getElem?_cons_zero, List.getElem?_cons_succ, List.getElem?_nil, List.map_cons, List.map_nil, List.length_cons, List.length_nil, List.replicate, List.cons_append, List.nil_append, List.set_cons_zero, List.set_cons_succ, Option.bind, Option.map, Bool.and_true, Bool.true_and, Bool.and_false, Bool.false_and, Bool.or_true, Bool.true_or, Bool.or_false, Bool.false_or, Bool.not_true, Bool.not_false, Bool.not_not, if_true, if_false, Bool.false_eq_true, reduceIte, reduceCtorEq, decide_true, decide_false, List.isEmpty_nil, List.isEmpty_cons, beq_self_eq_true, Nat.reduceAdd, Nat.reduceSub, Nat.reduceLeDiff, Nat.reduceLT, List.contains_nil, it_l, it_t, it_r, ty_r, b_add, b_sub, b_mul, b_mod, b_fdiv, b_addt, b_addl, b_pow3, b_pow6, b_pow12, b_pow18, i_t, i_l, i_r, sl_t, sl_l, p_len_l, p_len_t, p_len_r, p_abs, p_int, p_intB, p_tup_l, p_tup_t, p_lst_l, p_lst_t, p_sum_l, p_sum_t, p_sum_r, p_all, p_any, p_max2, p_min2, isNon, nolistR, nolist, and_self, and_true, true_and, s_at_most k o r (h o ho)]
  have e : (rs.map fun o => PyData.bool (atMost o r)) = (rs.map fun o => atMost o r).map .bool := by rw [List.map_map]; rfl
  rw [u_some_at_most]
  simp only [ev, R.rv, R.rvs, R.dsk, R.bnd, testR, partR, rd, rds, fz, fzs, nrm, optR, keepS, storable, tru, isD, tyN, Ty.sub, List.any_cons, List.any_nil, List.all_cons, List.all_nil, doCall, mkArgs, lent, isOwnS, noDup, putOuts, argsFit, endF, outsF, startF, bindT, bindTs, List.getElem?_cons_zero, List.getElem?_cons_succ, List.getElem?_nil, List.map_cons, List.map_nil, List.length_cons, List.length_nil, List.replicate, List.cons_append, List.nil_append, List.set_cons_zero, List.set_cons_succ, Option.bind, Option.map, Bool.and_true, Bool.true_and, Bool.and_false, Bool.false_and, Bool.or_true, Bool.true_or, Bool.or_false, Bool.false_or, Bool.not_true, Bool.not_false, Bool.not_not, if_true, if_false, Bool.false_eq_true, reduceIte, reduceCtorEq, decide_true, decide_false, List.isEmpty_nil, List.isEmpty_cons, beq_self_eq_true, Nat.reduceAdd, Nat.reduceSub, Nat.reduceLeDiff, Nat.reduceLT, List.contains_nil, it_l, it_t, it_r, ty_r, b_add, b_sub, b_mul, b_mod, b_fdiv, b_addt, b_addl, b_pow3, b_pow6, b_pow12, b_pow18, i_t, i_l, i_r, sl_t, sl_l, p_len_l, p_len_t, p_len_r, p_abs, p_int, p_intB, p_tup_l, p_tup_t, p_lst_l, p_lst_t, p_sum_l, p_sum_t, p_sum_r, p_all, p_any, p_max2, p_min2, isNon, nolistR, nolist, and_self, and_true, true_and, f_some_at_most, hc, e, boolsOf_map, List.any_map, Function.comp_def, id]
/-! ### least_of -/
abbrev leastF (found : List (List Int)) (row : List Int) : List (List Int) := if found.any (fun o => atMost o row) = true then found else found ++ [row]
abbrev leastL (rs : List (List Int)) : List (List Int) := (sortU rs).foldl leastF []
theorem s_least (rs : List (List Int)) (kd : Bool) (d : Nat) (hd : 1 ≤ d) (hd2 : d ≤ 1000) (hl : rs.length < 64) (h : ∀ r ∈ rs, r.length = d ∧ ∀ x ∈ r, 0 ≤ x) (hs : (sortU rs).length ≤ 1000) : runF tb (k+3) "least_of" [.d (if kd = true then .tuple (rs.map rowD) else .list (rs.map rowD))] = .ok (.v (.tuple ((leastL rs).map rowD))) [] := by
  have ev1 : evenRows rs = true := by
    cases rs with
    | nil => rfl
    | cons r t =>
      simp only [evenRows, Bool.and_eq_true, decide_eq_true_eq, List.all_eq_true]
      exact ⟨by rw [(h r List.mem_cons_self).1]; exact hd, fun q hq => ⟨by rw [(h q hq).1, (h r List.mem_cons_self).1], (h q hq).2⟩⟩
  have e1 : sortSetD (if kd = true then .tuple (rs.map rowD) else .list (rs.map rowD)) = some ((sortU rs).map rowD) := by
    have : itemsOf (if kd = true then .tuple (rs.map rowD) else .list (rs.map rowD)) = some (rs.map rowD) := by cases kd <;> rfl
    unfold sortSetD
    rw [this]
    show (rowsI _).bind _ = _
    rw [rowsI_map]
    show (if _ then _ else none) = _
    rw [if_pos ⟨hl, ev1⟩]
  generalize hX : (if kd = true then PyData.tuple (rs.map rowD) else .list (rs.map rowD)) = X at e1
  have mem := (sortU_ok (rs := rs) (d := d) fun r hr => (h r hr).1).2
  have fs : ∀ e, ev (runF tb (k+2)) l_least_of_0 e = (ev (runF tb (k+2)) (.sSeq (.sortSet (.var 0))) e).dsk fun items e1 => fLoop (fun d e2 => match bindT (.tN 2) d e2 with
    | some e3 => ev (runF tb (k+2)) (.seq (.ifS (.notT (.call "some_at_most" [false, false] (.cons (.var 1) (.cons (.var 2) .nil)))) (.seq (.app 1 (.var 2)) .done) .done) .done) e3
    | none => .bad) items e1 := fun _ => rfl
  have loop := fLoop_st (enc := rowD) (step := fun dd e2 => match bindT (.tN 2) dd e2 with
    | some e3 => ev (runF tb (k+2)) (.seq (.ifS (.notT (.call "some_at_most" [false, false] (.cons (.var 1) (.cons (.var 2) .nil)))) (.seq (.app 1 (.var 2)) .done) .done) .done) e3
    | none => .bad) (fun b s => [.val X, .own false (b.map rowD), sl s]) leastF (fun n b => b.length ≤ n ∧ ∀ r ∈ b, r.length = d) 1000 (sortU rs) 0 [] none (by omega) ⟨Nat.le_refl _, fun _ z => nomatch z⟩ fun n b x s hn hx hI => by
      have hxd := (h x ((mem x).mp hx)).1
      refine ⟨?_, ?_⟩
      · unfold leastF
        split
        · exact ⟨by omega, hI.2⟩
        · refine ⟨by rw [List.length_append, List.length_singleton]; omega, fun r hr => ?_⟩
          rcases List.mem_append.mp hr with hr | hr
          · exact hI.2 r hr
          · rw [List.mem_singleton.mp hr]; exact hxd
      · have sm := s_some k b x false (by omega) (fun y hy => by rw [hI.2 y hy]; omega)
        rw [if_neg Bool.false_ne_true] at sm
        have slc : sl s = .no ∨ ∃ d, sl s = .val d := by cases s <;> simp [sl]
        rcases slc with slc | ⟨d0, slc⟩ <;>
        (rw [slc]
         simp only [ev, R.rv, R.rvs, R.dsk, R.bnd, testR, partR, rd, rds, fz, fzs, nrm, optR, keepS, storable, tru, isD, tyN, Ty.sub, List.any_cons, List.any_nil, List.all_cons, List.all_nil, doCall, mkArgs, lent, isOwnS, noDup, putOuts, argsFit, endF, outsF, startF, bindT, bindTs, List.getElem?_cons_zero, List.getElem?_cons_succ, List.getElem?_nil, List.map_cons, List.map_nil, List.length_cons, List.length_nil, List.replicate, List.cons_append, List.nil_append, List.set_cons_zero, List.set_cons_succ, Option.bind, Option.map, Bool.and_true, Bool.true_and, Bool.and_false, Bool.false_and, Bool.or_true, Bool.true_or, Bool.or_false, Bool.false_or, Bool.not_true, Bool.not_false, Bool.not_not, if_true, if_false, Bool.false_eq_true, reduceIte, reduceCtorEq, decide_true, decide_false, List.isEmpty_nil, List.isEmpty_cons, beq_self_eq_true, Nat.reduceAdd, Nat.reduceSub, Nat.reduceLeDiff, Nat.reduceLT, List.contains_nil, it_l, it_t, it_r, ty_r, b_add, b_sub, b_mul, b_mod, b_fdiv, b_addt, b_addl, b_pow3, b_pow6, b_pow12, b_pow18, i_t, i_l, i_r, sl_t, sl_l, p_len_l, p_len_t, p_len_r, p_abs, p_int, p_intB, p_tup_l, p_tup_t, p_lst_l, p_lst_t, p_sum_l, p_sum_t, p_sum_r, p_all, p_any, p_max2, p_min2, isNon, nolistR, nolist, and_self, and_true, true_and, sm, sl]
         by_cases q : b.any (fun o => atMost o x) = true
         · simp only [ev, R.rv, R.rvs, R.dsk, R.bnd, testR, partR, rd, rds, fz, fzs, nrm, optR, keepS, storable, tru, isD, tyN, Ty.sub, List.any_cons, List.any_nil, List.all_cons, List.all_nil, doCall, mkArgs, lent, isOwnS, noDup, putOuts, argsFit, endF, outsF, startF, bindT, bindTs, List.getElem?_cons_zero, List.getElem?_cons_succ, List.getElem?_nil, List.map_cons, List.map_nil, List.length_cons, List.length_nil, List.replicate, List.cons_append, List.nil_append, List.set_cons_zero, List.set_cons_succ, Option.bind, Option.map, Bool.and_true, Bool.true_and, Bool.and_false, Bool.false_and, Bool.or_true, Bool.true_or, Bool.or_false, Bool.false_or, Bool.not_true, Bool.not_false, Bool.not_not, if_true, if_false, Bool.false_eq_true, reduceIte, reduceCtorEq, decide_true, decide_false, List.isEmpty_nil, List.isEmpty_cons, beq_self_eq_true, Nat.reduceAdd, Nat.reduceSub, Nat.reduceLeDiff, Nat.reduceLT, List.contains_nil, it_l, it_t, it_r, ty_r, b_add, b_sub, b_mul, b_mod, b_fdiv, b_addt, b_addl, b_pow3, b_pow6, b_pow12, b_pow18, i_t, i_l, i_r, sl_t, sl_l, p_len_l, p_len_t, p_len_r, p_abs, p_int, p_intB, p_tup_l, p_tup_t, p_lst_l, p_lst_t, p_sum_l, p_sum_t, p_sum_r, p_all, p_any, p_max2, p_min2, isNon, nolistR, nolist, and_self, and_true, true_and, q, leastF]
         · have q' : b.any (fun o => atMost o x) = false := by simpa using q
           have hz : (b.map rowD).length < LINE := by rw [List.length_map]; unfold LINE; omega
           simp only [ev, R.rv, R.rvs, R.dsk, R.bnd, testR, partR, rd, rds, fz, fzs, nrm, optR, keepS, storable, tru, isD, tyN, Ty.sub, List.any_cons, List.any_nil, List.all_cons, List.all_nil, doCall, mkArgs, lent, isOwnS, noDup, putOuts, argsFit, endF, outsF, startF, bindT, bindTs, List.getElem?_cons_zero, List.getElem?_cons_succ, List.getElem?_nil, List.map_cons, List.map_nil, List.length_cons, List.length_nil, List.replicate, List.cons_append, List.nil_append, List.set_cons_zero, List.set_cons_succ, Option.bind, Option.map, Bool.and_true, Bool.true_and, Bool.and_false, Bool.false_and, Bool.or_true, Bool.true_or, Bool.or_false, Bool.false_or, Bool.not_true, Bool.not_false, Bool.not_not, if_true, if_false, Bool.false_eq_true, reduceIte, reduceCtorEq, decide_true, decide_false, List.isEmpty_nil, List.isEmpty_cons, beq_self_eq_true, Nat.reduceAdd, Nat.reduceSub, Nat.reduceLeDiff, Nat.reduceLT, List.contains_nil, it_l, it_t, it_r, ty_r, b_add, b_sub, b_mul, b_mod, b_fdiv, b_addt, b_addl, b_pow3, b_pow6, b_pow12, b_pow18, i_t, i_l, i_r, sl_t, sl_l, p_len_l, p_len_t, p_len_r, p_abs, p_int, p_intB, p_tup_l, p_tup_t, p_lst_l, p_lst_t, p_sum_l, p_sum_t, p_sum_r, p_all, p_any, p_max2, p_min2, isNon, nolistR, nolist, and_self, and_true, true_and, q', leastF, hz, List.map_append])
  obtain ⟨s', h1, _⟩ := loop
  have hs : ev (runF tb (k+2)) (.sSeq (.sortSet (.var 0))) [.val X, .own false [], .no] = .ok (.ds ((sortU rs).map rowD)) [.val X, .own false [], .no] := by simp only [ev, R.rv, R.rvs, R.dsk, R.bnd, testR, partR, rd, rds, fz, fzs, nrm, optR, keepS, storable, tru, isD, tyN, Ty.sub, List.any_cons, List.any_nil, List.all_cons, List.all_nil, doCall, mkArgs, lent, isOwnS, noDup, putOuts, argsFit, endF, outsF, startF, bindT, bindTs, List.getElem?_cons_zero, List.getElem?_cons_succ, List.getElem?_nil, List.map_cons, List.map_nil, List.length_cons, List.length_nil, List.replicate, List.cons_append, List.nil_append, List.set_cons_zero, List.set_cons_succ, Option.bind, Option.map, Bool.and_true, Bool.true_and, Bool.and_false, Bool.false_and, Bool.or_true, Bool.true_or, Bool.or_false, Bool.false_or, Bool.not_true, Bool.not_false, Bool.not_not, if_true, if_false, Bool.false_eq_true, reduceIte, reduceCtorEq, decide_true, decide_false, List.isEmpty_nil, List.isEmpty_cons, beq_self_eq_true, Nat.reduceAdd, Nat.reduceSub, Nat.reduceLeDiff, Nat.reduceLT, List.contains_nil, it_l, it_t, it_r, ty_r, b_add, b_sub, b_mul, b_mod, b_fdiv, b_addt, b_addl, b_pow3, b_pow6, b_pow12, b_pow18, i_t, i_l, i_r, sl_t, sl_l, p_len_l, p_len_t, p_len_r, p_abs, p_int, p_intB, p_tup_l, p_tup_t, p_lst_l, p_lst_t, p_sum_l, p_sum_t, p_sum_r, p_all, p_any, p_max2, p_min2, isNon, nolistR, nolist, and_self, and_true, true_and, e1]
  have hf : ev (runF tb (k+2)) l_least_of_0 [.val X, .own false [], .no] = .ok (.fl .nx) [.val X, .own false ((leastL rs).map rowD), sl s'] := by
    rw [fs, hs]
    exact h1
  rw [u_least_of]
  simp only [ev, R.rv, R.rvs, R.dsk, R.bnd, testR, partR, rd, rds, fz, fzs, nrm, optR, keepS, storable, tru, isD, tyN, Ty.sub, List.any_cons, List.any_nil, List.all_cons, List.all_nil, doCall, mkArgs, lent, isOwnS, noDup, putOuts, argsFit, endF, outsF, startF, bindT, bindTs, List.getElem?_cons_zero, List.getElem?_cons_succ, List.getElem?_nil, List.map_cons, List.map_nil, List.length_cons, List.length_nil, List.replicate, List.cons_append, List.nil_append, List.set_cons_zero, List.set_cons_succ, Option.bind, Option.map, Bool.and_true, Bool.true_and, Bool.and_false, Bool.false_and, Bool.or_true, Bool.true_or, Bool.or_false, Bool.false_or, Bool.not_true, Bool.not_false, Bool.not_not, if_true, if_false, Bool.false_eq_true, reduceIte, reduceCtorEq, decide_true, decide_false, List.isEmpty_nil, List.isEmpty_cons, beq_self_eq_true, Nat.reduceAdd, Nat.reduceSub, Nat.reduceLeDiff, Nat.reduceLT, List.contains_nil, it_l, it_t, it_r, ty_r, b_add, b_sub, b_mul, b_mod, b_fdiv, b_addt, b_addl, b_pow3, b_pow6, b_pow12, b_pow18, i_t, i_l, i_r, sl_t, sl_l, p_len_l, p_len_t, p_len_r, p_abs, p_int, p_intB, p_tup_l, p_tup_t, p_lst_l, p_lst_t, p_sum_l, p_sum_t, p_sum_r, p_all, p_any, p_max2, p_min2, isNon, nolistR, nolist, and_self, and_true, true_and, f_least_of, hf, Nat.zero_le]
/-! ### what the rows' defs answer -/
theorem rows2 (a b : List Int) : [rowD a, rowD b] = [a, b].map rowD := rfl
theorem look2 {a b : List Int} (h : a.length = b.length) : runF tb (k+1) "look_long" [.d (.tuple [rowD a, rowD b])] = .ok (.v .none) [] := s_look k (rs := [a, b]) (m := b.length) (by simp) (fun r hr => by
  rcases List.mem_cons.mp hr with rfl | hr
  · exact h
  · rw [List.mem_singleton.mp hr])
theorem two_line : (2 : Nat) ≤ LINE := by unfold LINE; omega
theorem s_row_sum {a b : List Int} (ha : Low a) (hb : Low b) (h : a.length = b.length) : runF tb (k+5) "row_sum" [.d (rowD a), .d (rowD b)] = .ok (.v (rowD (addR a b))) [] := by
  rw [u_row_sum]
  simp only [ev, R.rv, R.rvs, R.dsk, R.bnd, testR, partR, rd, rds, fz, fzs, nrm, optR, keepS, storable, tru, isD, tyN, Ty.sub, List.any_cons, List.any_nil, List.all_cons, List.all_nil, doCall, mkArgs, lent, isOwnS, noDup, putOuts, argsFit, endF, outsF, startF, bindT, bindTs, List.getElem?_cons_zero, List.getElem?_cons_succ, List.getElem?_nil, List.map_cons, List.map_nil, List.length_cons, List.length_nil, List.replicate, List.cons_append, List.nil_append, List.set_cons_zero, List.set_cons_succ, Option.bind, Option.map, Bool.and_true, Bool.true_and, Bool.and_false, Bool.false_and, Bool.or_true, Bool.true_or, Bool.or_false, Bool.false_or, Bool.not_true, Bool.not_false, Bool.not_not, if_true, if_false, Bool.false_eq_true, reduceIte, reduceCtorEq, decide_true, decide_false, List.isEmpty_nil, List.isEmpty_cons, beq_self_eq_true, Nat.reduceAdd, Nat.reduceSub, Nat.reduceLeDiff, Nat.reduceLT, List.contains_nil, it_l, it_t, it_r, ty_r, b_add, b_sub, b_mul, b_mod, b_fdiv, b_addt, b_addl, b_pow3, b_pow6, b_pow12, b_pow18, i_t, i_l, i_r, sl_t, sl_l, p_len_l, p_len_t, p_len_r, p_abs, p_int, p_intB, p_tup_l, p_tup_t, p_lst_l, p_lst_t, p_sum_l, p_sum_t, p_sum_r, p_all, p_any, p_max2, p_min2, isNon, nolistR, nolist, and_self, and_true, true_and, f_row_sum, s_sure_row k ha, s_sure_row k hb, look2 (k+3) h, s_added (k+3) a b (by omega), two_line]
theorem s_is_at_most {a b : List Int} (ha : Low a) (hb : Low b) (h : a.length = b.length) : runF tb (k+5) "is_at_most" [.d (rowD a), .d (rowD b)] = .ok (.v (.bool (atMost a b))) [] := by
  rw [u_is_at_most]
  simp only [ev, R.rv, R.rvs, R.dsk, R.bnd, testR, partR, rd, rds, fz, fzs, nrm, optR, keepS, storable, tru, isD, tyN, Ty.sub, List.any_cons, List.any_nil, List.all_cons, List.all_nil, doCall, mkArgs, lent, isOwnS, noDup, putOuts, argsFit, endF, outsF, startF, bindT, bindTs, List.getElem?_cons_zero, List.getElem?_cons_succ, List.getElem?_nil, List.map_cons, List.map_nil, List.length_cons, List.length_nil, List.replicate, List.cons_append, List.nil_append, List.set_cons_zero, List.set_cons_succ, Option.bind, Option.map, Bool.and_true, Bool.true_and, Bool.and_false, Bool.false_and, Bool.or_true, Bool.true_or, Bool.or_false, Bool.false_or, Bool.not_true, Bool.not_false, Bool.not_not, if_true, if_false, Bool.false_eq_true, reduceIte, reduceCtorEq, decide_true, decide_false, List.isEmpty_nil, List.isEmpty_cons, beq_self_eq_true, Nat.reduceAdd, Nat.reduceSub, Nat.reduceLeDiff, Nat.reduceLT, List.contains_nil, it_l, it_t, it_r, ty_r, b_add, b_sub, b_mul, b_mod, b_fdiv, b_addt, b_addl, b_pow3, b_pow6, b_pow12, b_pow18, i_t, i_l, i_r, sl_t, sl_l, p_len_l, p_len_t, p_len_r, p_abs, p_int, p_intB, p_tup_l, p_tup_t, p_lst_l, p_lst_t, p_sum_l, p_sum_t, p_sum_r, p_all, p_any, p_max2, p_min2, isNon, nolistR, nolist, and_self, and_true, true_and, f_is_at_most, s_sure_row k ha, s_sure_row k hb, look2 (k+3) h, s_at_most (k+3) a b (by omega), two_line]
theorem s_is_below {a b : List Int} (ha : Low a) (hb : Low b) (h : a.length = b.length) : runF tb (k+5) "is_below" [.d (rowD a), .d (rowD b)] = .ok (.v (.bool (atMost a b && !decide (a = b)))) [] := by
  rw [u_is_below]
  by_cases q : atMost a b = true
  · simp only [ev, R.rv, R.rvs, R.dsk, R.bnd, testR, partR, rd, rds, fz, fzs, nrm, optR, keepS, storable, tru, isD, tyN, Ty.sub, List.any_cons, List.any_nil, List.all_cons, List.all_nil, doCall, mkArgs, lent, isOwnS, noDup, putOuts, argsFit, endF, outsF, startF, bindT, bindTs, List.getElem?_cons_zero, List.getElem?_cons_succ, List.getElem?_nil, List.map_cons, List.map_nil, List.length_cons, List.length_nil, List.replicate, List.cons_append, List.nil_append, List.set_cons_zero, List.set_cons_succ, Option.bind, Option.map, Bool.and_true, Bool.true_and, Bool.and_false, Bool.false_and, Bool.or_true, Bool.true_or, Bool.or_false, Bool.false_or, Bool.not_true, Bool.not_false, Bool.not_not, if_true, if_false, Bool.false_eq_true, reduceIte, reduceCtorEq, decide_true, decide_false, List.isEmpty_nil, List.isEmpty_cons, beq_self_eq_true, Nat.reduceAdd, Nat.reduceSub, Nat.reduceLeDiff, Nat.reduceLT, List.contains_nil, it_l, it_t, it_r, ty_r, b_add, b_sub, b_mul, b_mod, b_fdiv, b_addt, b_addl, b_pow3, b_pow6, b_pow12, b_pow18, i_t, i_l, i_r, sl_t, sl_l, p_len_l, p_len_t, p_len_r, p_abs, p_int, p_intB, p_tup_l, p_tup_t, p_lst_l, p_lst_t, p_sum_l, p_sum_t, p_sum_r, p_all, p_any, p_max2, p_min2, isNon, nolistR, nolist, and_self, and_true, true_and, f_is_below, s_sure_row k ha, s_sure_row k hb, look2 (k+3) h, s_at_most (k+3) a b (by omega), two_line, q, ne_row]
  · have q : atMost a b = false := by simpa using q
    simp only [ev, R.rv, R.rvs, R.dsk, R.bnd, testR, partR, rd, rds, fz, fzs, nrm, optR, keepS, storable, tru, isD, tyN, Ty.sub, List.any_cons, List.any_nil, List.all_cons, List.all_nil, doCall, mkArgs, lent, isOwnS, noDup, putOuts, argsFit, endF, outsF, startF, bindT, bindTs, List.getElem?_cons_zero, List.getElem?_cons_succ, List.getElem?_nil, List.map_cons, List.map_nil, List.length_cons, List.length_nil, List.replicate, List.cons_append, List.nil_append, List.set_cons_zero, List.set_cons_succ, Option.bind, Option.map, Bool.and_true, Bool.true_and, Bool.and_false, Bool.false_and, Bool.or_true, Bool.true_or, Bool.or_false, Bool.false_or, Bool.not_true, Bool.not_false, Bool.not_not, if_true, if_false, Bool.false_eq_true, reduceIte, reduceCtorEq, decide_true, decide_false, List.isEmpty_nil, List.isEmpty_cons, beq_self_eq_true, Nat.reduceAdd, Nat.reduceSub, Nat.reduceLeDiff, Nat.reduceLT, List.contains_nil, it_l, it_t, it_r, ty_r, b_add, b_sub, b_mul, b_mod, b_fdiv, b_addt, b_addl, b_pow3, b_pow6, b_pow12, b_pow18, i_t, i_l, i_r, sl_t, sl_l, p_len_l, p_len_t, p_len_r, p_abs, p_int, p_intB, p_tup_l, p_tup_t, p_lst_l, p_lst_t, p_sum_l, p_sum_t, p_sum_r, p_all, p_any, p_max2, p_min2, isNon, nolistR, nolist, and_self, and_true, true_and, f_is_below, s_sure_row k ha, s_sure_row k hb, look2 (k+3) h, s_at_most (k+3) a b (by omega), two_line, q, ne_row]
theorem low_nn {r : List Int} (h : Low r) : ∀ x ∈ r, 0 ≤ x := fun x hx => by
  have := List.all_eq_true.mp h.2 x hx
  simp only [Bool.and_eq_true, decide_eq_true_eq] at this
  exact this.1
theorem s_least_rows {rs : List (List Int)} {m : Nat} (hm : 1 ≤ m) (hl : rs.length ≤ 40) (h : ∀ r ∈ rs, Low r) (h' : ∀ r ∈ rs, r.length = m) (hm5 : m ≤ 5) (hs : (sortU rs).length ≤ 1000) : runF tb (k+5) "least_rows" [.d (.tuple (rs.map rowD))] = .ok (.v (.tuple ((leastL rs).map rowD))) [] := by
  have q := s_least (k+1) rs true m hm (by omega) (by omega) (fun r hr => ⟨h' r hr, low_nn (h r hr)⟩) hs
  rw [if_pos rfl] at q
  rw [u_least_rows]
  simp only [ev, R.rv, R.rvs, R.dsk, R.bnd, testR, partR, rd, rds, fz, fzs, nrm, optR, keepS, storable, tru, isD, tyN, Ty.sub, List.any_cons, List.any_nil, List.all_cons, List.all_nil, doCall, mkArgs, lent, isOwnS, noDup, putOuts, argsFit, endF, outsF, startF, bindT, bindTs, List.getElem?_cons_zero, List.getElem?_cons_succ, List.getElem?_nil, List.map_cons, List.map_nil, List.length_cons, List.length_nil, List.replicate, List.cons_append, List.nil_append, List.set_cons_zero, List.set_cons_succ, Option.bind, Option.map, Bool.and_true, Bool.true_and, Bool.and_false, Bool.false_and, Bool.or_true, Bool.true_or, Bool.or_false, Bool.false_or, Bool.not_true, Bool.not_false, Bool.not_not, if_true, if_false, Bool.false_eq_true, reduceIte, reduceCtorEq, decide_true, decide_false, List.isEmpty_nil, List.isEmpty_cons, beq_self_eq_true, Nat.reduceAdd, Nat.reduceSub, Nat.reduceLeDiff, Nat.reduceLT, List.contains_nil, it_l, it_t, it_r, ty_r, b_add, b_sub, b_mul, b_mod, b_fdiv, b_addt, b_addl, b_pow3, b_pow6, b_pow12, b_pow18, i_t, i_l, i_r, sl_t, sl_l, p_len_l, p_len_t, p_len_r, p_abs, p_int, p_intB, p_tup_l, p_tup_t, p_lst_l, p_lst_t, p_sum_l, p_sum_t, p_sum_r, p_all, p_any, p_max2, p_min2, isNon, nolistR, nolist, and_self, and_true, true_and, f_least_rows, s_sure_rows k hl h, s_look (k+3) (rs := rs) (by omega) h', q]
theorem app_rows (rs qs : List (List Int)) : rs.map rowD ++ qs.map rowD = (rs ++ qs).map rowD := (List.map_append ..).symm
theorem s_reaches {rs : List (List Int)} {r : List Int} (hl : rs.length ≤ 40) (h : ∀ x ∈ rs, Low x) (hr : Low r) (h' : ∀ x ∈ rs, x.length = r.length) : runF tb (k+5) "reaches" [.d (.tuple (rs.map rowD)), .d (rowD r)] = .ok (.v (.bool (rs.any fun o => atMost o r))) [] := by
  have q := s_some (k+2) rs r true (by omega) (fun x hx => by have := (h x hx).1; omega)
  rw [if_pos rfl] at q
  have lk := s_look (k+3) (rs := rs ++ [r]) (m := r.length) (by rw [List.length_append, List.length_singleton]; omega) (fun x hx => by
    rcases List.mem_append.mp hx with hx | hx
    · exact h' x hx
    · rw [List.mem_singleton.mp hx])
  have e : rs.map rowD ++ [rowD r] = (rs ++ [r]).map rowD := by rw [List.map_append]; rfl
  have hz : (rs.map rowD).length + 1 ≤ LINE := by rw [List.length_map]; unfold LINE; omega
  have h1 : (1 : Nat) ≤ LINE := by unfold LINE; omega
  rw [u_reaches]
  simp only [ev, R.rv, R.rvs, R.dsk, R.bnd, testR, partR, rd, rds, fz, fzs, nrm, optR, keepS, storable, tru, isD, tyN, Ty.sub, List.any_cons, List.any_nil, List.all_cons, List.all_nil, doCall, mkArgs, lent, isOwnS, noDup, putOuts, argsFit, endF, outsF, startF, bindT, bindTs, List.getElem?_cons_zero, List.getElem?_cons_succ, List.getElem?_nil, List.map_cons, List.map_nil, List.length_cons, List.length_nil, List.replicate, List.cons_append, List.nil_append, List.set_cons_zero, List.set_cons_succ, Option.bind, Option.map, Bool.and_true, Bool.true_and, Bool.and_false, Bool.false_and, Bool.or_true, Bool.true_or, Bool.or_false, Bool.false_or, Bool.not_true, Bool.not_false, Bool.not_not, if_true, if_false, Bool.false_eq_true, reduceIte, reduceCtorEq, decide_true, decide_false, List.isEmpty_nil, List.isEmpty_cons, beq_self_eq_true, Nat.reduceAdd, Nat.reduceSub, Nat.reduceLeDiff, Nat.reduceLT, List.contains_nil, it_l, it_t, it_r, ty_r, b_add, b_sub, b_mul, b_mod, b_fdiv, b_addt, b_addl, b_pow3, b_pow6, b_pow12, b_pow18, i_t, i_l, i_r, sl_t, sl_l, p_len_l, p_len_t, p_len_r, p_abs, p_int, p_intB, p_tup_l, p_tup_t, p_lst_l, p_lst_t, p_sum_l, p_sum_t, p_sum_r, p_all, p_any, p_max2, p_min2, isNon, nolistR, nolist, and_self, and_true, true_and, f_reaches, s_sure_rows k hl h, s_sure_row k hr, hz, h1, e, lk, q]
theorem one_line : (1 : Nat) ≤ LINE := by unfold LINE; omega
theorem s_sums1 {a b : List Int} (ha : Low a) (hb : Low b) (h : a.length = b.length) (h1 : 1 ≤ a.length) : runF tb (k+5) "sums_of" [.d (.tuple [rowD a]), .d (.tuple [rowD b])] = .ok (.v (.tuple [rowD (addR a b)])) [] := by
  have sa : runF tb (k+4) "sure_rows" [.d (.tuple [rowD a])] = .ok (.v (.tuple [rowD a])) [] := s_sure_rows k (rs := [a]) (by simp) (fun r hr => by rw [List.mem_singleton.mp hr]; exact ha)
  have sb : runF tb (k+4) "sure_rows" [.d (.tuple [rowD b])] = .ok (.v (.tuple [rowD b])) [] := s_sure_rows k (rs := [b]) (by simp) (fun r hr => by rw [List.mem_singleton.mp hr]; exact hb)
  have len : (addR a b).length = a.length := addRow_len a b h
  have q : runF tb (k+4) "least_of" [.d (.list [rowD (addR a b)])] = .ok (.v (.tuple [rowD (addR a b)])) [] := s_least (k+1) [addR a b] false a.length h1 (by omega) (by simp) (fun r hr => by
    rw [List.mem_singleton.mp hr]
    refine ⟨len, fun x hx => ?_⟩
    obtain ⟨p, hp, rfl⟩ := List.mem_map.mp hx
    have := low_nn ha p.1 (List.of_mem_zip hp).1
    have := low_nn hb p.2 (List.of_mem_zip hp).2
    omega) (by show (1 : Nat) ≤ 1000; omega)
  have hc : ev (runF tb (k+4)) c_sums_of_0 [.val (.tuple [rowD a]), .val (.tuple [rowD b]), .val (.tuple [rowD a]), .val (.tuple [rowD b]), .no, .no] = .ok (.rv (.o [rowD (addR a b)])) [.val (.tuple [rowD a]), .val (.tuple [rowD b]), .val (.tuple [rowD a]), .val (.tuple [rowD b]), .no, .no] := by
    have z : (0 : Nat) < LINE := by unfold LINE; omega
    simp only [ev, R.rv, R.rvs, R.dsk, R.bnd, testR, partR, rd, rds, fz, fzs, nrm, optR, keepS, storable, tru, isD, tyN, Ty.sub, List.any_cons, List.any_nil, List.all_cons, List.all_nil, doCall, mkArgs, lent, isOwnS, noDup, putOuts, argsFit, endF, outsF, startF, bindT, bindTs, List.getElem?_cons_zero, List.getElem?_cons_succ, List.getElem?_nil, List.map_cons, List.map_nil, List.length_cons, List.length_nil, List.replicate, List.cons_append, List.nil_append, List.set_cons_zero, List.set_cons_succ, Option.bind, Option.map, Bool.and_true, Bool.true_and, Bool.and_false, Bool.false_and, Bool.or_true, Bool.true_or, Bool.or_false, Bool.false_or, Bool.not_true, Bool.not_false, Bool.not_not, if_true, if_false, Bool.false_eq_true, reduceIte, reduceCtorEq, decide_true, decide_false, List.isEmpty_nil, List.isEmpty_cons, beq_self_eq_true, Nat.reduceAdd, Nat.reduceSub, Nat.reduceLeDiff, Nat.reduceLT, List.contains_nil, it_l, it_t, it_r, ty_r, b_add, b_sub, b_mul, b_mod, b_fdiv, b_addt, b_addl, b_pow3, b_pow6, b_pow12, b_pow18, i_t, i_l, i_r, sl_t, sl_l, p_len_l, p_len_t, p_len_r, p_abs, p_int, p_intB, p_tup_l, p_tup_t, p_lst_l, p_lst_t, p_sum_l, p_sum_t, p_sum_r, p_all, p_any, p_max2, p_min2, isNon, nolistR, nolist, and_self, and_true, true_and, c_sums_of_0, cLoop, pushE, wipeS, backS, s_added (k+3) a b (by omega), List.getD_cons_zero, List.getD_cons_succ, z]
  rw [u_sums_of]
  simp only [ev, R.rv, R.rvs, R.dsk, R.bnd, testR, partR, rd, rds, fz, fzs, nrm, optR, keepS, storable, tru, isD, tyN, Ty.sub, List.any_cons, List.any_nil, List.all_cons, List.all_nil, doCall, mkArgs, lent, isOwnS, noDup, putOuts, argsFit, endF, outsF, startF, bindT, bindTs, List.getElem?_cons_zero, List.getElem?_cons_succ, List.getElem?_nil, List.map_cons, List.map_nil, List.length_cons, List.length_nil, List.replicate, List.cons_append, List.nil_append, List.set_cons_zero, List.set_cons_succ, Option.bind, Option.map, Bool.and_true, Bool.true_and, Bool.and_false, Bool.false_and, Bool.or_true, Bool.true_or, Bool.or_false, Bool.false_or, Bool.not_true, Bool.not_false, Bool.not_not, if_true, if_false, Bool.false_eq_true, reduceIte, reduceCtorEq, decide_true, decide_false, List.isEmpty_nil, List.isEmpty_cons, beq_self_eq_true, Nat.reduceAdd, Nat.reduceSub, Nat.reduceLeDiff, Nat.reduceLT, List.contains_nil, it_l, it_t, it_r, ty_r, b_add, b_sub, b_mul, b_mod, b_fdiv, b_addt, b_addl, b_pow3, b_pow6, b_pow12, b_pow18, i_t, i_l, i_r, sl_t, sl_l, p_len_l, p_len_t, p_len_r, p_abs, p_int, p_intB, p_tup_l, p_tup_t, p_lst_l, p_lst_t, p_sum_l, p_sum_t, p_sum_r, p_all, p_any, p_max2, p_min2, isNon, nolistR, nolist, and_self, and_true, true_and, f_sums_of, sa, sb, look2 (k+3) h, one_line, two_line, hc, q]
abbrev maxR (a b : List Int) : List Int := (a.zip b).map fun p => if p.2 > p.1 then p.2 else p.1
theorem s_met1 {a b : List Int} (ha : Low a) (hb : Low b) (h : a.length = b.length) (h1 : 1 ≤ a.length) : runF tb (k+5) "met" [.d (.tuple [rowD a]), .d (.tuple [rowD b])] = .ok (.v (.tuple [rowD (maxR a b)])) [] := by
  have sa : runF tb (k+4) "sure_rows" [.d (.tuple [rowD a])] = .ok (.v (.tuple [rowD a])) [] := s_sure_rows k (rs := [a]) (by simp) (fun r hr => by rw [List.mem_singleton.mp hr]; exact ha)
  have sb : runF tb (k+4) "sure_rows" [.d (.tuple [rowD b])] = .ok (.v (.tuple [rowD b])) [] := s_sure_rows k (rs := [b]) (by simp) (fun r hr => by rw [List.mem_singleton.mp hr]; exact hb)
  have len : (maxR a b).length = a.length := by rw [List.length_map, List.length_zip]; omega
  have q : runF tb (k+4) "least_of" [.d (.list [rowD (maxR a b)])] = .ok (.v (.tuple [rowD (maxR a b)])) [] := s_least (k+1) [maxR a b] false a.length h1 (by omega) (by simp) (fun r hr => by
    rw [List.mem_singleton.mp hr]
    refine ⟨len, fun x hx => ?_⟩
    obtain ⟨p, hp, rfl⟩ := List.mem_map.mp hx
    have := low_nn ha p.1 (List.of_mem_zip hp).1
    have := low_nn hb p.2 (List.of_mem_zip hp).2
    split <;> omega) (by show (1 : Nat) ≤ 1000; omega)
  have hl : (a.zip b).length ≤ LINE := by rw [List.length_zip]; unfold LINE; omega
  have hc : ∀ X Y s2, ev (runF tb (k+4)) c_met_0 [X, Y, s2, .val (rowD a), .val (.tuple [rowD a]), .val (.tuple [rowD b]), .val (rowD b), .no, .no] = .ok (.rv (.o ((maxR a b).map .int))) [X, Y, s2, .val (rowD a), .val (.tuple [rowD a]), .val (.tuple [rowD b]), .val (rowD b), .no, .no] := by
    intro X Y s2
    have := comp_map (cf := runF tb (k+4)) (elt := .prim .max2 (.cons (.var 7) (.cons (.var 8) .nil))) (tg := .tT (.cons (.tN 7) (.cons (.tN 8) .nil))) (src := .sZip (.var 3) (.var 6)) (own := [7, 8]) (e := [X, Y, s2, .val (rowD a), .val (.tuple [rowD a]), .val (.tuple [rowD b]), .val (rowD b), .no, .no]) (e1 := [X, Y, s2, .val (rowD a), .val (.tuple [rowD a]), .val (.tuple [rowD b]), .val (rowD b), .no, .no]) (xs := a.zip b)
      (fun p : Int × Int => .tuple [.int p.1, .int p.2]) (fun p => .int (if p.2 > p.1 then p.2 else p.1)) (by rw [← zipF_enc]; rfl) hl rfl fun p _ => ⟨[X, Y, s2, .val (rowD a), .val (.tuple [rowD a]), .val (.tuple [rowD b]), .val (rowD b), .val (.int p.1), .val (.int p.2)], .v (.int (if p.2 > p.1 then p.2 else p.1)), rfl, rfl, rfl, rfl⟩
    rw [List.map_map]
    exact this
  have hc1 : ev (runF tb (k+4)) c_met_1 [.val (.tuple [rowD a]), .val (.tuple [rowD b]), .own false [], .val (rowD a), .val (.tuple [rowD a]), .val (.tuple [rowD b]), .no, .no, .no] = .ok (.rv (.o [rowD (maxR a b)])) [.val (.tuple [rowD a]), .val (.tuple [rowD b]), .own false [], .val (rowD a), .val (.tuple [rowD a]), .val (.tuple [rowD b]), .no, .no, .no] := by
    have z : (0 : Nat) < LINE := by unfold LINE; omega
    simp only [ev, R.rv, R.rvs, R.dsk, R.bnd, testR, partR, rd, rds, fz, fzs, nrm, optR, keepS, storable, tru, isD, tyN, Ty.sub, List.any_cons, List.any_nil, List.all_cons, List.all_nil, doCall, mkArgs, lent, isOwnS, noDup, putOuts, argsFit, endF, outsF, startF, bindT, bindTs, List.getElem?_cons_zero, List.getElem?_cons_succ, List.getElem?_nil, List.map_cons, List.map_nil, List.length_cons, List.length_nil, List.replicate, List.cons_append, List.nil_append, List.set_cons_zero, List.set_cons_succ, Option.bind, Option.map, Bool.and_true, Bool.true_and, Bool.and_false, Bool.false_and, Bool.or_true, Bool.true_or, Bool.or_false, Bool.false_or, Bool.not_true, Bool.not_false, Bool.not_not, if_true, if_false, Bool.false_eq_true, reduceIte, reduceCtorEq, decide_true, decide_false, List.isEmpty_nil, List.isEmpty_cons, beq_self_eq_true, Nat.reduceAdd, Nat.reduceSub, Nat.reduceLeDiff, Nat.reduceLT, List.contains_nil, it_l, it_t, it_r, ty_r, b_add, b_sub, b_mul, b_mod, b_fdiv, b_addt, b_addl, b_pow3, b_pow6, b_pow12, b_pow18, i_t, i_l, i_r, sl_t, sl_l, p_len_l, p_len_t, p_len_r, p_abs, p_int, p_intB, p_tup_l, p_tup_t, p_lst_l, p_lst_t, p_sum_l, p_sum_t, p_sum_r, p_all, p_any, p_max2, p_min2, isNon, nolistR, nolist, and_self, and_true, true_and, c_met_1, cLoop, pushE, wipeS, backS, hc, List.getD_cons_zero, List.getD_cons_succ, z]
    rfl
  have hf : ev (runF tb (k+4)) l_met_0 [.val (.tuple [rowD a]), .val (.tuple [rowD b]), .own false [], .no, .val (.tuple [rowD a]), .val (.tuple [rowD b]), .no, .no, .no] = .ok (.fl .nx) [.val (.tuple [rowD a]), .val (.tuple [rowD b]), .own false [rowD (maxR a b)], .val (rowD a), .val (.tuple [rowD a]), .val (.tuple [rowD b]), .no, .no, .no] := by
    have z : (0 : Nat) + 1 ≤ LINE := by unfold LINE; omega
    simp only [ev, R.rv, R.rvs, R.dsk, R.bnd, testR, partR, rd, rds, fz, fzs, nrm, optR, keepS, storable, tru, isD, tyN, Ty.sub, List.any_cons, List.any_nil, List.all_cons, List.all_nil, doCall, mkArgs, lent, isOwnS, noDup, putOuts, argsFit, endF, outsF, startF, bindT, bindTs, List.getElem?_cons_zero, List.getElem?_cons_succ, List.getElem?_nil, List.map_cons, List.map_nil, List.length_cons, List.length_nil, List.replicate, List.cons_append, List.nil_append, List.set_cons_zero, List.set_cons_succ, Option.bind, Option.map, Bool.and_true, Bool.true_and, Bool.and_false, Bool.false_and, Bool.or_true, Bool.true_or, Bool.or_false, Bool.false_or, Bool.not_true, Bool.not_false, Bool.not_not, if_true, if_false, Bool.false_eq_true, reduceIte, reduceCtorEq, decide_true, decide_false, List.isEmpty_nil, List.isEmpty_cons, beq_self_eq_true, Nat.reduceAdd, Nat.reduceSub, Nat.reduceLeDiff, Nat.reduceLT, List.contains_nil, it_l, it_t, it_r, ty_r, b_add, b_sub, b_mul, b_mod, b_fdiv, b_addt, b_addl, b_pow3, b_pow6, b_pow12, b_pow18, i_t, i_l, i_r, sl_t, sl_l, p_len_l, p_len_t, p_len_r, p_abs, p_int, p_intB, p_tup_l, p_tup_t, p_lst_l, p_lst_t, p_sum_l, p_sum_t, p_sum_r, p_all, p_any, p_max2, p_min2, isNon, nolistR, nolist, and_self, and_true, true_and, l_met_0, fLoop, hc1, z, one_line]
  rw [u_met]
  simp only [ev, R.rv, R.rvs, R.dsk, R.bnd, testR, partR, rd, rds, fz, fzs, nrm, optR, keepS, storable, tru, isD, tyN, Ty.sub, List.any_cons, List.any_nil, List.all_cons, List.all_nil, doCall, mkArgs, lent, isOwnS, noDup, putOuts, argsFit, endF, outsF, startF, bindT, bindTs, List.getElem?_cons_zero, List.getElem?_cons_succ, List.getElem?_nil, List.map_cons, List.map_nil, List.length_cons, List.length_nil, List.replicate, List.cons_append, List.nil_append, List.set_cons_zero, List.set_cons_succ, Option.bind, Option.map, Bool.and_true, Bool.true_and, Bool.and_false, Bool.false_and, Bool.or_true, Bool.true_or, Bool.or_false, Bool.false_or, Bool.not_true, Bool.not_false, Bool.not_not, if_true, if_false, Bool.false_eq_true, reduceIte, reduceCtorEq, decide_true, decide_false, List.isEmpty_nil, List.isEmpty_cons, beq_self_eq_true, Nat.reduceAdd, Nat.reduceSub, Nat.reduceLeDiff, Nat.reduceLT, List.contains_nil, it_l, it_t, it_r, ty_r, b_add, b_sub, b_mul, b_mod, b_fdiv, b_addt, b_addl, b_pow3, b_pow6, b_pow12, b_pow18, i_t, i_l, i_r, sl_t, sl_l, p_len_l, p_len_t, p_len_r, p_abs, p_int, p_intB, p_tup_l, p_tup_t, p_lst_l, p_lst_t, p_sum_l, p_sum_t, p_sum_r, p_all, p_any, p_max2, p_min2, isNon, nolistR, nolist, and_self, and_true, true_and, f_met, sa, sb, look2 (k+3) h, one_line, two_line, hf, q, Nat.zero_le, nolists, nolist_row]
/-! ### prices -/
abbrev dot (p r : List Int) : Int := ((p.zip r).map fun q => q.1 * q.2).sum
theorem mul_ok {i j : Int} (h : 0 ≤ i ∧ i < 2 ^ 63) : mulOk i j = true := by
  unfold mulOk
  have h1 : -(2 ^ 64 : Int) < i := by omega
  have h2 : i < (2 ^ 64 : Int) := by omega
  rw [decide_eq_true h1, decide_eq_true h2]
  rfl
theorem s_price (p r : List Int) (hp : ∀ x ∈ p, 0 ≤ x ∧ x < 2 ^ 63) (hl : p.length ≤ 1000) : runF tb (k+1) "made_price" [.d (rowD p), .d (rowD r)] = .ok (.v (.int (dot p r))) [] := by
  have hc : ev (runF tb k) c_made_price_0 [.val (rowD p), .val (rowD r), .no, .no] = .ok (.rv (.o ((p.zip r).map fun q => .int (q.1 * q.2)))) [.val (rowD p), .val (rowD r), .no, .no] := by
    refine comp_map (fun p : Int × Int => .tuple [.int p.1, .int p.2]) (fun q => .int (q.1 * q.2)) (by rw [← zipF_enc]; rfl) (by rw [List.length_zip]; unfold LINE; omega) rfl fun q hq => ⟨[.val (rowD p), .val (rowD r), .val (.int q.1), .val (.int q.2)], .v (.int (q.1 * q.2)), rfl, rfl, ?_, rfl⟩
    simp only [ev, R.rv, R.rvs, R.dsk, R.bnd, testR, partR, rd, rds, fz, fzs, nrm, optR, keepS, storable, tru, isD, tyN, Ty.sub, List.any_cons, List.any_nil, List.all_cons, List.all_nil, doCall, mkArgs, lent, isOwnS, noDup, putOuts, argsFit, endF, outsF, startF, bindT, bindTs, List.getElem?_cons_zero, List.getElem?_cons_succ, List.getElem?_nil, List.map_cons, List.map_nil, List.length_cons, List.length_nil, List.replicate, List.cons_append, List.nil_append, List.set_cons_zero, List.set_cons_succ, Option.bind, Option.map, Bool.and_true, Bool.true_and, Bool.and_false, Bool.false_and, Bool.or_true, Bool.true_or, Bool.or_false, Bool.false_or, Bool.not_true, Bool.not_false, Bool.not_not, if_true, if_false, Bool.false_eq_true, reduceIte, reduceCtorEq, decide_true, decide_false, List.isEmpty_nil, List.isEmpty_cons, beq_self_eq_true, Nat.reduceAdd, Nat.reduceSub, Nat.reduceLeDiff, Nat.reduceLT, List.contains_nil, it_l, it_t, it_r, ty_r, b_add, b_sub, b_mul, b_mod, b_fdiv, b_addt, b_addl, b_pow3, b_pow6, b_pow12, b_pow18, i_t, i_l, i_r, sl_t, sl_l, p_len_l, p_len_t, p_len_r, p_abs, p_int, p_intB, p_tup_l, p_tup_t, p_lst_l, p_lst_t, p_sum_l, p_sum_t, p_sum_r, p_all, p_any, p_max2, p_min2, isNon, nolistR, nolist, and_self, and_true, true_and, mul_ok (hp q.1 (List.of_mem_zip hq).1)]
  have e : ((p.zip r).map fun q => PyData.int (q.1 * q.2)) = ((p.zip r).map fun q => q.1 * q.2).map .int := by rw [List.map_map]; rfl
  rw [u_made_price]
  simp only [ev, R.rv, R.rvs, R.dsk, R.bnd, testR, partR, rd, rds, fz, fzs, nrm, optR, keepS, storable, tru, isD, tyN, Ty.sub, List.any_cons, List.any_nil, List.all_cons, List.all_nil, doCall, mkArgs, lent, isOwnS, noDup, putOuts, argsFit, endF, outsF, startF, bindT, bindTs, List.getElem?_cons_zero, List.getElem?_cons_succ, List.getElem?_nil, List.map_cons, List.map_nil, List.length_cons, List.length_nil, List.replicate, List.cons_append, List.nil_append, List.set_cons_zero, List.set_cons_succ, Option.bind, Option.map, Bool.and_true, Bool.true_and, Bool.and_false, Bool.false_and, Bool.or_true, Bool.true_or, Bool.or_false, Bool.false_or, Bool.not_true, Bool.not_false, Bool.not_not, if_true, if_false, Bool.false_eq_true, reduceIte, reduceCtorEq, decide_true, decide_false, List.isEmpty_nil, List.isEmpty_cons, beq_self_eq_true, Nat.reduceAdd, Nat.reduceSub, Nat.reduceLeDiff, Nat.reduceLT, List.contains_nil, it_l, it_t, it_r, ty_r, b_add, b_sub, b_mul, b_mod, b_fdiv, b_addt, b_addl, b_pow3, b_pow6, b_pow12, b_pow18, i_t, i_l, i_r, sl_t, sl_l, p_len_l, p_len_t, p_len_r, p_abs, p_int, p_intB, p_tup_l, p_tup_t, p_lst_l, p_lst_t, p_sum_l, p_sum_t, p_sum_r, p_all, p_any, p_max2, p_min2, isNon, nolistR, nolist, and_self, and_true, true_and, f_made_price, hc, e, intsOf_map]
theorem low_63 {r : List Int} (h : Low r) : ∀ x ∈ r, 0 ≤ x ∧ x < 2 ^ 63 := fun x hx => by
  have := List.all_eq_true.mp h.2 x hx
  simp only [Bool.and_eq_true, decide_eq_true_eq] at this
  omega
theorem s_price_of {p r : List Int} (hp : Low p) (hr : Low r) (h : p.length = r.length) : runF tb (k+5) "price_of" [.d (rowD p), .d (rowD r)] = .ok (.v (.int (dot p r))) [] := by
  rw [u_price_of]
  simp only [ev, R.rv, R.rvs, R.dsk, R.bnd, testR, partR, rd, rds, fz, fzs, nrm, optR, keepS, storable, tru, isD, tyN, Ty.sub, List.any_cons, List.any_nil, List.all_cons, List.all_nil, doCall, mkArgs, lent, isOwnS, noDup, putOuts, argsFit, endF, outsF, startF, bindT, bindTs, List.getElem?_cons_zero, List.getElem?_cons_succ, List.getElem?_nil, List.map_cons, List.map_nil, List.length_cons, List.length_nil, List.replicate, List.cons_append, List.nil_append, List.set_cons_zero, List.set_cons_succ, Option.bind, Option.map, Bool.and_true, Bool.true_and, Bool.and_false, Bool.false_and, Bool.or_true, Bool.true_or, Bool.or_false, Bool.false_or, Bool.not_true, Bool.not_false, Bool.not_not, if_true, if_false, Bool.false_eq_true, reduceIte, reduceCtorEq, decide_true, decide_false, List.isEmpty_nil, List.isEmpty_cons, beq_self_eq_true, Nat.reduceAdd, Nat.reduceSub, Nat.reduceLeDiff, Nat.reduceLT, List.contains_nil, it_l, it_t, it_r, ty_r, b_add, b_sub, b_mul, b_mod, b_fdiv, b_addt, b_addl, b_pow3, b_pow6, b_pow12, b_pow18, i_t, i_l, i_r, sl_t, sl_l, p_len_l, p_len_t, p_len_r, p_abs, p_int, p_intB, p_tup_l, p_tup_t, p_lst_l, p_lst_t, p_sum_l, p_sum_t, p_sum_r, p_all, p_any, p_max2, p_min2, isNon, nolistR, nolist, and_self, and_true, true_and, f_price_of, s_sure_row k hp, s_sure_row k hr, look2 (k+3) h, s_price (k+3) p r (low_63 hp) (by omega), two_line]
theorem s_is_row {r : List Int} (m : Nat) (hm : m ≤ 5) (hr : r.length ≤ 1000) : runF tb (k+4) "is_row" [.d (rowD r), .d (.int m)] = .ok (.v (.bool (decide ((r.length : Int) = m) && r.all fun n => decide (0 ≤ n)))) [] := by
  have h0 : (0 : Int) ≤ m := by omega
  have h5 : (m : Int) ≤ 5 := by omega
  rw [u_is_row]
  simp only [ev, R.rv, R.rvs, R.dsk, R.bnd, testR, partR, rd, rds, fz, fzs, nrm, optR, keepS, storable, tru, isD, tyN, Ty.sub, List.any_cons, List.any_nil, List.all_cons, List.all_nil, doCall, mkArgs, lent, isOwnS, noDup, putOuts, argsFit, endF, outsF, startF, bindT, bindTs, List.getElem?_cons_zero, List.getElem?_cons_succ, List.getElem?_nil, List.map_cons, List.map_nil, List.length_cons, List.length_nil, List.replicate, List.cons_append, List.nil_append, List.set_cons_zero, List.set_cons_succ, Option.bind, Option.map, Bool.and_true, Bool.true_and, Bool.and_false, Bool.false_and, Bool.or_true, Bool.true_or, Bool.or_false, Bool.false_or, Bool.not_true, Bool.not_false, Bool.not_not, if_true, if_false, Bool.false_eq_true, reduceIte, reduceCtorEq, decide_true, decide_false, List.isEmpty_nil, List.isEmpty_cons, beq_self_eq_true, Nat.reduceAdd, Nat.reduceSub, Nat.reduceLeDiff, Nat.reduceLT, List.contains_nil, it_l, it_t, it_r, ty_r, b_add, b_sub, b_mul, b_mod, b_fdiv, b_addt, b_addl, b_pow3, b_pow6, b_pow12, b_pow18, i_t, i_l, i_r, sl_t, sl_l, p_len_l, p_len_t, p_len_r, p_abs, p_int, p_intB, p_tup_l, p_tup_t, p_lst_l, p_lst_t, p_sum_l, p_sum_t, p_sum_r, p_all, p_any, p_max2, p_min2, isNon, nolistR, nolist, and_self, and_true, true_and, f_is_row, s_between (k+1), h0, h5, s_sure (k+2), s_row_of k r m hr]
/-! ### hulls -/
abbrev Ent (r : List Int) : Prop := 1 ≤ r.length ∧ r.length ≤ 5 ∧ (r.all fun n => decide (0 ≤ n) && decide (n ≤ 1000)) = true
theorem s_entries {r : List Int} (h : Ent r) : runF tb (k+3) "are_entries" [.d (rowD r), .d (.int 1)] = .ok (.v (.bool true)) [] := by
  have hc : ev (runF tb (k+2)) c_are_entries_0 [.val (rowD r), .val (.int 1), .no] = .ok (.rv (.o (r.map fun n => .bool (decide (0 ≤ n) && decide (n ≤ 1000))))) [.val (rowD r), .val (.int 1), .no] := by
    refine comp_map .int (fun n => .bool (decide (0 ≤ n) && decide (n ≤ 1000))) rfl (by unfold LINE; omega) rfl fun n _ => ⟨[.val (rowD r), .val (.int 1), .val (.int n)], .v (.bool (decide (0 ≤ n) && decide (n ≤ 1000))), rfl, rfl, ?_, rfl⟩
    simp only [ev, R.rv, R.rvs, R.dsk, R.bnd, testR, partR, rd, rds, fz, fzs, nrm, optR, keepS, storable, tru, isD, tyN, Ty.sub, List.any_cons, List.any_nil, List.all_cons, List.all_nil, doCall, mkArgs, lent, isOwnS, noDup, putOuts, argsFit, endF, outsF, startF, bindT, bindTs, List.getElem?_cons_zero, List.getElem?_cons_succ, List.getElem?_nil, List.map_cons, List.map_nil, List.length_cons, List.length_nil, List.replicate, List.cons_append, List.nil_append, List.set_cons_zero, List.set_cons_succ, Option.bind, Option.map, Bool.and_true, Bool.true_and, Bool.and_false, Bool.false_and, Bool.or_true, Bool.true_or, Bool.or_false, Bool.false_or, Bool.not_true, Bool.not_false, Bool.not_not, if_true, if_false, Bool.false_eq_true, reduceIte, reduceCtorEq, decide_true, decide_false, List.isEmpty_nil, List.isEmpty_cons, beq_self_eq_true, Nat.reduceAdd, Nat.reduceSub, Nat.reduceLeDiff, Nat.reduceLT, List.contains_nil, it_l, it_t, it_r, ty_r, b_add, b_sub, b_mul, b_mod, b_fdiv, b_addt, b_addl, b_pow3, b_pow6, b_pow12, b_pow18, i_t, i_l, i_r, sl_t, sl_l, p_len_l, p_len_t, p_len_r, p_abs, p_int, p_intB, p_tup_l, p_tup_t, p_lst_l, p_lst_t, p_sum_l, p_sum_t, p_sum_r, p_all, p_any, p_max2, p_min2, isNon, nolistR, nolist, and_self, and_true, true_and, s_between]
  have e : (r.map fun n => PyData.bool (decide (0 ≤ n) && decide (n ≤ 1000))) = (r.map fun n => decide (0 ≤ n) && decide (n ≤ 1000)).map .bool := by rw [List.map_map]; rfl
  have h1 : (1 : Int) ≤ (r.length : Int) := by omega
  have h5 : (r.length : Int) ≤ 5 := by omega
  have h2 := h.2.2
  unfold rowD at hc ⊢
  rw [u_are_entries]
  simp only [ev, R.rv, R.rvs, R.dsk, R.bnd, testR, partR, rd, rds, fz, fzs, nrm, optR, keepS, storable, tru, isD, tyN, Ty.sub, List.any_cons, List.any_nil, List.all_cons, List.all_nil, doCall, mkArgs, lent, isOwnS, noDup, putOuts, argsFit, endF, outsF, startF, bindT, bindTs, List.getElem?_cons_zero, List.getElem?_cons_succ, List.getElem?_nil, List.map_cons, List.map_nil, List.length_cons, List.length_nil, List.replicate, List.cons_append, List.nil_append, List.set_cons_zero, List.set_cons_succ, Option.bind, Option.map, Bool.and_true, Bool.true_and, Bool.and_false, Bool.false_and, Bool.or_true, Bool.true_or, Bool.or_false, Bool.false_or, Bool.not_true, Bool.not_false, Bool.not_not, if_true, if_false, Bool.false_eq_true, reduceIte, reduceCtorEq, decide_true, decide_false, List.isEmpty_nil, List.isEmpty_cons, beq_self_eq_true, Nat.reduceAdd, Nat.reduceSub, Nat.reduceLeDiff, Nat.reduceLT, List.contains_nil, it_l, it_t, it_r, ty_r, b_add, b_sub, b_mul, b_mod, b_fdiv, b_addt, b_addl, b_pow3, b_pow6, b_pow12, b_pow18, i_t, i_l, i_r, sl_t, sl_l, p_len_l, p_len_t, p_len_r, p_abs, p_int, p_intB, p_tup_l, p_tup_t, p_lst_l, p_lst_t, p_sum_l, p_sum_t, p_sum_r, p_all, p_any, p_max2, p_min2, isNon, nolistR, nolist, and_self, and_true, true_and, f_are_entries, hc, e, boolsOf_map, len_row, c_le, h1, h5, List.all_map, Function.comp_def, id, h2]
theorem at_nat {α : Type} {xs : List α} {i : Nat} (h : i < xs.length) : atI xs (i : Int) = some xs[i] := by
  unfold atI ixN
  rw [if_pos (by omega), if_pos (by omega)]
  show xs[(i : Int).toNat]? = _
  rw [Int.toNat_natCast, List.getElem?_eq_getElem h]
theorem s_rising {rs : List (List Int)} {m : Nat} (h0 : 1 ≤ rs.length) (hl : rs.length ≤ 1000) (h : ∀ r ∈ rs, r.length = m) (hs : SortedU rs) : runF tb (k+1) "is_rising" [.d (.tuple (rs.map rowD))] = .ok (.v (.bool true)) [] := by
  have hc : ev (runF tb k) c_is_rising_0 [.val (.tuple (rs.map rowD)), .no] = .ok (.rv (.o ((List.range (rs.length - 1)).map fun _ => .bool true))) [.val (.tuple (rs.map rowD)), .no] := by
    refine comp_map (fun i : Nat => .int (0 + (i : Nat))) (fun _ => .bool true) ?_ (by rw [List.length_range]; unfold LINE; omega) rfl fun i hi => ?_
    · rw [← iota_enc]
      have e : (((rs.map rowD).length : Int) - 1).toNat = rs.length - 1 := by rw [List.length_map]; omega
      have b1 : -(2 ^ 62) ≤ ((rs.map rowD).length : Int) - 1 ∧ ((rs.map rowD).length : Int) - 1 < 2 ^ 62 := by rw [List.length_map]; omega
      simp only [ev, R.rv, R.rvs, R.dsk, R.bnd, testR, partR, rd, rds, fz, fzs, nrm, optR, keepS, storable, tru, isD, tyN, Ty.sub, List.any_cons, List.any_nil, List.all_cons, List.all_nil, doCall, mkArgs, lent, isOwnS, noDup, putOuts, argsFit, endF, outsF, startF, bindT, bindTs, List.getElem?_cons_zero, List.getElem?_cons_succ, List.getElem?_nil, List.map_cons, List.map_nil, List.length_cons, List.length_nil, List.replicate, List.cons_append, List.nil_append, List.set_cons_zero, List.set_cons_succ, Option.bind, Option.map, Bool.and_true, Bool.true_and, Bool.and_false, Bool.false_and, Bool.or_true, Bool.true_or, Bool.or_false, Bool.false_or, Bool.not_true, Bool.not_false, Bool.not_not, if_true, if_false, Bool.false_eq_true, reduceIte, reduceCtorEq, decide_true, decide_false, List.isEmpty_nil, List.isEmpty_cons, beq_self_eq_true, Nat.reduceAdd, Nat.reduceSub, Nat.reduceLeDiff, Nat.reduceLT, List.contains_nil, it_l, it_t, it_r, ty_r, b_add, b_sub, b_mul, b_mod, b_fdiv, b_addt, b_addl, b_pow3, b_pow6, b_pow12, b_pow18, i_t, i_l, i_r, sl_t, sl_l, p_len_l, p_len_t, p_len_r, p_abs, p_int, p_intB, p_tup_l, p_tup_t, p_lst_l, p_lst_t, p_sum_l, p_sum_t, p_sum_r, p_all, p_any, p_max2, p_min2, isNon, nolistR, nolist, and_self, and_true, true_and, b1, e]
    · have hi : i < rs.length - 1 := List.mem_range.mp hi
      have a1 : atI (rs.map rowD) ((0 : Int) + (i : Nat)) = some (rowD rs[i]) := by
        rw [Int.zero_add, at_nat (by rw [List.length_map]; omega), List.getElem_map]
      have a2 : atI (rs.map rowD) ((0 : Int) + (i : Nat) + 1) = some (rowD rs[i + 1]) := by
        rw [Int.zero_add, show (i : Int) + 1 = ((i + 1 : Nat) : Int) by omega, at_nat (by rw [List.length_map]; omega), List.getElem_map]
      have lt : ltL rs[i] rs[i + 1] = true := List.pairwise_iff_getElem.mp hs i (i + 1) (by omega) (by omega) (by omega)
      have le : rs[i].length = rs[i + 1].length := (h _ (List.getElem_mem _)).trans (h _ (List.getElem_mem _)).symm
      refine ⟨[.val (.tuple (rs.map rowD)), .val (.int (0 + (i : Nat)))], .v (.bool true), rfl, rfl, ?_, rfl⟩
      simp only [ev, R.rv, R.rvs, R.dsk, R.bnd, testR, partR, rd, rds, fz, fzs, nrm, optR, keepS, storable, tru, isD, tyN, Ty.sub, List.any_cons, List.any_nil, List.all_cons, List.all_nil, doCall, mkArgs, lent, isOwnS, noDup, putOuts, argsFit, endF, outsF, startF, bindT, bindTs, List.getElem?_cons_zero, List.getElem?_cons_succ, List.getElem?_nil, List.map_cons, List.map_nil, List.length_cons, List.length_nil, List.replicate, List.cons_append, List.nil_append, List.set_cons_zero, List.set_cons_succ, Option.bind, Option.map, Bool.and_true, Bool.true_and, Bool.and_false, Bool.false_and, Bool.or_true, Bool.true_or, Bool.or_false, Bool.false_or, Bool.not_true, Bool.not_false, Bool.not_not, if_true, if_false, Bool.false_eq_true, reduceIte, reduceCtorEq, decide_true, decide_false, List.isEmpty_nil, List.isEmpty_cons, beq_self_eq_true, Nat.reduceAdd, Nat.reduceSub, Nat.reduceLeDiff, Nat.reduceLT, List.contains_nil, it_l, it_t, it_r, ty_r, b_add, b_sub, b_mul, b_mod, b_fdiv, b_addt, b_addl, b_pow3, b_pow6, b_pow12, b_pow18, i_t, i_l, i_r, sl_t, sl_l, p_len_l, p_len_t, p_len_r, p_abs, p_int, p_intB, p_tup_l, p_tup_t, p_lst_l, p_lst_t, p_sum_l, p_sum_t, p_sum_r, p_all, p_any, p_max2, p_min2, isNon, nolistR, nolist, and_self, and_true, true_and, a1, a2, lt_row le, lt]
  have e : ((List.range (rs.length - 1)).map fun _ => PyData.bool true) = ((List.range (rs.length - 1)).map fun _ => true).map .bool := by rw [List.map_map]; rfl
  have ht : ((List.range (rs.length - 1)).map fun _ => true).all id = true := by rw [List.all_map]; exact List.all_eq_true.mpr fun _ _ => rfl
  rw [u_is_rising]
  simp only [ev, R.rv, R.rvs, R.dsk, R.bnd, testR, partR, rd, rds, fz, fzs, nrm, optR, keepS, storable, tru, isD, tyN, Ty.sub, List.any_cons, List.any_nil, List.all_cons, List.all_nil, doCall, mkArgs, lent, isOwnS, noDup, putOuts, argsFit, endF, outsF, startF, bindT, bindTs, List.getElem?_cons_zero, List.getElem?_cons_succ, List.getElem?_nil, List.map_cons, List.map_nil, List.length_cons, List.length_nil, List.replicate, List.cons_append, List.nil_append, List.set_cons_zero, List.set_cons_succ, Option.bind, Option.map, Bool.and_true, Bool.true_and, Bool.and_false, Bool.false_and, Bool.or_true, Bool.true_or, Bool.or_false, Bool.false_or, Bool.not_true, Bool.not_false, Bool.not_not, if_true, if_false, Bool.false_eq_true, reduceIte, reduceCtorEq, decide_true, decide_false, List.isEmpty_nil, List.isEmpty_cons, beq_self_eq_true, Nat.reduceAdd, Nat.reduceSub, Nat.reduceLeDiff, Nat.reduceLT, List.contains_nil, it_l, it_t, it_r, ty_r, b_add, b_sub, b_mul, b_mod, b_fdiv, b_addt, b_addl, b_pow3, b_pow6, b_pow12, b_pow18, i_t, i_l, i_r, sl_t, sl_l, p_len_l, p_len_t, p_len_r, p_abs, p_int, p_intB, p_tup_l, p_tup_t, p_lst_l, p_lst_t, p_sum_l, p_sum_t, p_sum_r, p_all, p_any, p_max2, p_min2, isNon, nolistR, nolist, and_self, and_true, true_and, f_is_rising, hc, e, boolsOf_map, ht]
/-- rows that a set may hold -/
structure Set40 (rs : List (List Int)) (m : Nat) : Prop where
  few : rs.length ≤ 40
  one : 1 ≤ rs.length
  ent : ∀ r ∈ rs, Ent r
  len : ∀ r ∈ rs, r.length = m
  srt : SortedU rs
theorem s_are_rows {rs : List (List Int)} {m : Nat} (h : Set40 rs m) : runF tb (k+4) "are_rows" [.d (.tuple (rs.map rowD)), .d (.int 1), .d (.int 40)] = .ok (.v (.bool true)) [] := by
  have hc : ev (runF tb (k+3)) c_are_rows_0 [.val (.tuple (rs.map rowD)), .val (.int 1), .val (.int 40), .no] = .ok (.rv (.o (rs.map fun _ => .bool true))) [.val (.tuple (rs.map rowD)), .val (.int 1), .val (.int 40), .no] := by
    refine comp_map rowD (fun _ => .bool true) rfl (by have := h.few; unfold LINE; omega) rfl fun r hr => ⟨[.val (.tuple (rs.map rowD)), .val (.int 1), .val (.int 40), .val (rowD r)], .v (.bool true), rfl, rfl, ?_, rfl⟩
    simp only [ev, R.rv, R.rvs, R.dsk, R.bnd, testR, partR, rd, rds, fz, fzs, nrm, optR, keepS, storable, tru, isD, tyN, Ty.sub, List.any_cons, List.any_nil, List.all_cons, List.all_nil, doCall, mkArgs, lent, isOwnS, noDup, putOuts, argsFit, endF, outsF, startF, bindT, bindTs, List.getElem?_cons_zero, List.getElem?_cons_succ, List.getElem?_nil, List.map_cons, List.map_nil, List.length_cons, List.length_nil, List.replicate, List.cons_append, List.nil_append, List.set_cons_zero, List.set_cons_succ, Option.bind, Option.map, Bool.and_true, Bool.true_and, Bool.and_false, Bool.false_and, Bool.or_true, Bool.true_or, Bool.or_false, Bool.false_or, Bool.not_true, Bool.not_false, Bool.not_not, if_true, if_false, Bool.false_eq_true, reduceIte, reduceCtorEq, decide_true, decide_false, List.isEmpty_nil, List.isEmpty_cons, beq_self_eq_true, Nat.reduceAdd, Nat.reduceSub, Nat.reduceLeDiff, Nat.reduceLT, List.contains_nil, it_l, it_t, it_r, ty_r, b_add, b_sub, b_mul, b_mod, b_fdiv, b_addt, b_addl, b_pow3, b_pow6, b_pow12, b_pow18, i_t, i_l, i_r, sl_t, sl_l, p_len_l, p_len_t, p_len_r, p_abs, p_int, p_intB, p_tup_l, p_tup_t, p_lst_l, p_lst_t, p_sum_l, p_sum_t, p_sum_r, p_all, p_any, p_max2, p_min2, isNon, nolistR, nolist, and_self, and_true, true_and, s_entries k (h.ent r hr)]
  have e : (rs.map fun _ => PyData.bool true) = (rs.map fun _ => true).map .bool := by rw [List.map_map]; rfl
  have ht : (rs.map fun _ => true).all id = true := by rw [List.all_map]; exact List.all_eq_true.mpr fun _ _ => rfl
  have h40 : ¬ (40 : Int) < (rs.length : Int) := by have := h.few; omega
  rw [u_are_rows]
  simp only [ev, R.rv, R.rvs, R.dsk, R.bnd, testR, partR, rd, rds, fz, fzs, nrm, optR, keepS, storable, tru, isD, tyN, Ty.sub, List.any_cons, List.any_nil, List.all_cons, List.all_nil, doCall, mkArgs, lent, isOwnS, noDup, putOuts, argsFit, endF, outsF, startF, bindT, bindTs, List.getElem?_cons_zero, List.getElem?_cons_succ, List.getElem?_nil, List.map_cons, List.map_nil, List.length_cons, List.length_nil, List.replicate, List.cons_append, List.nil_append, List.set_cons_zero, List.set_cons_succ, Option.bind, Option.map, Bool.and_true, Bool.true_and, Bool.and_false, Bool.false_and, Bool.or_true, Bool.true_or, Bool.or_false, Bool.false_or, Bool.not_true, Bool.not_false, Bool.not_not, if_true, if_false, Bool.false_eq_true, reduceIte, reduceCtorEq, decide_true, decide_false, List.isEmpty_nil, List.isEmpty_cons, beq_self_eq_true, Nat.reduceAdd, Nat.reduceSub, Nat.reduceLeDiff, Nat.reduceLT, List.contains_nil, it_l, it_t, it_r, ty_r, b_add, b_sub, b_mul, b_mod, b_fdiv, b_addt, b_addl, b_pow3, b_pow6, b_pow12, b_pow18, i_t, i_l, i_r, sl_t, sl_l, p_len_l, p_len_t, p_len_r, p_abs, p_int, p_intB, p_tup_l, p_tup_t, p_lst_l, p_lst_t, p_sum_l, p_sum_t, p_sum_r, p_all, p_any, p_max2, p_min2, isNon, nolistR, nolist, and_self, and_true, true_and, f_are_rows, hc, e, boolsOf_map, ht, List.length_map, c_gt, h40, s_rising (k+2) h.one (by have := h.few; omega) h.len h.srt]
theorem s_sure_set {rs : List (List Int)} {m : Nat} (h : Set40 rs m) : runF tb (k+5) "sure_set" [.d (.tuple (rs.map rowD)), .d (.int 1), .d (.int 40)] = .ok (.v (.tuple (rs.map rowD))) [] := by
  rw [u_sure_set]
  simp only [ev, R.rv, R.rvs, R.dsk, R.bnd, testR, partR, rd, rds, fz, fzs, nrm, optR, keepS, storable, tru, isD, tyN, Ty.sub, List.any_cons, List.any_nil, List.all_cons, List.all_nil, doCall, mkArgs, lent, isOwnS, noDup, putOuts, argsFit, endF, outsF, startF, bindT, bindTs, List.getElem?_cons_zero, List.getElem?_cons_succ, List.getElem?_nil, List.map_cons, List.map_nil, List.length_cons, List.length_nil, List.replicate, List.cons_append, List.nil_append, List.set_cons_zero, List.set_cons_succ, Option.bind, Option.map, Bool.and_true, Bool.true_and, Bool.and_false, Bool.false_and, Bool.or_true, Bool.true_or, Bool.or_false, Bool.false_or, Bool.not_true, Bool.not_false, Bool.not_not, if_true, if_false, Bool.false_eq_true, reduceIte, reduceCtorEq, decide_true, decide_false, List.isEmpty_nil, List.isEmpty_cons, beq_self_eq_true, Nat.reduceAdd, Nat.reduceSub, Nat.reduceLeDiff, Nat.reduceLT, List.contains_nil, it_l, it_t, it_r, ty_r, b_add, b_sub, b_mul, b_mod, b_fdiv, b_addt, b_addl, b_pow3, b_pow6, b_pow12, b_pow18, i_t, i_l, i_r, sl_t, sl_l, p_len_l, p_len_t, p_len_r, p_abs, p_int, p_intB, p_tup_l, p_tup_t, p_lst_l, p_lst_t, p_sum_l, p_sum_t, p_sum_r, p_all, p_any, p_max2, p_min2, isNon, nolistR, nolist, and_self, and_true, true_and, f_sure_set, s_tuple_rows (k+1) rs (by have := h.few; omega) (fun r hr => by have := (h.ent r hr).2.1; omega), s_are_rows k h, s_sure (k+3)]
theorem s_numbered {rs : List (List Int)} {m : Nat} (h : Set40 rs m) {n : Nat} (hn : n < rs.length) : runF tb (k+6) "sure_numbered" [.d (.tuple (rs.map rowD)), .d (.int n)] = .ok (.v (.tuple (rs.map rowD))) [] := by
  have h0 : (0 : Int) ≤ n := by omega
  have h1 : (n : Int) ≤ (rs.length : Int) - 1 := by omega
  rw [u_sure_numbered]
  simp only [ev, R.rv, R.rvs, R.dsk, R.bnd, testR, partR, rd, rds, fz, fzs, nrm, optR, keepS, storable, tru, isD, tyN, Ty.sub, List.any_cons, List.any_nil, List.all_cons, List.all_nil, doCall, mkArgs, lent, isOwnS, noDup, putOuts, argsFit, endF, outsF, startF, bindT, bindTs, List.getElem?_cons_zero, List.getElem?_cons_succ, List.getElem?_nil, List.map_cons, List.map_nil, List.length_cons, List.length_nil, List.replicate, List.cons_append, List.nil_append, List.set_cons_zero, List.set_cons_succ, Option.bind, Option.map, Bool.and_true, Bool.true_and, Bool.and_false, Bool.false_and, Bool.or_true, Bool.true_or, Bool.or_false, Bool.false_or, Bool.not_true, Bool.not_false, Bool.not_not, if_true, if_false, Bool.false_eq_true, reduceIte, reduceCtorEq, decide_true, decide_false, List.isEmpty_nil, List.isEmpty_cons, beq_self_eq_true, Nat.reduceAdd, Nat.reduceSub, Nat.reduceLeDiff, Nat.reduceLT, List.contains_nil, it_l, it_t, it_r, ty_r, b_add, b_sub, b_mul, b_mod, b_fdiv, b_addt, b_addl, b_pow3, b_pow6, b_pow12, b_pow18, i_t, i_l, i_r, sl_t, sl_l, p_len_l, p_len_t, p_len_r, p_abs, p_int, p_intB, p_tup_l, p_tup_t, p_lst_l, p_lst_t, p_sum_l, p_sum_t, p_sum_r, p_all, p_any, p_max2, p_min2, isNon, nolistR, nolist, and_self, and_true, true_and, f_sure_numbered, s_sure_set k h, List.length_map, s_between (k+3), h0, h1, s_sure (k+4), s_look (k+4) (by have := h.few; omega) h.len]
theorem get_row {rs : List (List Int)} {n : Nat} (hn : n < rs.length) : atI (rs.map rowD) (n : Int) = some (rowD rs[n]) := by
  rw [at_nat (by rw [List.length_map]; exact hn), List.getElem_map]
theorem s_bears {rs : List (List Int)} {m : Nat} (h : Set40 rs m) {n : Nat} (hn : n < rs.length) {p : List Int} (hp : ∀ x ∈ p, 0 ≤ x ∧ x < 2 ^ 63) (hl : p.length = m) (hm : m ≤ 5) :
    runF tb (k+4) "bears" [.d (.tuple (rs.map rowD)), .d (.int n), .d (rowD p)] = .ok (.v (.bool ((p.all fun x => decide (0 < x)) && rs.all fun r => decide (dot p rs[n] ≤ dot p r)))) [] := by
  have r0 : atI (rs.map rowD) 0 = some (rowD (rs[0]'(by omega))) := get_row (n := 0) (by omega)
  have rn := get_row hn
  have len0 : (rs[0]'(by omega)).length = m := h.len _ (List.getElem_mem _)
  have nn : (p.all fun x => decide (0 ≤ x)) = true := List.all_eq_true.mpr fun x hx => decide_eq_true (hp x hx).1
  have row := s_row_of k p m (by omega)
  have e0 : decide ((p.length : Int) = (m : Int)) = true := decide_eq_true (by omega)
  rw [e0, nn] at row
  have hc1 : ∀ s3 s4, ev (runF tb (k+3)) c_bears_1 [.val (.tuple (rs.map rowD)), .val (.int n), .val (rowD p), s3, s4, .no] = .ok (.rv (.o (p.map fun x => .bool (decide (0 < x))))) [.val (.tuple (rs.map rowD)), .val (.int n), .val (rowD p), s3, s4, .no] := fun s3 s4 =>
    comp_map .int (fun x => .bool (decide (0 < x))) rfl (by unfold LINE; omega) rfl fun x _ => ⟨[.val (.tuple (rs.map rowD)), .val (.int n), .val (rowD p), s3, s4, .val (.int x)], .v (.bool (decide (0 < x))), rfl, rfl, rfl, rfl⟩
  have e1 : (p.map fun x => PyData.bool (decide (0 < x))) = (p.map fun x => decide (0 < x)).map .bool := by rw [List.map_map]; rfl
  have hc0 : ev (runF tb (k+3)) c_bears_0 [.val (.tuple (rs.map rowD)), .val (.int n), .val (rowD p), .val (.int (dot p rs[n])), .no, .no] = .ok (.rv (.o (rs.map fun r => .bool (decide (dot p rs[n] ≤ dot p r))))) [.val (.tuple (rs.map rowD)), .val (.int n), .val (rowD p), .val (.int (dot p rs[n])), .no, .no] := by
    refine comp_map rowD (fun r => .bool (decide (dot p rs[n] ≤ dot p r))) rfl (by have := h.few; unfold LINE; omega) rfl fun r _ => ⟨[.val (.tuple (rs.map rowD)), .val (.int n), .val (rowD p), .val (.int (dot p rs[n])), .val (rowD r), .no], .v (.bool (decide (dot p rs[n] ≤ dot p r))), rfl, rfl, ?_, rfl⟩
    simp only [ev, R.rv, R.rvs, R.dsk, R.bnd, testR, partR, rd, rds, fz, fzs, nrm, optR, keepS, storable, tru, isD, tyN, Ty.sub, List.any_cons, List.any_nil, List.all_cons, List.all_nil, doCall, mkArgs, lent, isOwnS, noDup, putOuts, argsFit, endF, outsF, startF, bindT, bindTs, List.getElem?_cons_zero, List.getElem?_cons_succ, List.getElem?_nil, List.map_cons, List.map_nil, List.length_cons, List.length_nil, List.replicate, List.cons_append, List.nil_append, List.set_cons_zero, List.set_cons_succ, Option.bind, Option.map, Bool.and_true, Bool.true_and, Bool.and_false, Bool.false_and, Bool.or_true, Bool.true_or, Bool.or_false, Bool.false_or, Bool.not_true, Bool.not_false, Bool.not_not, if_true, if_false, Bool.false_eq_true, reduceIte, reduceCtorEq, decide_true, decide_false, List.isEmpty_nil, List.isEmpty_cons, beq_self_eq_true, Nat.reduceAdd, Nat.reduceSub, Nat.reduceLeDiff, Nat.reduceLT, List.contains_nil, it_l, it_t, it_r, ty_r, b_add, b_sub, b_mul, b_mod, b_fdiv, b_addt, b_addl, b_pow3, b_pow6, b_pow12, b_pow18, i_t, i_l, i_r, sl_t, sl_l, p_len_l, p_len_t, p_len_r, p_abs, p_int, p_intB, p_tup_l, p_tup_t, p_lst_l, p_lst_t, p_sum_l, p_sum_t, p_sum_r, p_all, p_any, p_max2, p_min2, isNon, nolistR, nolist, and_self, and_true, true_and, s_price (k+2) p r hp (by omega), c_le]
  have e2 : (rs.map fun r => PyData.bool (decide (dot p rs[n] ≤ dot p r))) = (rs.map fun r => decide (dot p rs[n] ≤ dot p r)).map .bool := by rw [List.map_map]; rfl
  rw [u_bears]
  by_cases q : (p.all fun x => decide (0 < x)) = true
  · have q' : (p.map fun x => decide (0 < x)).all id = true := by rw [List.all_map]; exact q
    simp only [ev, R.rv, R.rvs, R.dsk, R.bnd, testR, partR, rd, rds, fz, fzs, nrm, optR, keepS, storable, tru, isD, tyN, Ty.sub, List.any_cons, List.any_nil, List.all_cons, List.all_nil, doCall, mkArgs, lent, isOwnS, noDup, putOuts, argsFit, endF, outsF, startF, bindT, bindTs, List.getElem?_cons_zero, List.getElem?_cons_succ, List.getElem?_nil, List.map_cons, List.map_nil, List.length_cons, List.length_nil, List.replicate, List.cons_append, List.nil_append, List.set_cons_zero, List.set_cons_succ, Option.bind, Option.map, Bool.and_true, Bool.true_and, Bool.and_false, Bool.false_and, Bool.or_true, Bool.true_or, Bool.or_false, Bool.false_or, Bool.not_true, Bool.not_false, Bool.not_not, if_true, if_false, Bool.false_eq_true, reduceIte, reduceCtorEq, decide_true, decide_false, List.isEmpty_nil, List.isEmpty_cons, beq_self_eq_true, Nat.reduceAdd, Nat.reduceSub, Nat.reduceLeDiff, Nat.reduceLT, List.contains_nil, it_l, it_t, it_r, ty_r, b_add, b_sub, b_mul, b_mod, b_fdiv, b_addt, b_addl, b_pow3, b_pow6, b_pow12, b_pow18, i_t, i_l, i_r, sl_t, sl_l, p_len_l, p_len_t, p_len_r, p_abs, p_int, p_intB, p_tup_l, p_tup_t, p_lst_l, p_lst_t, p_sum_l, p_sum_t, p_sum_r, p_all, p_any, p_max2, p_min2, isNon, nolistR, nolist, and_self, and_true, true_and, f_bears, r0, len0, row, hc1, e1, boolsOf_map, q', rn, s_price (k+2) p rs[n] hp (by omega), hc0, e2, q, List.all_map, Function.comp_def, id]
  · have q : (p.all fun x => decide (0 < x)) = false := by simpa using q
    have q' : (p.map fun x => decide (0 < x)).all id = false := by rw [List.all_map]; exact q
    simp only [ev, R.rv, R.rvs, R.dsk, R.bnd, testR, partR, rd, rds, fz, fzs, nrm, optR, keepS, storable, tru, isD, tyN, Ty.sub, List.any_cons, List.any_nil, List.all_cons, List.all_nil, doCall, mkArgs, lent, isOwnS, noDup, putOuts, argsFit, endF, outsF, startF, bindT, bindTs, List.getElem?_cons_zero, List.getElem?_cons_succ, List.getElem?_nil, List.map_cons, List.map_nil, List.length_cons, List.length_nil, List.replicate, List.cons_append, List.nil_append, List.set_cons_zero, List.set_cons_succ, Option.bind, Option.map, Bool.and_true, Bool.true_and, Bool.and_false, Bool.false_and, Bool.or_true, Bool.true_or, Bool.or_false, Bool.false_or, Bool.not_true, Bool.not_false, Bool.not_not, if_true, if_false, Bool.false_eq_true, reduceIte, reduceCtorEq, decide_true, decide_false, List.isEmpty_nil, List.isEmpty_cons, beq_self_eq_true, Nat.reduceAdd, Nat.reduceSub, Nat.reduceLeDiff, Nat.reduceLT, List.contains_nil, it_l, it_t, it_r, ty_r, b_add, b_sub, b_mul, b_mod, b_fdiv, b_addt, b_addl, b_pow3, b_pow6, b_pow12, b_pow18, i_t, i_l, i_r, sl_t, sl_l, p_len_l, p_len_t, p_len_r, p_abs, p_int, p_intB, p_tup_l, p_tup_t, p_lst_l, p_lst_t, p_sum_l, p_sum_t, p_sum_r, p_all, p_any, p_max2, p_min2, isNon, nolistR, nolist, and_self, and_true, true_and, f_bears, r0, len0, row, hc1, e1, boolsOf_map, q', q]
theorem s_price_paper {rs : List (List Int)} {m : Nat} (h : Set40 rs m) {n : Nat} (hn : n < rs.length) {p : List Int} (hp : ∀ x ∈ p, 0 ≤ x ∧ x < 2 ^ 63) (hl : p.length = m) (hm : m ≤ 5) :
    runF tb (k+7) "is_price_paper" [.d (.tuple (rs.map rowD)), .d (.int n), .d (rowD p)] = .ok (.v (.bool ((p.all fun x => decide (0 < x)) && rs.all fun r => decide (dot p rs[n] ≤ dot p r)))) [] := by
  rw [u_is_price_paper]
  simp only [ev, R.rv, R.rvs, R.dsk, R.bnd, testR, partR, rd, rds, fz, fzs, nrm, optR, keepS, storable, tru, isD, tyN, Ty.sub, List.any_cons, List.any_nil, List.all_cons, List.all_nil, doCall, mkArgs, lent, isOwnS, noDup, putOuts, argsFit, endF, outsF, startF, bindT, bindTs, List.getElem?_cons_zero, List.getElem?_cons_succ, List.getElem?_nil, List.map_cons, List.map_nil, List.length_cons, List.length_nil, List.replicate, List.cons_append, List.nil_append, List.set_cons_zero, List.set_cons_succ, Option.bind, Option.map, Bool.and_true, Bool.true_and, Bool.and_false, Bool.false_and, Bool.or_true, Bool.true_or, Bool.or_false, Bool.false_or, Bool.not_true, Bool.not_false, Bool.not_not, if_true, if_false, Bool.false_eq_true, reduceIte, reduceCtorEq, decide_true, decide_false, List.isEmpty_nil, List.isEmpty_cons, beq_self_eq_true, Nat.reduceAdd, Nat.reduceSub, Nat.reduceLeDiff, Nat.reduceLT, List.contains_nil, it_l, it_t, it_r, ty_r, b_add, b_sub, b_mul, b_mod, b_fdiv, b_addt, b_addl, b_pow3, b_pow6, b_pow12, b_pow18, i_t, i_l, i_r, sl_t, sl_l, p_len_l, p_len_t, p_len_r, p_abs, p_int, p_intB, p_tup_l, p_tup_t, p_lst_l, p_lst_t, p_sum_l, p_sum_t, p_sum_r, p_all, p_any, p_max2, p_min2, isNon, nolistR, nolist, and_self, and_true, true_and, f_is_price_paper, s_numbered k h hn, s_bears (k+2) h hn hp hl hm]
/-! ### mixtures -/
abbrev mixF (acc : List Int) (q : List Int × Int) : List Int := (acc.zip q.1).map fun p => p.1 + q.2 * p.2
abbrev mixed (rs : List (List Int)) (ws : List Int) (m : Nat) : List Int := (rs.zip ws).foldl mixF (List.replicate m 0)
def sla : Option D → Slot
  | some (.tuple [a, _]) => .val a
  | _ => .no
def slb : Option D → Slot
  | some (.tuple [_, b]) => .val b
  | _ => .no
theorem sla_or (s : Option D) : sla s = .no ∨ ∃ d, sla s = .val d := by
  unfold sla
  split
  · exact .inr ⟨_, rfl⟩
  · exact .inl rfl
theorem slb_or (s : Option D) : slb s = .no ∨ ∃ d, slb s = .val d := by
  unfold slb
  split
  · exact .inr ⟨_, rfl⟩
  · exact .inl rfl
theorem rep0 (m : Nat) : (List.replicate m [PyData.int 0]).flatten = (List.replicate m (0 : Int)).map .int := by
  induction m with
  | zero => rfl
  | succ m ih =>
    rw [List.replicate_succ, List.flatten_cons, ih, List.replicate_succ]
    rfl
theorem mixF_len {acc : List Int} {q : List Int × Int} {m : Nat} (h : acc.length = m) (h' : q.1.length = m) : (mixF acc q).length = m := by rw [List.length_map, List.length_zip]; omega
theorem s_mixloop {rs : List (List Int)} {ws : List Int} {m : Nat} (h : ∀ r ∈ rs, r.length = m) (hm : m ≤ 5) (hl : rs.length ≤ 100) (hw : ∀ w ∈ ws, 0 ≤ w ∧ w < 2 ^ 63) :
    ∃ s', ev (runF tb k) l_made_mixed_0 [.val (.tuple (rs.map rowD)), .val (rowD ws), .own false ((List.replicate m (0 : Int)).map .int), .no, .no, .no, .no] = .ok (.fl .nx) [.val (.tuple (rs.map rowD)), .val (rowD ws), .own false ((mixed rs ws m).map .int), sla s', slb s', .no, .no] := by
  have loop := fLoop_st (enc := fun q : List Int × Int => .tuple [rowD q.1, .int q.2]) (step := fun d e2 => match bindT (.tT (.cons (.tN 3) (.cons (.tN 4) .nil))) d e2 with
    | some e3 => ev (runF tb k) (.seq (.asg (.tN 2) c_made_mixed_0) .done) e3
    | none => .bad) (fun b s => [.val (.tuple (rs.map rowD)), .val (rowD ws), .own false (b.map .int), sla s, slb s, .no, .no]) mixF (fun _ b => b.length = m) 1000 (rs.zip ws) 0 (List.replicate m 0) none (by rw [List.length_zip]; omega) (List.length_replicate ..) fun n b x s hn hx hI => by
      obtain ⟨row, w⟩ := x
      have hrow := h row (List.of_mem_zip hx).1
      have hwx := hw w (List.of_mem_zip hx).2
      refine ⟨mixF_len hI hrow, ?_⟩
      have hc : ev (runF tb k) c_made_mixed_0 [.val (.tuple (rs.map rowD)), .val (rowD ws), .own false (b.map .int), .val (rowD row), .val (.int w), .no, .no] = .ok (.rv (.o ((mixF b (row, w)).map .int))) [.val (.tuple (rs.map rowD)), .val (rowD ws), .val (.list (b.map .int)), .val (rowD row), .val (.int w), .no, .no] := by
        have hz : (b.zip row).length ≤ LINE := by rw [List.length_zip]; unfold LINE; omega
        have := comp_map (cf := runF tb k) (elt := .bin .Add (.var 5) (.bin .Mult (.var 4) (.var 6))) (tg := .tT (.cons (.tN 5) (.cons (.tN 6) .nil))) (src := .sZip (.var 2) (.var 3)) (own := [5, 6]) (e := [.val (.tuple (rs.map rowD)), .val (rowD ws), .own false (b.map .int), .val (rowD row), .val (.int w), .no, .no]) (e1 := [.val (.tuple (rs.map rowD)), .val (rowD ws), .val (.list (b.map .int)), .val (rowD row), .val (.int w), .no, .no]) (xs := b.zip row)
          (fun p : Int × Int => .tuple [.int p.1, .int p.2]) (fun p => .int (p.1 + w * p.2)) (by rw [← zipF_enc]; rfl) hz rfl fun p _ => ⟨[.val (.tuple (rs.map rowD)), .val (rowD ws), .val (.list (b.map .int)), .val (rowD row), .val (.int w), .val (.int p.1), .val (.int p.2)], .v (.int (p.1 + w * p.2)), rfl, rfl, by simp only [ev, R.rv, R.rvs, R.dsk, R.bnd, testR, partR, rd, rds, fz, fzs, nrm, optR, keepS, storable, tru, isD, tyN, Ty.sub, List.any_cons, List.any_nil, List.all_cons, List.all_nil, doCall, mkArgs, lent, isOwnS, noDup, putOuts, argsFit, endF, outsF, startF, bindT, bindTs, List.getElem?_cons_zero, List.getElem?_cons_succ, List.getElem?_nil, List.map_cons, List.map_nil, List.length_cons, List.length_nil, List.replicate, List.cons_append, List.nil_append, List.set_cons_zero, List.set_cons_succ, Option.bind, Option.map, Bool.and_true, Bool.true_and, Bool.and_false, Bool.false_and, Bool.or_true, Bool.true_or, Bool.or_false, Bool.false_or, Bool.not_true, Bool.not_false, Bool.not_not, if_true, if_false, Bool.false_eq_true, reduceIte, reduceCtorEq, decide_true, decide_false, List.isEmpty_nil, List.isEmpty_cons, beq_self_eq_true, Nat.reduceAdd, Nat.reduceSub, Nat.reduceLeDiff, Nat.reduceLT, List.contains_nil, it_l, it_t, it_r, ty_r, b_add, b_sub, b_mul, b_mod, b_fdiv, b_addt, b_addl, b_pow3, b_pow6, b_pow12, b_pow18, i_t, i_l, i_r, sl_t, sl_l, p_len_l, p_len_t, p_len_r, p_abs, p_int, p_intB, p_tup_l, p_tup_t, p_lst_l, p_lst_t, p_sum_l, p_sum_t, p_sum_r, p_all, p_any, p_max2, p_min2, isNon, nolistR, nolist, and_self, and_true, true_and, mul_ok hwx], rfl⟩
        rw [List.map_map]
        exact this
      rcases sla_or s with sa | ⟨d1, sa⟩ <;> rcases slb_or s with sb | ⟨d2, sb⟩ <;>
      (rw [sa, sb]
       simp only [ev, R.rv, R.rvs, R.dsk, R.bnd, testR, partR, rd, rds, fz, fzs, nrm, optR, keepS, storable, tru, isD, tyN, Ty.sub, List.any_cons, List.any_nil, List.all_cons, List.all_nil, doCall, mkArgs, lent, isOwnS, noDup, putOuts, argsFit, endF, outsF, startF, bindT, bindTs, List.getElem?_cons_zero, List.getElem?_cons_succ, List.getElem?_nil, List.map_cons, List.map_nil, List.length_cons, List.length_nil, List.replicate, List.cons_append, List.nil_append, List.set_cons_zero, List.set_cons_succ, Option.bind, Option.map, Bool.and_true, Bool.true_and, Bool.and_false, Bool.false_and, Bool.or_true, Bool.true_or, Bool.or_false, Bool.false_or, Bool.not_true, Bool.not_false, Bool.not_not, if_true, if_false, Bool.false_eq_true, reduceIte, reduceCtorEq, decide_true, decide_false, List.isEmpty_nil, List.isEmpty_cons, beq_self_eq_true, Nat.reduceAdd, Nat.reduceSub, Nat.reduceLeDiff, Nat.reduceLT, List.contains_nil, it_l, it_t, it_r, ty_r, b_add, b_sub, b_mul, b_mod, b_fdiv, b_addt, b_addl, b_pow3, b_pow6, b_pow12, b_pow18, i_t, i_l, i_r, sl_t, sl_l, p_len_l, p_len_t, p_len_r, p_abs, p_int, p_intB, p_tup_l, p_tup_t, p_lst_l, p_lst_t, p_sum_l, p_sum_t, p_sum_r, p_all, p_any, p_max2, p_min2, isNon, nolistR, nolist, and_self, and_true, true_and, hc, sla, slb])
  obtain ⟨s', hf, _⟩ := loop
  have zs : ev (runF tb k) (.sZip (.var 0) (.var 1)) [.val (.tuple (rs.map rowD)), .val (rowD ws), .own false ((List.replicate m (0 : Int)).map .int), .no, .no, .no, .no] = .ok (.ds ((rs.zip ws).map fun q => .tuple [rowD q.1, .int q.2])) [.val (.tuple (rs.map rowD)), .val (rowD ws), .own false ((List.replicate m (0 : Int)).map .int), .no, .no, .no, .no] := by
    rw [← zipF_enc rowD .int rs ws]
    rfl
  refine ⟨s', ?_⟩
  have hl : ev (runF tb k) l_made_mixed_0 [.val (.tuple (rs.map rowD)), .val (rowD ws), .own false ((List.replicate m (0 : Int)).map .int), .no, .no, .no, .no] = .ok (.fl .nx) [.val (.tuple (rs.map rowD)), .val (rowD ws), .own false ((mixed rs ws m).map .int), sla s', slb s', .no, .no] := by
    have fs : ∀ e, ev (runF tb k) l_made_mixed_0 e = (ev (runF tb k) (.sZip (.var 0) (.var 1)) e).dsk fun items e1 => fLoop (fun d e2 => match bindT (.tT (.cons (.tN 3) (.cons (.tN 4) .nil))) d e2 with
      | some e3 => ev (runF tb k) (.seq (.asg (.tN 2) c_made_mixed_0) .done) e3
      | none => .bad) items e1 := fun _ => rfl
    rw [fs, zs]
    exact hf
  exact hl
theorem s_made_mixed {rs : List (List Int)} {ws : List Int} {m : Nat} (h : ∀ r ∈ rs, r.length = m) (hm : m ≤ 5) (h1 : 1 ≤ rs.length) (hl : rs.length ≤ 100) (hw : ∀ w ∈ ws, 0 ≤ w ∧ w < 2 ^ 63) :
    runF tb (k+1) "made_mixed" [.d (.tuple (rs.map rowD)), .d (rowD ws)] = .ok (.v (.tuple [.int ws.sum, rowD (mixed rs ws m)])) [] := by
  have r0 : atI (rs.map rowD) 0 = some (rowD (rs[0]'(by omega))) := get_row (n := 0) (by omega)
  have len0 : (rs[0]'(by omega)).length = m := h _ (List.getElem_mem _)
  obtain ⟨s', hl⟩ := s_mixloop k h hm hl hw
  have rep : ev (runF tb k) (.lrep (.cons (.const (.int 0)) .nil) (.prim .len (.cons (.idx (.var 0) (.const (.int 0))) .nil))) [.val (.tuple (rs.map rowD)), .val (rowD ws), .no, .no, .no, .no, .no] = .ok (.rv (.o ((List.replicate m (0 : Int)).map .int))) [.val (.tuple (rs.map rowD)), .val (rowD ws), .no, .no, .no, .no, .no] := by
    rw [← rep0]
    refine lrep_ok (k := m) rfl rfl one_line (rb := .v (.int m)) ?_ rfl (by omega) (by unfold LINE; rw [List.length_singleton]; omega)
    simp only [ev, R.rv, R.rvs, R.dsk, R.bnd, testR, partR, rd, rds, fz, fzs, nrm, optR, keepS, storable, tru, isD, tyN, Ty.sub, List.any_cons, List.any_nil, List.all_cons, List.all_nil, doCall, mkArgs, lent, isOwnS, noDup, putOuts, argsFit, endF, outsF, startF, bindT, bindTs, List.getElem?_cons_zero, List.getElem?_cons_succ, List.getElem?_nil, List.map_cons, List.map_nil, List.length_cons, List.length_nil, List.replicate, List.cons_append, List.nil_append, List.set_cons_zero, List.set_cons_succ, Option.bind, Option.map, Bool.and_true, Bool.true_and, Bool.and_false, Bool.false_and, Bool.or_true, Bool.true_or, Bool.or_false, Bool.false_or, Bool.not_true, Bool.not_false, Bool.not_not, if_true, if_false, Bool.false_eq_true, reduceIte, reduceCtorEq, decide_true, decide_false, List.isEmpty_nil, List.isEmpty_cons, beq_self_eq_true, Nat.reduceAdd, Nat.reduceSub, Nat.reduceLeDiff, Nat.reduceLT, List.contains_nil, it_l, it_t, it_r, ty_r, b_add, b_sub, b_mul, b_mod, b_fdiv, b_addt, b_addl, b_pow3, b_pow6, b_pow12, b_pow18, i_t, i_l, i_r, sl_t, sl_l, p_len_l, p_len_t, p_len_r, p_abs, p_int, p_intB, p_tup_l, p_tup_t, p_lst_l, p_lst_t, p_sum_l, p_sum_t, p_sum_r, p_all, p_any, p_max2, p_min2, isNon, nolistR, nolist, and_self, and_true, true_and, r0, len0]
  generalize hrep : T.lrep (.cons (.const (.int 0)) .nil) (.prim .len (.cons (.idx (.var 0) (.const (.int 0))) .nil)) = lr at rep
  rw [u_made_mixed]
  have fb : f_made_mixed.body = .seq (.asg (.tN 2) lr) (.seq l_made_mixed_0 (.seq (.ret (.tup (.cons (.prim .sum (.cons (.var 1) .nil)) (.cons (.prim .tuple (.cons (.var 2) .nil)) .nil)))) .done)) := by rw [← hrep]; rfl
  rw [fb]
  simp only [ev, R.rv, R.rvs, R.dsk, R.bnd, testR, partR, rd, rds, fz, fzs, nrm, optR, keepS, storable, tru, isD, tyN, Ty.sub, List.any_cons, List.any_nil, List.all_cons, List.all_nil, doCall, mkArgs, lent, isOwnS, noDup, putOuts, argsFit, endF, outsF, startF, bindT, bindTs, List.getElem?_cons_zero, List.getElem?_cons_succ, List.getElem?_nil, List.map_cons, List.map_nil, List.length_cons, List.length_nil, List.replicate, List.cons_append, List.nil_append, List.set_cons_zero, List.set_cons_succ, Option.bind, Option.map, Bool.and_true, Bool.true_and, Bool.and_false, Bool.false_and, Bool.or_true, Bool.true_or, Bool.or_false, Bool.false_or, Bool.not_true, Bool.not_false, Bool.not_not, if_true, if_false, Bool.false_eq_true, reduceIte, reduceCtorEq, decide_true, decide_false, List.isEmpty_nil, List.isEmpty_cons, beq_self_eq_true, Nat.reduceAdd, Nat.reduceSub, Nat.reduceLeDiff, Nat.reduceLT, List.contains_nil, it_l, it_t, it_r, ty_r, b_add, b_sub, b_mul, b_mod, b_fdiv, b_addt, b_addl, b_pow3, b_pow6, b_pow12, b_pow18, i_t, i_l, i_r, sl_t, sl_l, p_len_l, p_len_t, p_len_r, p_abs, p_int, p_intB, p_tup_l, p_tup_t, p_lst_l, p_lst_t, p_sum_l, p_sum_t, p_sum_r, p_all, p_any, p_max2, p_min2, isNon, nolistR, nolist, and_self, and_true, true_and, rep, hl, two_line]
  rfl
theorem s_is_mixture {rs : List (List Int)} {ws : List Int} (hl : ws.length = rs.length) (hw : ∀ w ∈ ws, 0 ≤ w) (hn : rs.length ≤ 1000) : runF tb (k+4) "is_mixture" [.d (.tuple (rs.map rowD)), .d (rowD ws)] = .ok (.v (.bool (decide (0 < ws.sum)))) [] := by
  have row := s_row_of k ws rs.length (by omega)
  have e0 : decide ((ws.length : Int) = (rs.length : Int)) = true := decide_eq_true (by omega)
  have nn : (ws.all fun x => decide (0 ≤ x)) = true := List.all_eq_true.mpr fun x hx => decide_eq_true (hw x hx)
  rw [e0, nn] at row
  rw [u_is_mixture]
  simp only [ev, R.rv, R.rvs, R.dsk, R.bnd, testR, partR, rd, rds, fz, fzs, nrm, optR, keepS, storable, tru, isD, tyN, Ty.sub, List.any_cons, List.any_nil, List.all_cons, List.all_nil, doCall, mkArgs, lent, isOwnS, noDup, putOuts, argsFit, endF, outsF, startF, bindT, bindTs, List.getElem?_cons_zero, List.getElem?_cons_succ, List.getElem?_nil, List.map_cons, List.map_nil, List.length_cons, List.length_nil, List.replicate, List.cons_append, List.nil_append, List.set_cons_zero, List.set_cons_succ, Option.bind, Option.map, Bool.and_true, Bool.true_and, Bool.and_false, Bool.false_and, Bool.or_true, Bool.true_or, Bool.or_false, Bool.false_or, Bool.not_true, Bool.not_false, Bool.not_not, if_true, if_false, Bool.false_eq_true, reduceIte, reduceCtorEq, decide_true, decide_false, List.isEmpty_nil, List.isEmpty_cons, beq_self_eq_true, Nat.reduceAdd, Nat.reduceSub, Nat.reduceLeDiff, Nat.reduceLT, List.contains_nil, it_l, it_t, it_r, ty_r, b_add, b_sub, b_mul, b_mod, b_fdiv, b_addt, b_addl, b_pow3, b_pow6, b_pow12, b_pow18, i_t, i_l, i_r, sl_t, sl_l, p_len_l, p_len_t, p_len_r, p_abs, p_int, p_intB, p_tup_l, p_tup_t, p_lst_l, p_lst_t, p_sum_l, p_sum_t, p_sum_r, p_all, p_any, p_max2, p_min2, isNon, nolistR, nolist, and_self, and_true, true_and, f_is_mixture, List.length_map, row, c_gt]
theorem mul_ok2 {i j : Int} (h : 0 ≤ j ∧ j < 2 ^ 63) : mulOk i j = true := by
  unfold mulOk
  have h1 : -(2 ^ 64 : Int) < j := by omega
  have h2 : j < (2 ^ 64 : Int) := by omega
  rw [decide_eq_true h1, decide_eq_true h2, Bool.and_self, Bool.or_true]
abbrev timesR (n : Int) (r : List Int) : List Int := r.map fun x => n * x
theorem ent_63 {r : List Int} (h : Ent r) : ∀ x ∈ r, 0 ≤ x ∧ x < 2 ^ 63 := fun x hx => by
  have := List.all_eq_true.mp h.2.2 x hx
  simp only [Bool.and_eq_true, decide_eq_true_eq] at this
  omega
theorem s_presses {rs : List (List Int)} {m : Nat} (h : Set40 rs m) (hm : m ≤ 5) {r : List Int} (hr : Ent r) {ws : List Int} (hl : ws.length = rs.length) (hw : ∀ w ∈ ws, 0 ≤ w ∧ w < 2 ^ 63) :
    runF tb (k+5) "presses" [.d (.tuple (rs.map rowD)), .d (rowD r), .d (rowD ws)] = .ok (.v (.bool (decide (0 < ws.sum) && atMost (mixed rs ws m) (timesR ws.sum r)))) [] := by
  have few := h.few
  have mx := s_is_mixture k (rs := rs) (ws := ws) hl (fun w hw' => (hw w hw').1) (by omega)
  have mm := s_made_mixed (k+3) h.len hm h.one (by omega) hw
  have ml : (mixed rs ws m).length ≤ 1000 := by
    have : ∀ (qs : List (List Int × Int)) (acc : List Int), acc.length ≤ 1000 → (qs.foldl mixF acc).length ≤ 1000 := fun qs => by
      induction qs with
      | nil => exact fun acc h => h
      | cons q qs ih => exact fun acc h => ih _ (by rw [List.length_map, List.length_zip]; omega)
    exact this _ _ (by rw [List.length_replicate]; omega)
  rw [u_presses]
  by_cases q : 0 < ws.sum
  · rw [decide_eq_true q] at mx
    have hc : ev (runF tb (k+4)) c_presses_0 [.val (.tuple (rs.map rowD)), .val (rowD r), .val (rowD ws), .val (.int ws.sum), .val (rowD (mixed rs ws m)), .no] = .ok (.rv (.o ((timesR ws.sum r).map .int))) [.val (.tuple (rs.map rowD)), .val (rowD r), .val (rowD ws), .val (.int ws.sum), .val (rowD (mixed rs ws m)), .no] := by
      rw [List.map_map]
      exact comp_map .int (fun x => .int (ws.sum * x)) rfl (by have := hr.2.1; unfold LINE; omega) rfl fun x hx => ⟨[.val (.tuple (rs.map rowD)), .val (rowD r), .val (rowD ws), .val (.int ws.sum), .val (rowD (mixed rs ws m)), .val (.int x)], .v (.int (ws.sum * x)), rfl, rfl, by simp only [ev, R.rv, R.rvs, R.dsk, R.bnd, testR, partR, rd, rds, fz, fzs, nrm, optR, keepS, storable, tru, isD, tyN, Ty.sub, List.any_cons, List.any_nil, List.all_cons, List.all_nil, doCall, mkArgs, lent, isOwnS, noDup, putOuts, argsFit, endF, outsF, startF, bindT, bindTs, List.getElem?_cons_zero, List.getElem?_cons_succ, List.getElem?_nil, List.map_cons, List.map_nil, List.length_cons, List.length_nil, List.replicate, List.cons_append, List.nil_append, List.set_cons_zero, List.set_cons_succ, Option.bind, Option.map, Bool.and_true, Bool.true_and, Bool.and_false, Bool.false_and, Bool.or_true, Bool.true_or, Bool.or_false, Bool.false_or, Bool.not_true, Bool.not_false, Bool.not_not, if_true, if_false, Bool.false_eq_true, reduceIte, reduceCtorEq, decide_true, decide_false, List.isEmpty_nil, List.isEmpty_cons, beq_self_eq_true, Nat.reduceAdd, Nat.reduceSub, Nat.reduceLeDiff, Nat.reduceLT, List.contains_nil, it_l, it_t, it_r, ty_r, b_add, b_sub, b_mul, b_mod, b_fdiv, b_addt, b_addl, b_pow3, b_pow6, b_pow12, b_pow18, i_t, i_l, i_r, sl_t, sl_l, p_len_l, p_len_t, p_len_r, p_abs, p_int, p_intB, p_tup_l, p_tup_t, p_lst_l, p_lst_t, p_sum_l, p_sum_t, p_sum_r, p_all, p_any, p_max2, p_min2, isNon, nolistR, nolist, and_self, and_true, true_and, mul_ok2 (ent_63 hr x hx)], rfl⟩
    have am := s_at_most (k+3) (mixed rs ws m) (timesR ws.sum r) ml
    unfold rowD at am hc mm mx ⊢
    simp only [ev, R.rv, R.rvs, R.dsk, R.bnd, testR, partR, rd, rds, fz, fzs, nrm, optR, keepS, storable, tru, isD, tyN, Ty.sub, List.any_cons, List.any_nil, List.all_cons, List.all_nil, doCall, mkArgs, lent, isOwnS, noDup, putOuts, argsFit, endF, outsF, startF, bindT, bindTs, List.getElem?_cons_zero, List.getElem?_cons_succ, List.getElem?_nil, List.map_cons, List.map_nil, List.length_cons, List.length_nil, List.replicate, List.cons_append, List.nil_append, List.set_cons_zero, List.set_cons_succ, Option.bind, Option.map, Bool.and_true, Bool.true_and, Bool.and_false, Bool.false_and, Bool.or_true, Bool.true_or, Bool.or_false, Bool.false_or, Bool.not_true, Bool.not_false, Bool.not_not, if_true, if_false, Bool.false_eq_true, reduceIte, reduceCtorEq, decide_true, decide_false, List.isEmpty_nil, List.isEmpty_cons, beq_self_eq_true, Nat.reduceAdd, Nat.reduceSub, Nat.reduceLeDiff, Nat.reduceLT, List.contains_nil, it_l, it_t, it_r, ty_r, b_add, b_sub, b_mul, b_mod, b_fdiv, b_addt, b_addl, b_pow3, b_pow6, b_pow12, b_pow18, i_t, i_l, i_r, sl_t, sl_l, p_len_l, p_len_t, p_len_r, p_abs, p_int, p_intB, p_tup_l, p_tup_t, p_lst_l, p_lst_t, p_sum_l, p_sum_t, p_sum_r, p_all, p_any, p_max2, p_min2, isNon, nolistR, nolist, and_self, and_true, true_and, f_presses, mx, mm, hc, am, q]
  · rw [decide_eq_false q] at mx
    simp only [ev, R.rv, R.rvs, R.dsk, R.bnd, testR, partR, rd, rds, fz, fzs, nrm, optR, keepS, storable, tru, isD, tyN, Ty.sub, List.any_cons, List.any_nil, List.all_cons, List.all_nil, doCall, mkArgs, lent, isOwnS, noDup, putOuts, argsFit, endF, outsF, startF, bindT, bindTs, List.getElem?_cons_zero, List.getElem?_cons_succ, List.getElem?_nil, List.map_cons, List.map_nil, List.length_cons, List.length_nil, List.replicate, List.cons_append, List.nil_append, List.set_cons_zero, List.set_cons_succ, Option.bind, Option.map, Bool.and_true, Bool.true_and, Bool.and_false, Bool.false_and, Bool.or_true, Bool.true_or, Bool.or_false, Bool.false_or, Bool.not_true, Bool.not_false, Bool.not_not, if_true, if_false, Bool.false_eq_true, reduceIte, reduceCtorEq, decide_true, decide_false, List.isEmpty_nil, List.isEmpty_cons, beq_self_eq_true, Nat.reduceAdd, Nat.reduceSub, Nat.reduceLeDiff, Nat.reduceLT, List.contains_nil, it_l, it_t, it_r, ty_r, b_add, b_sub, b_mul, b_mod, b_fdiv, b_addt, b_addl, b_pow3, b_pow6, b_pow12, b_pow18, i_t, i_l, i_r, sl_t, sl_l, p_len_l, p_len_t, p_len_r, p_abs, p_int, p_intB, p_tup_l, p_tup_t, p_lst_l, p_lst_t, p_sum_l, p_sum_t, p_sum_r, p_all, p_any, p_max2, p_min2, isNon, nolistR, nolist, and_self, and_true, true_and, f_presses, mx, q]
theorem s_mixture_paper {rs : List (List Int)} {m : Nat} (h : Set40 rs m) (hm : m ≤ 5) {n : Nat} (hn : n < rs.length) {ws : List Int} (hl : ws.length = rs.length) (hw : ∀ w ∈ ws, 0 ≤ w ∧ w < 2 ^ 63) :
    runF tb (k+7) "is_mixture_paper" [.d (.tuple (rs.map rowD)), .d (.int n), .d (rowD ws)] = .ok (.v (.bool ((decide (0 < ws.sum) && atMost (mixed rs ws m) (timesR ws.sum rs[n])) && !decide (mixed rs ws m = timesR ws.sum rs[n])))) [] := by
  have few := h.few
  have nb := s_numbered k h hn
  have ps := s_presses (k+1) h hm (h.ent _ (List.getElem_mem hn)) hl hw
  have mm := s_made_mixed (k+5) h.len hm h.one (by omega) hw
  have rn := get_row hn
  have er := h.ent _ (List.getElem_mem hn)
  rw [u_is_mixture_paper]
  cases q : decide (0 < ws.sum) && atMost (mixed rs ws m) (timesR ws.sum rs[n]) with
  | true =>
    rw [q] at ps
    have hc : ev (runF tb (k+6)) c_is_mixture_paper_0 [.val (.tuple (rs.map rowD)), .val (.int n), .val (rowD ws), .val (.tuple (rs.map rowD)), .val (.int ws.sum), .val (rowD (mixed rs ws m)), .no] = .ok (.rv (.o ((timesR ws.sum rs[n]).map .int))) [.val (.tuple (rs.map rowD)), .val (.int n), .val (rowD ws), .val (.tuple (rs.map rowD)), .val (.int ws.sum), .val (rowD (mixed rs ws m)), .no] := by
      rw [List.map_map]
      refine comp_map .int (fun x => .int (ws.sum * x)) ?_ (by have := er.2.1; unfold LINE; omega) rfl fun x hx => ⟨[.val (.tuple (rs.map rowD)), .val (.int n), .val (rowD ws), .val (.tuple (rs.map rowD)), .val (.int ws.sum), .val (rowD (mixed rs ws m)), .val (.int x)], .v (.int (ws.sum * x)), rfl, rfl, by simp only [ev, R.rv, R.rvs, R.dsk, R.bnd, testR, partR, rd, rds, fz, fzs, nrm, optR, keepS, storable, tru, isD, tyN, Ty.sub, List.any_cons, List.any_nil, List.all_cons, List.all_nil, doCall, mkArgs, lent, isOwnS, noDup, putOuts, argsFit, endF, outsF, startF, bindT, bindTs, List.getElem?_cons_zero, List.getElem?_cons_succ, List.getElem?_nil, List.map_cons, List.map_nil, List.length_cons, List.length_nil, List.replicate, List.cons_append, List.nil_append, List.set_cons_zero, List.set_cons_succ, Option.bind, Option.map, Bool.and_true, Bool.true_and, Bool.and_false, Bool.false_and, Bool.or_true, Bool.true_or, Bool.or_false, Bool.false_or, Bool.not_true, Bool.not_false, Bool.not_not, if_true, if_false, Bool.false_eq_true, reduceIte, reduceCtorEq, decide_true, decide_false, List.isEmpty_nil, List.isEmpty_cons, beq_self_eq_true, Nat.reduceAdd, Nat.reduceSub, Nat.reduceLeDiff, Nat.reduceLT, List.contains_nil, it_l, it_t, it_r, ty_r, b_add, b_sub, b_mul, b_mod, b_fdiv, b_addt, b_addl, b_pow3, b_pow6, b_pow12, b_pow18, i_t, i_l, i_r, sl_t, sl_l, p_len_l, p_len_t, p_len_r, p_abs, p_int, p_intB, p_tup_l, p_tup_t, p_lst_l, p_lst_t, p_sum_l, p_sum_t, p_sum_r, p_all, p_any, p_max2, p_min2, isNon, nolistR, nolist, and_self, and_true, true_and, mul_ok2 (ent_63 er x hx)], rfl⟩
      simp only [ev, R.rv, R.rvs, R.dsk, R.bnd, testR, partR, rd, rds, fz, fzs, nrm, optR, keepS, storable, tru, isD, tyN, Ty.sub, List.any_cons, List.any_nil, List.all_cons, List.all_nil, doCall, mkArgs, lent, isOwnS, noDup, putOuts, argsFit, endF, outsF, startF, bindT, bindTs, List.getElem?_cons_zero, List.getElem?_cons_succ, List.getElem?_nil, List.map_cons, List.map_nil, List.length_cons, List.length_nil, List.replicate, List.cons_append, List.nil_append, List.set_cons_zero, List.set_cons_succ, Option.bind, Option.map, Bool.and_true, Bool.true_and, Bool.and_false, Bool.false_and, Bool.or_true, Bool.true_or, Bool.or_false, Bool.false_or, Bool.not_true, Bool.not_false, Bool.not_not, if_true, if_false, Bool.false_eq_true, reduceIte, reduceCtorEq, decide_true, decide_false, List.isEmpty_nil, List.isEmpty_cons, beq_self_eq_true, Nat.reduceAdd, Nat.reduceSub, Nat.reduceLeDiff, Nat.reduceLT, List.contains_nil, it_l, it_t, it_r, ty_r, b_add, b_sub, b_mul, b_mod, b_fdiv, b_addt, b_addl, b_pow3, b_pow6, b_pow12, b_pow18, i_t, i_l, i_r, sl_t, sl_l, p_len_l, p_len_t, p_len_r, p_abs, p_int, p_intB, p_tup_l, p_tup_t, p_lst_l, p_lst_t, p_sum_l, p_sum_t, p_sum_r, p_all, p_any, p_max2, p_min2, isNon, nolistR, nolist, and_self, and_true, true_and, rn]
      rfl
    have ne := ne_row (mixed rs ws m) (timesR ws.sum rs[n])
    have e2 : PyData.tuple ((timesR ws.sum rs[n]).map .int) = rowD (timesR ws.sum rs[n]) := rfl
    simp only [ev, R.rv, R.rvs, R.dsk, R.bnd, testR, partR, rd, rds, fz, fzs, nrm, optR, keepS, storable, tru, isD, tyN, Ty.sub, List.any_cons, List.any_nil, List.all_cons, List.all_nil, doCall, mkArgs, lent, isOwnS, noDup, putOuts, argsFit, endF, outsF, startF, bindT, bindTs, List.getElem?_cons_zero, List.getElem?_cons_succ, List.getElem?_nil, List.map_cons, List.map_nil, List.length_cons, List.length_nil, List.replicate, List.cons_append, List.nil_append, List.set_cons_zero, List.set_cons_succ, Option.bind, Option.map, Bool.and_true, Bool.true_and, Bool.and_false, Bool.false_and, Bool.or_true, Bool.true_or, Bool.or_false, Bool.false_or, Bool.not_true, Bool.not_false, Bool.not_not, if_true, if_false, Bool.false_eq_true, reduceIte, reduceCtorEq, decide_true, decide_false, List.isEmpty_nil, List.isEmpty_cons, beq_self_eq_true, Nat.reduceAdd, Nat.reduceSub, Nat.reduceLeDiff, Nat.reduceLT, List.contains_nil, it_l, it_t, it_r, ty_r, b_add, b_sub, b_mul, b_mod, b_fdiv, b_addt, b_addl, b_pow3, b_pow6, b_pow12, b_pow18, i_t, i_l, i_r, sl_t, sl_l, p_len_l, p_len_t, p_len_r, p_abs, p_int, p_intB, p_tup_l, p_tup_t, p_lst_l, p_lst_t, p_sum_l, p_sum_t, p_sum_r, p_all, p_any, p_max2, p_min2, isNon, nolistR, nolist, and_self, and_true, true_and, f_is_mixture_paper, nb, rn, ps, mm, hc, e2, ne]
  | false =>
    rw [q] at ps
    simp only [ev, R.rv, R.rvs, R.dsk, R.bnd, testR, partR, rd, rds, fz, fzs, nrm, optR, keepS, storable, tru, isD, tyN, Ty.sub, List.any_cons, List.any_nil, List.all_cons, List.all_nil, doCall, mkArgs, lent, isOwnS, noDup, putOuts, argsFit, endF, outsF, startF, bindT, bindTs, List.getElem?_cons_zero, List.getElem?_cons_succ, List.getElem?_nil, List.map_cons, List.map_nil, List.length_cons, List.length_nil, List.replicate, List.cons_append, List.nil_append, List.set_cons_zero, List.set_cons_succ, Option.bind, Option.map, Bool.and_true, Bool.true_and, Bool.and_false, Bool.false_and, Bool.or_true, Bool.true_or, Bool.or_false, Bool.false_or, Bool.not_true, Bool.not_false, Bool.not_not, if_true, if_false, Bool.false_eq_true, reduceIte, reduceCtorEq, decide_true, decide_false, List.isEmpty_nil, List.isEmpty_cons, beq_self_eq_true, Nat.reduceAdd, Nat.reduceSub, Nat.reduceLeDiff, Nat.reduceLT, List.contains_nil, it_l, it_t, it_r, ty_r, b_add, b_sub, b_mul, b_mod, b_fdiv, b_addt, b_addl, b_pow3, b_pow6, b_pow12, b_pow18, i_t, i_l, i_r, sl_t, sl_l, p_len_l, p_len_t, p_len_r, p_abs, p_int, p_intB, p_tup_l, p_tup_t, p_lst_l, p_lst_t, p_sum_l, p_sum_t, p_sum_r, p_all, p_any, p_max2, p_min2, isNon, nolistR, nolist, and_self, and_true, true_and, f_is_mixture_paper, nb, rn, ps]
theorem s_mixed {rs : List (List Int)} {m : Nat} (h : Set40 rs m) (hm : m ≤ 5) {ws : List Int} (hl : ws.length = rs.length) (hw : ∀ w ∈ ws, 0 ≤ w ∧ w ≤ 1000000000000) (hs : 0 < ws.sum) :
    runF tb (k+6) "mixed" [.d (.tuple (rs.map rowD)), .d (rowD ws)] = .ok (.v (.tuple [.int ws.sum, rowD (mixed rs ws m)])) [] := by
  have few := h.few
  have mx := s_is_mixture (k+1) (rs := rs) (ws := ws) hl (fun w hw' => (hw w hw').1) (by omega)
  rw [decide_eq_true hs] at mx
  have mm := s_made_mixed (k+4) (ws := ws) h.len hm h.one (by omega) (fun w hw' => ⟨(hw w hw').1, by have := (hw w hw').2; omega⟩)
  have hc : ev (runF tb (k+5)) c_mixed_0 [.val (.tuple (rs.map rowD)), .val (rowD ws), .val (.tuple (rs.map rowD)), .val (rowD ws), .no] = .ok (.rv (.o (ws.map fun _ => .bool true))) [.val (.tuple (rs.map rowD)), .val (rowD ws), .val (.tuple (rs.map rowD)), .val (rowD ws), .no] := by
    refine comp_map .int (fun _ => .bool true) rfl (by unfold LINE; omega) rfl fun w hw' => ⟨[.val (.tuple (rs.map rowD)), .val (rowD ws), .val (.tuple (rs.map rowD)), .val (rowD ws), .val (.int w)], .v (.bool true), rfl, rfl, ?_, rfl⟩
    have h1 := (hw w hw').1
    have h2 := (hw w hw').2
    simp only [ev, R.rv, R.rvs, R.dsk, R.bnd, testR, partR, rd, rds, fz, fzs, nrm, optR, keepS, storable, tru, isD, tyN, Ty.sub, List.any_cons, List.any_nil, List.all_cons, List.all_nil, doCall, mkArgs, lent, isOwnS, noDup, putOuts, argsFit, endF, outsF, startF, bindT, bindTs, List.getElem?_cons_zero, List.getElem?_cons_succ, List.getElem?_nil, List.map_cons, List.map_nil, List.length_cons, List.length_nil, List.replicate, List.cons_append, List.nil_append, List.set_cons_zero, List.set_cons_succ, Option.bind, Option.map, Bool.and_true, Bool.true_and, Bool.and_false, Bool.false_and, Bool.or_true, Bool.true_or, Bool.or_false, Bool.false_or, Bool.not_true, Bool.not_false, Bool.not_not, if_true, if_false, Bool.false_eq_true, reduceIte, reduceCtorEq, decide_true, decide_false, List.isEmpty_nil, List.isEmpty_cons, beq_self_eq_true, Nat.reduceAdd, Nat.reduceSub, Nat.reduceLeDiff, Nat.reduceLT, List.contains_nil, it_l, it_t, it_r, ty_r, b_add, b_sub, b_mul, b_mod, b_fdiv, b_addt, b_addl, b_pow3, b_pow6, b_pow12, b_pow18, i_t, i_l, i_r, sl_t, sl_l, p_len_l, p_len_t, p_len_r, p_abs, p_int, p_intB, p_tup_l, p_tup_t, p_lst_l, p_lst_t, p_sum_l, p_sum_t, p_sum_r, p_all, p_any, p_max2, p_min2, isNon, nolistR, nolist, and_self, and_true, true_and, s_between (k+3), h1, h2]
  have e : (ws.map fun _ => PyData.bool true) = (ws.map fun _ => true).map .bool := by rw [List.map_map]; rfl
  have ht : (ws.map fun _ => true).all id = true := by rw [List.all_map]; exact List.all_eq_true.mpr fun _ _ => rfl
  rw [u_mixed]
  simp only [ev, R.rv, R.rvs, R.dsk, R.bnd, testR, partR, rd, rds, fz, fzs, nrm, optR, keepS, storable, tru, isD, tyN, Ty.sub, List.any_cons, List.any_nil, List.all_cons, List.all_nil, doCall, mkArgs, lent, isOwnS, noDup, putOuts, argsFit, endF, outsF, startF, bindT, bindTs, List.getElem?_cons_zero, List.getElem?_cons_succ, List.getElem?_nil, List.map_cons, List.map_nil, List.length_cons, List.length_nil, List.replicate, List.cons_append, List.nil_append, List.set_cons_zero, List.set_cons_succ, Option.bind, Option.map, Bool.and_true, Bool.true_and, Bool.and_false, Bool.false_and, Bool.or_true, Bool.true_or, Bool.or_false, Bool.false_or, Bool.not_true, Bool.not_false, Bool.not_not, if_true, if_false, Bool.false_eq_true, reduceIte, reduceCtorEq, decide_true, decide_false, List.isEmpty_nil, List.isEmpty_cons, beq_self_eq_true, Nat.reduceAdd, Nat.reduceSub, Nat.reduceLeDiff, Nat.reduceLT, List.contains_nil, it_l, it_t, it_r, ty_r, b_add, b_sub, b_mul, b_mod, b_fdiv, b_addt, b_addl, b_pow3, b_pow6, b_pow12, b_pow18, i_t, i_l, i_r, sl_t, sl_l, p_len_l, p_len_t, p_len_r, p_abs, p_int, p_intB, p_tup_l, p_tup_t, p_lst_l, p_lst_t, p_sum_l, p_sum_t, p_sum_r, p_all, p_any, p_max2, p_min2, isNon, nolistR, nolist, and_self, and_true, true_and, f_mixed, s_sure_set k h, s_tuple_row (k+3) ws (by omega), mx, hc, e, boolsOf_map, ht, s_sure (k+4), s_look (k+4) (rs := rs) (by omega) h.len, mm]
/-! ### draws -/
def Box (n : Nat) (bx : List D) : Prop := ∃ b0 b1 b2 : Int, bx = [.int b0, .int b1, .int b2] ∧ 0 ≤ b0 ∧ 0 ≤ b1 ∧ b1 < 2 ^ 62 ∧ 0 ≤ b2 ∧ b2 ≤ n
theorem log_ok {j : Int} (h : 0 < j) (h' : j < 2 ^ 63) : 0 < j ∧ j.natAbs.log2 < 9000 := by
  refine ⟨h, ?_⟩
  have h1 : j.natAbs < 2 ^ 63 := by omega
  have h2 : j.natAbs.log2 < 63 := (Nat.log2_lt (by omega)).mpr h1
  omega
theorem at3 (a b c : D) : atI [a, b, c] 0 = some a ∧ atI [a, b, c] 1 = some b ∧ atI [a, b, c] 2 = some c := ⟨rfl, rfl, rfl⟩
theorem ix3 : ixN 3 0 = some 0 ∧ ixN 3 2 = some 2 := ⟨rfl, rfl⟩
theorem s_take {n : Nat} {bx : List D} (hb : Box n bx) (hn : n < 2 ^ 30) {z : Int} (hz : 0 < z) (hz2 : z < 2 ^ 63) : ∃ (r : Int) (bx' : List D), runF tb (k+1) "_law_take" [.io bx, .d (.int z)] = .ok (.v (.int r)) [bx'] ∧ 0 ≤ r ∧ r < z ∧ Box (n + 1) bx' := by
  obtain ⟨b0, b1, b2, rfl, h0, h1, h1', h2, h2'⟩ := hb
  by_cases q : 0 < b0
  · refine ⟨b0 % z, [.int (b0 / z), .int b1, .int b2], ?_, Int.emod_nonneg _ (by omega), Int.emod_lt_of_pos _ hz, _, _, _, rfl, Int.ediv_nonneg h0 (by omega), h1, h1', h2, by omega⟩
    rw [u_law_take]
    simp only [ev, R.rv, R.rvs, R.dsk, R.bnd, testR, partR, rd, rds, fz, fzs, nrm, optR, keepS, storable, tru, isD, tyN, Ty.sub, List.any_cons, List.any_nil, List.all_cons, List.all_nil, doCall, mkArgs, lent, isOwnS, noDup, putOuts, argsFit, endF, outsF, startF, bindT, bindTs, List.getElem?_cons_zero, List.getElem?_cons_succ, List.getElem?_nil, List.map_cons, List.map_nil, List.length_cons, List.length_nil, List.replicate, List.cons_append, List.nil_append, List.set_cons_zero, List.set_cons_succ, Option.bind, Option.map, Bool.and_true, Bool.true_and, Bool.and_false, Bool.false_and, Bool.or_true, Bool.true_or, Bool.or_false, Bool.false_or, Bool.not_true, Bool.not_false, Bool.not_not, if_true, if_false, Bool.false_eq_true, reduceIte, reduceCtorEq, decide_true, decide_false, List.isEmpty_nil, List.isEmpty_cons, beq_self_eq_true, Nat.reduceAdd, Nat.reduceSub, Nat.reduceLeDiff, Nat.reduceLT, List.contains_nil, it_l, it_t, it_r, ty_r, b_add, b_sub, b_mul, b_mod, b_fdiv, b_addt, b_addl, b_pow3, b_pow6, b_pow12, b_pow18, i_t, i_l, i_r, sl_t, sl_l, p_len_l, p_len_t, p_len_r, p_abs, p_int, p_intB, p_tup_l, p_tup_t, p_lst_l, p_lst_t, p_sum_l, p_sum_t, p_sum_r, p_all, p_any, p_max2, p_min2, isNon, nolistR, nolist, and_self, and_true, true_and, f_law_take, s_law_take_0, s_law_take_1, s_law_take_2, s_law_take_3, s_law_take_4, s_law_take_5, at3, c_gt, q, hz, log_ok hz hz2, ix3]
  · have a1 := mul_ok (i := 48271) (j := b2 + 1) (by omega)
    have a2 := mul_ok2 (i := b1 + 48271 * (b2 + 1)) (j := 39373 + (b2 + 1)) (by omega)
    generalize ho : ((b1 + 48271 * (b2 + 1)) * (39373 + (b2 + 1))) % 2147483647 = once
    have o0 : 0 ≤ once := by rw [← ho]; exact Int.emod_nonneg _ (by omega)
    have f0 : 0 ≤ once % 40009 := Int.emod_nonneg _ (by omega)
    have f1 : once % 40009 < 40009 := Int.emod_lt_of_pos _ (by omega)
    have a3 := mul_ok2 (i := once + (b2 + 1) + b1 / 1000003) (j := once % 40009 + 7) (by omega)
    generalize ht : ((once + (b2 + 1) + b1 / 1000003) * (once % 40009 + 7)) % 2147483629 = twice
    have a4 := mul_ok2 (i := twice) (j := 48271) (by omega)
    refine ⟨((twice * 48271 + once) % 2147483587 / 64) % z, [.int b0, .int b1, .int (b2 + 1)], ?_, Int.emod_nonneg _ (by omega), Int.emod_lt_of_pos _ hz, _, _, _, rfl, h0, h1, h1', by omega, by omega⟩
    have c1 : (0 : Int) < 2147483647 := by omega
    have c2 : (0 : Int) < 40009 := by omega
    have c3 : (0 : Int) < 2147483629 := by omega
    have c4 : (0 : Int) < 2147483587 := by omega
    have l1 := log_ok (j := 1000003) (by omega) (by omega)
    have l2 := log_ok (j := 64) (by omega) (by omega)
    rw [u_law_take]
    simp only [ev, R.rv, R.rvs, R.dsk, R.bnd, testR, partR, rd, rds, fz, fzs, nrm, optR, keepS, storable, tru, isD, tyN, Ty.sub, List.any_cons, List.any_nil, List.all_cons, List.all_nil, doCall, mkArgs, lent, isOwnS, noDup, putOuts, argsFit, endF, outsF, startF, bindT, bindTs, List.getElem?_cons_zero, List.getElem?_cons_succ, List.getElem?_nil, List.map_cons, List.map_nil, List.length_cons, List.length_nil, List.replicate, List.cons_append, List.nil_append, List.set_cons_zero, List.set_cons_succ, Option.bind, Option.map, Bool.and_true, Bool.true_and, Bool.and_false, Bool.false_and, Bool.or_true, Bool.true_or, Bool.or_false, Bool.false_or, Bool.not_true, Bool.not_false, Bool.not_not, if_true, if_false, Bool.false_eq_true, reduceIte, reduceCtorEq, decide_true, decide_false, List.isEmpty_nil, List.isEmpty_cons, beq_self_eq_true, Nat.reduceAdd, Nat.reduceSub, Nat.reduceLeDiff, Nat.reduceLT, List.contains_nil, it_l, it_t, it_r, ty_r, b_add, b_sub, b_mul, b_mod, b_fdiv, b_addt, b_addl, b_pow3, b_pow6, b_pow12, b_pow18, i_t, i_l, i_r, sl_t, sl_l, p_len_l, p_len_t, p_len_r, p_abs, p_int, p_intB, p_tup_l, p_tup_t, p_lst_l, p_lst_t, p_sum_l, p_sum_t, p_sum_r, p_all, p_any, p_max2, p_min2, isNon, nolistR, nolist, and_self, and_true, true_and, f_law_take, s_law_take_0, s_law_take_1, s_law_take_2, s_law_take_3, s_law_take_4, s_law_take_5, at3, c_gt, q, ix3, a1, a2, c1, ho, c2, l1, a3, c3, ht, a4, c4, l2, hz]
theorem nl_int (x : Int) : nolist (.int x) = true := rfl
theorem nl_ints : ∀ ns : List Int, nolists (ns.map .int) = true
  | [] => rfl
  | n :: ns => nl_ints ns
theorem box_nl {n : Nat} {bx : List D} (h : Box n bx) : nolists bx = true := by
  obtain ⟨_, _, _, rfl, _⟩ := h
  rfl
theorem s_of {n : Nat} {bx : List D} (hb : Box n bx) (hn : n < 2 ^ 30) {ns : List Int} (h1 : ns ≠ []) (hl : ns.length < 1000) : ∃ (x : Int) (bx' : List D), runF tb (k+2) "_law_of" [.io bx, .d (.list (ns.map .int))] = .ok (.v (.int x)) [bx'] ∧ x ∈ ns ∧ Box (n + 1) bx' := by
  have hp : 0 < ns.length := List.length_pos_iff.mpr h1
  obtain ⟨r, bx', h2, h3, h4, h5⟩ := s_take k hb hn (z := (ns.length : Int)) (by omega) (by omega)
  have hr : r.toNat < ns.length := by omega
  have e : ((r.toNat : Nat) : Int) = r := by omega
  have g : atI (ns.map PyData.int) r = some (.int ns[r.toNat]) := by
    have := at_nat (xs := ns.map PyData.int) (i := r.toNat) (by rw [List.length_map]; exact hr)
    rw [e, List.getElem_map] at this
    exact this
  refine ⟨ns[r.toNat], bx', ?_, List.getElem_mem _, h5⟩
  rw [u_law_of]
  simp only [ev, R.rv, R.rvs, R.dsk, R.bnd, testR, partR, rd, rds, fz, fzs, nrm, optR, keepS, storable, tru, isD, tyN, Ty.sub, List.any_cons, List.any_nil, List.all_cons, List.all_nil, doCall, mkArgs, lent, isOwnS, noDup, putOuts, argsFit, endF, outsF, startF, bindT, bindTs, List.getElem?_cons_zero, List.getElem?_cons_succ, List.getElem?_nil, List.map_cons, List.map_nil, List.length_cons, List.length_nil, List.replicate, List.cons_append, List.nil_append, List.set_cons_zero, List.set_cons_succ, Option.bind, Option.map, Bool.and_true, Bool.true_and, Bool.and_false, Bool.false_and, Bool.or_true, Bool.true_or, Bool.or_false, Bool.false_or, Bool.not_true, Bool.not_false, Bool.not_not, if_true, if_false, Bool.false_eq_true, reduceIte, reduceCtorEq, decide_true, decide_false, List.isEmpty_nil, List.isEmpty_cons, beq_self_eq_true, Nat.reduceAdd, Nat.reduceSub, Nat.reduceLeDiff, Nat.reduceLT, List.contains_nil, it_l, it_t, it_r, ty_r, b_add, b_sub, b_mul, b_mod, b_fdiv, b_addt, b_addl, b_pow3, b_pow6, b_pow12, b_pow18, i_t, i_l, i_r, sl_t, sl_l, p_len_l, p_len_t, p_len_r, p_abs, p_int, p_intB, p_tup_l, p_tup_t, p_lst_l, p_lst_t, p_sum_l, p_sum_t, p_sum_r, p_all, p_any, p_max2, p_min2, isNon, nolistR, nolist, and_self, and_true, true_and, f_law_of, len_row, h2, g]
theorem s_of7 {n : Nat} {bx : List D} (hb : Box n bx) (hn : n < 2 ^ 30) (x y : Int) (hx : 0 ≤ x ∧ x ≤ 1000000) (hy : 0 ≤ y ∧ y ≤ 1000000) : ∃ (r : Int) (bx' : List D), runF tb (k+2) "_law_of" [.io bx, .d (.list [.int 0, .int 1, .int 1000000, .int (1000000 - 1), .int 999, .int x, .int y])] = .ok (.v (.int r)) [bx'] ∧ 0 ≤ r ∧ r ≤ 1000000 ∧ Box (n + 1) bx' := by
  obtain ⟨r, bx', h1, h2, h3⟩ := s_of k hb hn (ns := [0, 1, 1000000, 1000000 - 1, 999, x, y]) (by simp) (by simp)
  refine ⟨r, bx', h1, ?_, ?_, h3⟩
  · simp only [List.mem_cons, List.not_mem_nil, or_false] at h2
    omega
  · simp only [List.mem_cons, List.not_mem_nil, or_false] at h2
    omega
theorem s_law_number {n : Nat} {bx : List D} (hb : Box n bx) (hn : n + 3 < 2 ^ 30) : ∃ (x : Int) (bx' : List D), runF tb (k+3) "_law_number" [.io bx] = .ok (.v (.int x)) [bx'] ∧ 0 ≤ x ∧ x ≤ 1000000 ∧ Box (n + 3) bx' := by
  obtain ⟨x1, b1, h1, h2, h3, h4⟩ := s_take (k+1) hb (by omega) (z := 1000000) (by omega) (by omega)
  obtain ⟨x2, b2, g1, g2, g3, g4⟩ := s_take (k+1) h4 (by omega) (z := 1000) (by omega) (by omega)
  obtain ⟨x3, b3, q1, q2, q3, q4⟩ := s_of7 k g4 (by omega) x1 x2 (by omega) (by omega)
  refine ⟨x3, b3, ?_, q2, q3, q4⟩
  have l7 : (0 + 1 + 1 + 1 + 1 + 1 + 1 + 1 : Nat) ≤ LINE := by unfold LINE; omega
  have l7' : (7 : Nat) ≤ LINE := by unfold LINE; omega
  rw [u_law_number]
  simp only [ev, R.rv, R.rvs, R.dsk, R.bnd, testR, partR, rd, rds, fz, fzs, nrm, optR, keepS, storable, tru, isD, tyN, Ty.sub, List.any_cons, List.any_nil, List.all_cons, List.all_nil, doCall, mkArgs, lent, isOwnS, noDup, putOuts, argsFit, endF, outsF, startF, bindT, bindTs, List.getElem?_cons_zero, List.getElem?_cons_succ, List.getElem?_nil, List.map_cons, List.map_nil, List.length_cons, List.length_nil, List.replicate, List.cons_append, List.nil_append, List.set_cons_zero, List.set_cons_succ, Option.bind, Option.map, Bool.and_true, Bool.true_and, Bool.and_false, Bool.false_and, Bool.or_true, Bool.true_or, Bool.or_false, Bool.false_or, Bool.not_true, Bool.not_false, Bool.not_not, if_true, if_false, Bool.false_eq_true, reduceIte, reduceCtorEq, decide_true, decide_false, List.isEmpty_nil, List.isEmpty_cons, beq_self_eq_true, Nat.reduceAdd, Nat.reduceSub, Nat.reduceLeDiff, Nat.reduceLT, List.contains_nil, it_l, it_t, it_r, ty_r, b_add, b_sub, b_mul, b_mod, b_fdiv, b_addt, b_addl, b_pow3, b_pow6, b_pow12, b_pow18, i_t, i_l, i_r, sl_t, sl_l, p_len_l, p_len_t, p_len_r, p_abs, p_int, p_intB, p_tup_l, p_tup_t, p_lst_l, p_lst_t, p_sum_l, p_sum_t, p_sum_r, p_all, p_any, p_max2, p_min2, isNon, nolistR, nolist, and_self, and_true, true_and, f_law_number, h1, g1, l7, l7', q1]
end
/-! ### the same data twice -/
mutual
def okD : D → Bool
  | .none => true
  | .bool _ => true
  | .int _ => true
  | .str _ => true
  | .list xs => decide (xs.length ≤ 1000) && okDs xs
  | .tuple xs => decide (xs.length ≤ 1000) && okDs xs
  | .dict _ => false
def okDs : List D → Bool
  | [] => true
  | x :: r => okD x && okDs r
end
mutual
def hgt : D → Nat
  | .list xs => hgts xs + 1
  | .tuple xs => hgts xs + 1
  | _ => 0
def hgts : List D → Nat
  | [] => 0
  | x :: r => max (hgt x) (hgts r)
end
theorem c_eqS (s : Str) : cmpD .Eq (.str s) (.str s) = some true := by
  have e : cmpD .Eq (.str s) (.str s) = if cmpOk (.str s) (.str s) then some (s == s) else none := rfl
  have d : (PyData.str s).depth ≤ 190 := by simp [PyData.depth]
  rw [e, cmpOk_of d, if_pos rfl, beq_self_eq_true]
theorem c_is (d : D) : cmpD .Is d .none = some (isNon d) := by cases d <;> rfl
theorem zip_self : ∀ xs : List D, zipF xs xs = xs.map fun x => .tuple [x, x]
  | [] => rfl
  | x :: r => by
    show PyData.tuple [x, x] :: zipF r r = _
    rw [zip_self r]
    rfl
theorem same_seq (n : Nat) (xs : List D) (kd : Bool) (hl : xs.length ≤ 1000) (h : ∀ x ∈ xs, runF tb n "_law_same" [.d x, .d x] = .ok (.v (.bool true)) []) :
    runF tb (n+1) "_law_same" [.d (if kd = true then .tuple xs else .list xs), .d (if kd = true then .tuple xs else .list xs)] = .ok (.v (.bool true)) [] := by
  have hc : ∀ Y, (Y = .tuple xs ∨ Y = .list xs) → ev (runF tb n) c_law_same_0 [.val Y, .val Y, .no, .no] = .ok (.rv (.o (xs.map fun _ => .bool true))) [.val Y, .val Y, .no, .no] := by
    intro Y hY
    refine comp_map (fun x => .tuple [x, x]) (fun _ => .bool true) (by rw [← zip_self]; rcases hY with rfl | rfl <;> rfl) (by unfold LINE; omega) rfl fun x hx => ⟨[.val Y, .val Y, .val x, .val x], .v (.bool true), rfl, rfl, ?_, rfl⟩
    simp only [ev, R.rv, R.rvs, R.dsk, R.bnd, testR, partR, rd, rds, fz, fzs, nrm, optR, keepS, storable, tru, isD, tyN, Ty.sub, List.any_cons, List.any_nil, List.all_cons, List.all_nil, doCall, mkArgs, lent, isOwnS, noDup, putOuts, argsFit, endF, outsF, startF, bindT, bindTs, List.getElem?_cons_zero, List.getElem?_cons_succ, List.getElem?_nil, List.map_cons, List.map_nil, List.length_cons, List.length_nil, List.replicate, List.cons_append, List.nil_append, List.set_cons_zero, List.set_cons_succ, Option.bind, Option.map, Bool.and_true, Bool.true_and, Bool.and_false, Bool.false_and, Bool.or_true, Bool.true_or, Bool.or_false, Bool.false_or, Bool.not_true, Bool.not_false, Bool.not_not, if_true, if_false, Bool.false_eq_true, reduceIte, reduceCtorEq, decide_true, decide_false, List.isEmpty_nil, List.isEmpty_cons, beq_self_eq_true, Nat.reduceAdd, Nat.reduceSub, Nat.reduceLeDiff, Nat.reduceLT, List.contains_nil, it_l, it_t, it_r, ty_r, b_add, b_sub, b_mul, b_mod, b_fdiv, b_addt, b_addl, b_pow3, b_pow6, b_pow12, b_pow18, i_t, i_l, i_r, sl_t, sl_l, p_len_l, p_len_t, p_len_r, p_abs, p_int, p_intB, p_tup_l, p_tup_t, p_lst_l, p_lst_t, p_sum_l, p_sum_t, p_sum_r, p_all, p_any, p_max2, p_min2, isNon, nolistR, nolist, and_self, and_true, true_and, h x hx]
  have e : (xs.map fun _ => PyData.bool true) = (xs.map fun _ => true).map .bool := by rw [List.map_map]; rfl
  have ht : (xs.map fun _ => true).all id = true := by rw [List.all_map]; exact List.all_eq_true.mpr fun _ _ => rfl
  cases kd with
  | true =>
    rw [if_pos rfl, u_law_same]
    simp only [ev, R.rv, R.rvs, R.dsk, R.bnd, testR, partR, rd, rds, fz, fzs, nrm, optR, keepS, storable, tru, isD, tyN, Ty.sub, List.any_cons, List.any_nil, List.all_cons, List.all_nil, doCall, mkArgs, lent, isOwnS, noDup, putOuts, argsFit, endF, outsF, startF, bindT, bindTs, List.getElem?_cons_zero, List.getElem?_cons_succ, List.getElem?_nil, List.map_cons, List.map_nil, List.length_cons, List.length_nil, List.replicate, List.cons_append, List.nil_append, List.set_cons_zero, List.set_cons_succ, Option.bind, Option.map, Bool.and_true, Bool.true_and, Bool.and_false, Bool.false_and, Bool.or_true, Bool.true_or, Bool.or_false, Bool.false_or, Bool.not_true, Bool.not_false, Bool.not_not, if_true, if_false, Bool.false_eq_true, reduceIte, reduceCtorEq, decide_true, decide_false, List.isEmpty_nil, List.isEmpty_cons, beq_self_eq_true, Nat.reduceAdd, Nat.reduceSub, Nat.reduceLeDiff, Nat.reduceLT, List.contains_nil, it_l, it_t, it_r, ty_r, b_add, b_sub, b_mul, b_mod, b_fdiv, b_addt, b_addl, b_pow3, b_pow6, b_pow12, b_pow18, i_t, i_l, i_r, sl_t, sl_l, p_len_l, p_len_t, p_len_r, p_abs, p_int, p_intB, p_tup_l, p_tup_t, p_lst_l, p_lst_t, p_sum_l, p_sum_t, p_sum_r, p_all, p_any, p_max2, p_min2, isNon, nolistR, nolist, and_self, and_true, true_and, f_law_same, hc _ (.inl rfl), e, boolsOf_map, ht, c_neB, c_eq]
  | false =>
    rw [if_neg Bool.false_ne_true, u_law_same]
    simp only [ev, R.rv, R.rvs, R.dsk, R.bnd, testR, partR, rd, rds, fz, fzs, nrm, optR, keepS, storable, tru, isD, tyN, Ty.sub, List.any_cons, List.any_nil, List.all_cons, List.all_nil, doCall, mkArgs, lent, isOwnS, noDup, putOuts, argsFit, endF, outsF, startF, bindT, bindTs, List.getElem?_cons_zero, List.getElem?_cons_succ, List.getElem?_nil, List.map_cons, List.map_nil, List.length_cons, List.length_nil, List.replicate, List.cons_append, List.nil_append, List.set_cons_zero, List.set_cons_succ, Option.bind, Option.map, Bool.and_true, Bool.true_and, Bool.and_false, Bool.false_and, Bool.or_true, Bool.true_or, Bool.or_false, Bool.false_or, Bool.not_true, Bool.not_false, Bool.not_not, if_true, if_false, Bool.false_eq_true, reduceIte, reduceCtorEq, decide_true, decide_false, List.isEmpty_nil, List.isEmpty_cons, beq_self_eq_true, Nat.reduceAdd, Nat.reduceSub, Nat.reduceLeDiff, Nat.reduceLT, List.contains_nil, it_l, it_t, it_r, ty_r, b_add, b_sub, b_mul, b_mod, b_fdiv, b_addt, b_addl, b_pow3, b_pow6, b_pow12, b_pow18, i_t, i_l, i_r, sl_t, sl_l, p_len_l, p_len_t, p_len_r, p_abs, p_int, p_intB, p_tup_l, p_tup_t, p_lst_l, p_lst_t, p_sum_l, p_sum_t, p_sum_r, p_all, p_any, p_max2, p_min2, isNon, nolistR, nolist, and_self, and_true, true_and, f_law_same, hc _ (.inr rfl), e, boolsOf_map, ht, c_neB, c_eq]
mutual
theorem s_same : ∀ (d : D) (n : Nat), okD d = true → hgt d < n → runF tb n "_law_same" [.d d, .d d] = .ok (.v (.bool true)) []
  | _, 0, _, h => absurd h (Nat.not_lt_zero _)
  | .none, n + 1, _, _ => by rfl
  | .bool b, n + 1, _, _ => by cases b <;> rfl
  | .int i, n + 1, _, _ => by
    rw [u_law_same]
    simp only [ev, R.rv, R.rvs, R.dsk, R.bnd, testR, partR, rd, rds, fz, fzs, nrm, optR, keepS, storable, tru, isD, tyN, Ty.sub, List.any_cons, List.any_nil, List.all_cons, List.all_nil, doCall, mkArgs, lent, isOwnS, noDup, putOuts, argsFit, endF, outsF, startF, bindT, bindTs, List.getElem?_cons_zero, List.getElem?_cons_succ, List.getElem?_nil, List.map_cons, List.map_nil, List.length_cons, List.length_nil, List.replicate, List.cons_append, List.nil_append, List.set_cons_zero, List.set_cons_succ, Option.bind, Option.map, Bool.and_true, Bool.true_and, Bool.and_false, Bool.false_and, Bool.or_true, Bool.true_or, Bool.or_false, Bool.false_or, Bool.not_true, Bool.not_false, Bool.not_not, if_true, if_false, Bool.false_eq_true, reduceIte, reduceCtorEq, decide_true, decide_false, List.isEmpty_nil, List.isEmpty_cons, beq_self_eq_true, Nat.reduceAdd, Nat.reduceSub, Nat.reduceLeDiff, Nat.reduceLT, List.contains_nil, it_l, it_t, it_r, ty_r, b_add, b_sub, b_mul, b_mod, b_fdiv, b_addt, b_addl, b_pow3, b_pow6, b_pow12, b_pow18, i_t, i_l, i_r, sl_t, sl_l, p_len_l, p_len_t, p_len_r, p_abs, p_int, p_intB, p_tup_l, p_tup_t, p_lst_l, p_lst_t, p_sum_l, p_sum_t, p_sum_r, p_all, p_any, p_max2, p_min2, isNon, nolistR, nolist, and_self, and_true, true_and, f_law_same, c_eq, c_is]
  | .str s, n + 1, _, _ => by
    rw [u_law_same]
    simp only [ev, R.rv, R.rvs, R.dsk, R.bnd, testR, partR, rd, rds, fz, fzs, nrm, optR, keepS, storable, tru, isD, tyN, Ty.sub, List.any_cons, List.any_nil, List.all_cons, List.all_nil, doCall, mkArgs, lent, isOwnS, noDup, putOuts, argsFit, endF, outsF, startF, bindT, bindTs, List.getElem?_cons_zero, List.getElem?_cons_succ, List.getElem?_nil, List.map_cons, List.map_nil, List.length_cons, List.length_nil, List.replicate, List.cons_append, List.nil_append, List.set_cons_zero, List.set_cons_succ, Option.bind, Option.map, Bool.and_true, Bool.true_and, Bool.and_false, Bool.false_and, Bool.or_true, Bool.true_or, Bool.or_false, Bool.false_or, Bool.not_true, Bool.not_false, Bool.not_not, if_true, if_false, Bool.false_eq_true, reduceIte, reduceCtorEq, decide_true, decide_false, List.isEmpty_nil, List.isEmpty_cons, beq_self_eq_true, Nat.reduceAdd, Nat.reduceSub, Nat.reduceLeDiff, Nat.reduceLT, List.contains_nil, it_l, it_t, it_r, ty_r, b_add, b_sub, b_mul, b_mod, b_fdiv, b_addt, b_addl, b_pow3, b_pow6, b_pow12, b_pow18, i_t, i_l, i_r, sl_t, sl_l, p_len_l, p_len_t, p_len_r, p_abs, p_int, p_intB, p_tup_l, p_tup_t, p_lst_l, p_lst_t, p_sum_l, p_sum_t, p_sum_r, p_all, p_any, p_max2, p_min2, isNon, nolistR, nolist, and_self, and_true, true_and, f_law_same, c_eqS, c_is, c_eqB]
  | .list xs, n + 1, ho, h => by
    simp only [okD, Bool.and_eq_true, decide_eq_true_eq] at ho
    have h' : hgts xs + 1 < n + 1 := h
    exact same_seq n xs false ho.1 (s_sames xs n ho.2 (by omega))
  | .tuple xs, n + 1, ho, h => by
    simp only [okD, Bool.and_eq_true, decide_eq_true_eq] at ho
    have h' : hgts xs + 1 < n + 1 := h
    exact same_seq n xs true ho.1 (s_sames xs n ho.2 (by omega))
  | .dict _, _ + 1, ho, _ => by cases ho
theorem s_sames : ∀ (ds : List D) (n : Nat), okDs ds = true → hgts ds < n → ∀ d ∈ ds, runF tb n "_law_same" [.d d, .d d] = .ok (.v (.bool true)) []
  | [], _, _, _ => fun _ z => nomatch z
  | x :: r, n, ho, h => fun d hd => by
    simp only [okDs, Bool.and_eq_true] at ho
    have h' : max (hgt x) (hgts r) < n := h
    rcases List.mem_cons.mp hd with e | hd
    · rw [e]
      exact s_same x n ho.1 (by omega)
    · exact s_sames r n ho.2 (by omega) d hd
end
end L2.Mp
set_option Elab.async false
set_option linter.all false
set_option maxRecDepth 100000
set_option maxHeartbeats 0
namespace L2.Mp
open PySem PySem.Spec PyProof.Rows L2
section
variable (k : Nat)
/-! ### the law's own draws -/
abbrev Lo (m : Nat) (r : List Int) : Prop := r.length = m ∧ ∀ x ∈ r, 0 ≤ x ∧ x ≤ 1000000
theorem d_row {n m : Nat} {bx : List D} (hb : Box n bx) (hn : n + 15 < 2 ^ 30) (hm : m ≤ 5) (v : D) : ∃ (r : List Int) (bx' : List D), ev (runF tb (k+10)) c_law_right_0 [.own true bx, .val (.int m), .no, .no, .no, .no, .no, .no, .no, .no, .no, .no, .no, .no, .no, .no, .no, .no, .no, .no, .val v, .no, .no, .no, .no, .no, .no] = .ok (.rv (.o (r.map .int))) [.own true bx', .val (.int m), .no, .no, .no, .no, .no, .no, .no, .no, .no, .no, .no, .no, .no, .no, .no, .no, .no, .no, .val v, .no, .no, .no, .no, .no, .no] ∧ Lo m r ∧ Box (n + 15) bx' := by
  obtain ⟨ds, bx', h1, h2, h3, h4⟩ := comp_rel (enc := fun i : Nat => PyData.int (0 + (i : Nat))) (F := fun b => [.own true b, .val (.int m), .no, .no, .no, .no, .no, .no, .no, .no, .no, .no, .no, .no, .no, .no, .no, .no, .no, .no, .val v, .no, .no, .no, .no, .no, .no]) (P := fun d => ∃ x, d = .int x ∧ 0 ≤ x ∧ x ≤ 1000000) (I := fun i b => Box (n + 3 * i) b) (cf := runF tb (k+10)) (elt := .call "_law_number" [true] (.cons (.var 0) .nil)) (tg := .tN 6) (src := .sR1 (.var 1)) (own := [6]) (e := [.own true bx, .val (.int m), .no, .no, .no, .no, .no, .no, .no, .no, .no, .no, .no, .no, .no, .no, .no, .no, .no, .no, .val v, .no, .no, .no, .no, .no, .no]) (b0 := bx) (List.range m)
    (sR1_ok rfl (by omega)) rfl (by rw [List.length_range]; unfold LINE; omega) (fun _ _ j hj => by rw [List.mem_singleton.mp hj]; rfl) (fun _ _ => rfl) hb fun i b x hx hi hI => by
      rw [List.length_range] at hi
      obtain ⟨r, b', q1, q2, q3, q4⟩ := s_law_number (k+7) hI (by omega)
      refine ⟨.int r, b', [.own true b, .val (.int m), .no, .no, .no, .no, .val (.int (0 + (x : Nat))), .no, .no, .no, .no, .no, .no, .no, .no, .no, .no, .no, .no, .no, .val v, .no, .no, .no, .no, .no, .no], [.own true b', .val (.int m), .no, .no, .no, .no, .val (.int (0 + (x : Nat))), .no, .no, .no, .no, .no, .no, .no, .no, .no, .no, .no, .no, .no, .val v, .no, .no, .no, .no, .no, .no], [.own true b', .val (.int m), .no, .no, .no, .no, .val (.int (0 + (x : Nat))), .no, .no, .no, .no, .no, .no, .no, .no, .no, .no, .no, .no, .no, .val v, .no, .no, .no, .no, .no, .no], .v (.int r), rfl, ?_, rfl, rfl, ⟨r, rfl, q2, q3⟩, by rw [show n + 3 * (i + 1) = n + 3 * i + 3 by omega]; exact q4⟩
      simp only [ev, R.rv, R.rvs, R.dsk, R.bnd, testR, partR, rd, rds, fz, fzs, nrm, optR, keepS, storable, tru, isD, tyN, Ty.sub, List.any_cons, List.any_nil, List.all_cons, List.all_nil, doCall, mkArgs, lent, isOwnS, noDup, putOuts, argsFit, endF, outsF, startF, bindT, bindTs, List.getElem?_cons_zero, List.getElem?_cons_succ, List.getElem?_nil, List.map_cons, List.map_nil, List.length_cons, List.length_nil, List.replicate, List.cons_append, List.nil_append, List.set_cons_zero, List.set_cons_succ, Option.bind, Option.map, Bool.and_true, Bool.true_and, Bool.and_false, Bool.false_and, Bool.or_true, Bool.true_or, Bool.or_false, Bool.false_or, Bool.not_true, Bool.not_false, Bool.not_not, if_true, if_false, Bool.false_eq_true, reduceIte, reduceCtorEq, decide_true, decide_false, List.isEmpty_nil, List.isEmpty_cons, beq_self_eq_true, Nat.reduceAdd, Nat.reduceSub, Nat.reduceLeDiff, Nat.reduceLT, List.contains_nil, it_l, it_t, it_r, ty_r, b_add, b_sub, b_mul, b_mod, b_fdiv, b_addt, b_addl, b_pow3, b_pow6, b_pow12, b_pow18, i_t, i_l, i_r, sl_t, sl_l, p_len_l, p_len_t, p_len_r, p_abs, p_int, p_intB, p_tup_l, p_tup_t, p_lst_l, p_lst_t, p_sum_l, p_sum_t, p_sum_r, p_all, p_any, p_max2, p_min2, isNon, nolistR, nolist, and_self, and_true, true_and, q1]
  obtain ⟨r, rfl, hr⟩ := ints_ex h3
  rw [List.length_map, List.length_range] at h2
  rw [List.length_range] at h4
  obtain ⟨b0, b1, b2, e, z⟩ := h4
  exact ⟨r, bx', h1, ⟨h2, hr⟩, b0, b1, b2, e, z.1, z.2.1, z.2.2.1, z.2.2.2.1, by omega⟩
theorem ev_c3 (cf : CF) (e : Fm) : ev cf (.const (.int 3)) e = .ok (.rv (.v (.int ((3 : Nat) : Int)))) e := rfl
theorem tup1 {cf : CF} {a : T} {e e1 : Fm} {ds : List D} (h : ev cf a e = .ok (.rv (.o ds)) e1) : ev cf (.prim .tuple (.cons a .nil)) e = .ok (.rv (.v (.tuple ds))) e1 := by
  simp only [ev, R.rv, R.rvs, R.dsk, R.bnd, testR, partR, rd, rds, fz, fzs, nrm, optR, keepS, storable, tru, isD, tyN, Ty.sub, List.any_cons, List.any_nil, List.all_cons, List.all_nil, doCall, mkArgs, lent, isOwnS, noDup, putOuts, argsFit, endF, outsF, startF, bindT, bindTs, List.getElem?_cons_zero, List.getElem?_cons_succ, List.getElem?_nil, List.map_cons, List.map_nil, List.length_cons, List.length_nil, List.replicate, List.cons_append, List.nil_append, List.set_cons_zero, List.set_cons_succ, Option.bind, Option.map, Bool.and_true, Bool.true_and, Bool.and_false, Bool.false_and, Bool.or_true, Bool.true_or, Bool.or_false, Bool.false_or, Bool.not_true, Bool.not_false, Bool.not_not, if_true, if_false, Bool.false_eq_true, reduceIte, reduceCtorEq, decide_true, decide_false, List.isEmpty_nil, List.isEmpty_cons, beq_self_eq_true, Nat.reduceAdd, Nat.reduceSub, Nat.reduceLeDiff, Nat.reduceLT, List.contains_nil, it_l, it_t, it_r, ty_r, b_add, b_sub, b_mul, b_mod, b_fdiv, b_addt, b_addl, b_pow3, b_pow6, b_pow12, b_pow18, i_t, i_l, i_r, sl_t, sl_l, p_len_l, p_len_t, p_len_r, p_abs, p_int, p_intB, p_tup_l, p_tup_t, p_lst_l, p_lst_t, p_sum_l, p_sum_t, p_sum_r, p_all, p_any, p_max2, p_min2, isNon, nolistR, nolist, and_self, and_true, true_and, h]
theorem d_one3 {n m : Nat} {bx : List D} (hb : Box n bx) (hn : n + 15 < 2 ^ 30) (hm : m ≤ 5) (v : D) : ∃ (d : D) (bx' : List D), ev (runF tb (k+10)) (.prim .tuple (.cons c_law_right_0 .nil)) [.own true bx, .val (.int m), .no, .no, .no, .no, .no, .no, .no, .no, .no, .no, .no, .no, .no, .no, .no, .no, .no, .no, .val v, .no, .no, .no, .no, .no, .no] = .ok (.rv (.v d)) [.own true bx', .val (.int m), .no, .no, .no, .no, .no, .no, .no, .no, .no, .no, .no, .no, .no, .no, .no, .no, .no, .no, .val v, .no, .no, .no, .no, .no, .no] ∧ (∃ r, d = rowD r ∧ Lo m r) ∧ Box (n + 15) bx' := by
  obtain ⟨r, b', q1, q2, q3⟩ := d_row k hb hn hm v
  refine ⟨rowD r, b', ?_, ⟨r, rfl, q2⟩, q3⟩
  exact tup1 q1
theorem d_rows3 {n m t : Nat} {bx : List D} (hb : Box n bx) (ht : t ≤ 3) (hn : n + 45 < 2 ^ 30) (hm : m ≤ 5) (hs : ev (runF tb (k+10)) (.sR1 (.const (.int 3))) [.own true bx, .val (.int m), .no, .no, .no, .no, .no, .no, .no, .no, .no, .no, .no, .no, .no, .no, .no, .no, .no, .no, .no, .no, .no, .no, .no, .no, .no] = .ok (.ds ((List.range t).map fun i : Nat => PyData.int (0 + (i : Nat)))) [.own true bx, .val (.int m), .no, .no, .no, .no, .no, .no, .no, .no, .no, .no, .no, .no, .no, .no, .no, .no, .no, .no, .no, .no, .no, .no, .no, .no, .no]) : ∃ (rs : List (List Int)) (bx' : List D), ev (runF tb (k+10)) c_law_right_1 [.own true bx, .val (.int m), .no, .no, .no, .no, .no, .no, .no, .no, .no, .no, .no, .no, .no, .no, .no, .no, .no, .no, .no, .no, .no, .no, .no, .no, .no] = .ok (.rv (.o (rs.map rowD))) [.own true bx', .val (.int m), .no, .no, .no, .no, .no, .no, .no, .no, .no, .no, .no, .no, .no, .no, .no, .no, .no, .no, .no, .no, .no, .no, .no, .no, .no] ∧ rs.length = t ∧ (∀ r ∈ rs, Lo m r) ∧ Box (n + 15 * t) bx' := by
  obtain ⟨ds, bx', h1, h2, h3, h4⟩ := comp_rel (enc := fun i : Nat => PyData.int (0 + (i : Nat))) (F := fun b => [.own true b, .val (.int m), .no, .no, .no, .no, .no, .no, .no, .no, .no, .no, .no, .no, .no, .no, .no, .no, .no, .no, .no, .no, .no, .no, .no, .no, .no]) (P := fun d => ∃ r, d = rowD r ∧ Lo m r) (I := fun i b => Box (n + 15 * i) b) (cf := runF tb (k+10)) (elt := .prim .tuple (.cons c_law_right_0 .nil)) (tg := .tN 20) (src := .sR1 (.const (.int 3))) (own := [20]) (e := [.own true bx, .val (.int m), .no, .no, .no, .no, .no, .no, .no, .no, .no, .no, .no, .no, .no, .no, .no, .no, .no, .no, .no, .no, .no, .no, .no, .no, .no]) (b0 := bx) (List.range t)
    hs rfl (by rw [List.length_range]; unfold LINE; omega) (fun _ _ j hj => by rw [List.mem_singleton.mp hj]; rfl) (fun _ _ => rfl) hb fun i b x hx hi hI => by
      rw [List.length_range] at hi
      obtain ⟨d, b', q1, q2, q3⟩ := d_one3 k (m := m) hI (by omega) hm (.int (0 + (x : Nat)))
      exact ⟨d, b', [.own true b, .val (.int m), .no, .no, .no, .no, .no, .no, .no, .no, .no, .no, .no, .no, .no, .no, .no, .no, .no, .no, .val (.int (0 + (x : Nat))), .no, .no, .no, .no, .no, .no], [.own true b', .val (.int m), .no, .no, .no, .no, .no, .no, .no, .no, .no, .no, .no, .no, .no, .no, .no, .no, .no, .no, .val (.int (0 + (x : Nat))), .no, .no, .no, .no, .no, .no], [.own true b', .val (.int m), .no, .no, .no, .no, .no, .no, .no, .no, .no, .no, .no, .no, .no, .no, .no, .no, .no, .no, .val (.int (0 + (x : Nat))), .no, .no, .no, .no, .no, .no], .v d, rfl, q1, rfl, rfl, q2, by rw [show n + 15 * (i + 1) = n + 15 * i + 15 by omega]; exact q3⟩
  obtain ⟨rs, rfl, hr⟩ := rows_ex h3
  rw [List.length_map, List.length_range] at h2
  rw [List.length_range] at h4
  exact ⟨rs, bx', h1, h2, hr, h4⟩
theorem d_three {n m : Nat} {bx : List D} (hb : Box n bx) (hn : n + 45 < 2 ^ 30) (hm : m ≤ 5) : ∃ (a b c : List Int) (bx' : List D), ev (runF tb (k+10)) s_law_right_1 [.own true bx, .val (.int m), .no, .no, .no, .no, .no, .no, .no, .no, .no, .no, .no, .no, .no, .no, .no, .no, .no, .no, .no, .no, .no, .no, .no, .no, .no] = .ok (.fl .nx) [.own true bx', .val (.int m), .no, .no, .no, .no, .no, .no, .no, .no, .no, .no, .no, .val (rowD a), .val (rowD b), .val (rowD c), .no, .no, .no, .no, .no, .no, .no, .no, .no, .no, .no] ∧ Lo m a ∧ Lo m b ∧ Lo m c ∧ Box (n + 45) bx' := by
  obtain ⟨rs, bx', hc, h2, hr, h4⟩ := d_rows3 k hb (t := 3) (by omega) hn hm (sR1_ok (n := 3) (ev_c3 _ _) (by omega))
  match rs, h2, hr, hc with
  | [a, b, c], _, hr, hc =>
    refine ⟨a, b, c, bx', ?_, hr a (by simp), hr b (by simp), hr c (by simp), h4⟩
    exact asg_o hc rfl
theorem same_if {cf : CF} {x : T} {e : Fm} {ds : List D} (h3 : e[3]? = some (.own false ds)) (hx : ev cf x e = .ok (.rv (.o ds)) e) (hs : cf "_law_same" [.d (.list ds), .d (.list ds)] = .ok (.v (.bool true)) []) : ev cf (.ifS (.notT (.call "_law_same" [false, false] (.cons (.var 3) (.cons x .nil)))) (.seq (.ret (.const (.bool false))) .done) .done) e = .ok (.fl .nx) e := by
  simp only [ev, R.rv, R.rvs, R.dsk, R.bnd, testR, partR, rd, rds, fz, fzs, nrm, optR, keepS, storable, tru, isD, tyN, Ty.sub, List.any_cons, List.any_nil, List.all_cons, List.all_nil, doCall, mkArgs, lent, isOwnS, noDup, putOuts, argsFit, endF, outsF, startF, bindT, bindTs, List.getElem?_cons_zero, List.getElem?_cons_succ, List.getElem?_nil, List.map_cons, List.map_nil, List.length_cons, List.length_nil, List.replicate, List.cons_append, List.nil_append, List.set_cons_zero, List.set_cons_succ, Option.bind, Option.map, Bool.and_true, Bool.true_and, Bool.and_false, Bool.false_and, Bool.or_true, Bool.true_or, Bool.or_false, Bool.false_or, Bool.not_true, Bool.not_false, Bool.not_not, if_true, if_false, Bool.false_eq_true, reduceIte, reduceCtorEq, decide_true, decide_false, List.isEmpty_nil, List.isEmpty_cons, beq_self_eq_true, Nat.reduceAdd, Nat.reduceSub, Nat.reduceLeDiff, Nat.reduceLT, List.contains_nil, it_l, it_t, it_r, ty_r, b_add, b_sub, b_mul, b_mod, b_fdiv, b_addt, b_addl, b_pow3, b_pow6, b_pow12, b_pow18, i_t, i_l, i_r, sl_t, sl_l, p_len_l, p_len_t, p_len_r, p_abs, p_int, p_intB, p_tup_l, p_tup_t, p_lst_l, p_lst_t, p_sum_l, p_sum_t, p_sum_r, p_all, p_any, p_max2, p_min2, isNon, nolistR, nolist, and_self, and_true, true_and, h3, hx, hs]
theorem zip_ok {cf : CF} {e : Fm} {elt : T} {i j p q : Nat} {a b : List Int} (g : Int × Int → D) (hp : e[p]? = some (.val (rowD a))) (hq : e[q]? = some (.val (rowD b))) (hl : a.length ≤ 1000) (ho : ([i, j] : List Nat).any (fun l => isOwnS e[l]?) = false)
    (h : ∀ x ∈ a.zip b, ∃ e3, bindT (.tT (.cons (.tN i) (.cons (.tN j) .nil))) (.tuple [.int x.1, .int x.2]) (wipeS [i, j] e) = some e3 ∧ wipeS [i, j] e3 = wipeS [i, j] e ∧ V cf e3 elt (g x)) :
    O cf e (.comp elt (.tT (.cons (.tN i) (.cons (.tN j) .nil))) (.sZip (.var p) (.var q)) .absent [i, j]) ((a.zip b).map g) := by
  refine comp_map (fun p : Int × Int => .tuple [.int p.1, .int p.2]) g ?_ (by rw [List.length_zip]; unfold LINE; omega) ho fun x hx => ?_
  · rw [← zipF_enc]
    simp only [ev, R.rv, R.rvs, R.dsk, R.bnd, testR, partR, rd, rds, fz, fzs, nrm, optR, keepS, storable, tru, isD, tyN, Ty.sub, List.any_cons, List.any_nil, List.all_cons, List.all_nil, doCall, mkArgs, lent, isOwnS, noDup, putOuts, argsFit, endF, outsF, startF, bindT, bindTs, List.getElem?_cons_zero, List.getElem?_cons_succ, List.getElem?_nil, List.map_cons, List.map_nil, List.length_cons, List.length_nil, List.replicate, List.cons_append, List.nil_append, List.set_cons_zero, List.set_cons_succ, Option.bind, Option.map, Bool.and_true, Bool.true_and, Bool.and_false, Bool.false_and, Bool.or_true, Bool.true_or, Bool.or_false, Bool.false_or, Bool.not_true, Bool.not_false, Bool.not_not, if_true, if_false, Bool.false_eq_true, reduceIte, reduceCtorEq, decide_true, decide_false, List.isEmpty_nil, List.isEmpty_cons, beq_self_eq_true, Nat.reduceAdd, Nat.reduceSub, Nat.reduceLeDiff, Nat.reduceLT, List.contains_nil, it_l, it_t, it_r, ty_r, b_add, b_sub, b_mul, b_mod, b_fdiv, b_addt, b_addl, b_pow3, b_pow6, b_pow12, b_pow18, i_t, i_l, i_r, sl_t, sl_l, p_len_l, p_len_t, p_len_r, p_abs, p_int, p_intB, p_tup_l, p_tup_t, p_lst_l, p_lst_t, p_sum_l, p_sum_t, p_sum_r, p_all, p_any, p_max2, p_min2, isNon, nolistR, nolist, and_self, and_true, true_and, hp, hq]
  · obtain ⟨e3, h1, h2, h3⟩ := h x hx
    exact ⟨e3, .v (g x), h1, h2, h3, rfl⟩
theorem lo_low {m : Nat} {r : List Int} (h : Lo m r) (hm : m ≤ 5) : Low r := ⟨by omega, List.all_eq_true.mpr fun x hx => by have := h.2 x hx; simp; omega⟩
theorem eq_nil (xs : List D) : cmpD .Eq (.list xs) (.list []) = some xs.isEmpty := by
  have e : cmpD .Eq (.list xs) (.list []) = if cmpOk (.list xs) (.list []) then some (PyData.eqvAll xs []) else none := rfl
  have hc : cmpOk (.list xs) (.list []) = true := decide_eq_true (by have : (PyData.list []).depth ≤ 190 := by decide
                                                                     omega)
  rw [e, if_pos hc]
  cases xs <;> rfl
theorem zipf_ok {cf : CF} {e : Fm} {elt cond : T} {i j p q : Nat} {a b : List Int} (g : Int × Int → Option D) (hp : e[p]? = some (.val (rowD a))) (hq : e[q]? = some (.val (rowD b))) (hl : a.length ≤ 1000) (ho : ([i, j] : List Nat).any (fun l => isOwnS e[l]?) = false)
    (h : ∀ x ∈ a.zip b, ∃ e3, bindT (.tT (.cons (.tN i) (.cons (.tN j) .nil))) (.tuple [.int x.1, .int x.2]) (wipeS [i, j] e) = some e3 ∧ wipeS [i, j] e3 = wipeS [i, j] e ∧ ((g x = none ∧ evC' cf cond e3 = .ok false e3) ∨ ∃ d r, g x = some d ∧ evC' cf cond e3 = .ok true e3 ∧ ev cf elt e3 = .ok (.rv r) e3 ∧ fz r e3 = some (d, e3))) :
    O cf e (.comp elt (.tT (.cons (.tN i) (.cons (.tN j) .nil))) (.sZip (.var p) (.var q)) cond [i, j]) ((a.zip b).filterMap g) := by
  refine comp_fm (fun p : Int × Int => .tuple [.int p.1, .int p.2]) g ?_ (by rw [List.length_zip]; unfold LINE; omega) ho h
  rw [← zipF_enc]
  simp only [ev, R.rv, R.rvs, R.dsk, R.bnd, testR, partR, rd, rds, fz, fzs, nrm, optR, keepS, storable, tru, isD, tyN, Ty.sub, List.any_cons, List.any_nil, List.all_cons, List.all_nil, doCall, mkArgs, lent, isOwnS, noDup, putOuts, argsFit, endF, outsF, startF, bindT, bindTs, List.getElem?_cons_zero, List.getElem?_cons_succ, List.getElem?_nil, List.map_cons, List.map_nil, List.length_cons, List.length_nil, List.replicate, List.cons_append, List.nil_append, List.set_cons_zero, List.set_cons_succ, Option.bind, Option.map, Bool.and_true, Bool.true_and, Bool.and_false, Bool.false_and, Bool.or_true, Bool.true_or, Bool.or_false, Bool.false_or, Bool.not_true, Bool.not_false, Bool.not_not, if_true, if_false, Bool.false_eq_true, reduceIte, reduceCtorEq, decide_true, decide_false, List.isEmpty_nil, List.isEmpty_cons, beq_self_eq_true, Nat.reduceAdd, Nat.reduceSub, Nat.reduceLeDiff, Nat.reduceLT, List.contains_nil, it_l, it_t, it_r, ty_r, b_add, b_sub, b_mul, b_mod, b_fdiv, b_addt, b_addl, b_pow3, b_pow6, b_pow12, b_pow18, i_t, i_l, i_r, sl_t, sl_l, p_len_l, p_len_t, p_len_r, p_abs, p_int, p_intB, p_tup_l, p_tup_t, p_lst_l, p_lst_t, p_sum_l, p_sum_t, p_sum_r, p_all, p_any, p_max2, p_min2, isNon, nolistR, nolist, and_self, and_true, true_and, hp, hq]
abbrev gtF (q : Int × Int) : Option D := if q.1 > q.2 then some (.int 1) else none
theorem gt_nil : ∀ (l : List (Int × Int)), (l.filterMap gtF).isEmpty = l.all fun p => decide (p.1 ≤ p.2)
  | [] => rfl
  | x :: l => by
    by_cases h : x.1 > x.2
    · rw [List.filterMap_cons_some (f := gtF) (a := x) (b := PyData.int 1) (if_pos h), List.all_cons, decide_eq_false (by omega)]; rfl
    · rw [List.filterMap_cons_none (f := gtF) (a := x) (if_neg h), List.all_cons, decide_eq_true (by omega), gt_nil l]; rfl
theorem b_mul_ok {x y : Int} (h : 0 ≤ x ∧ x ≤ 1000000) : binD .Mult (.int x) (.int y) = some (.v (.int (x * y))) := by
  rw [b_mul, if_pos (mul_ok ⟨h.1, by omega⟩)]
theorem p_sum_ok (ns : List Int) : primD .sum [.list (ns.map .int)] = some (.v (.int ns.sum)) := by
  rw [p_sum_l, intsOf_map]
  rfl
theorem call_io {cf : CF} {e : Fm} {f : Str} {i : Nat} {x : T} {bx bx' : List D} {d r : D} {io : Bool} (h0 : e[i]? = some (.own io bx)) (hx : V cf e x d) (h : cf f [.io bx, .d d] = .ok (.v r) [bx']) : ev cf (.call f [true, false] (.cons (.var i) (.cons x .nil))) e = .ok (.rv (.v r)) (e.set i (.own io bx')) := by
  simp only [ev, R.rv, R.rvs, R.dsk, R.bnd, testR, partR, rd, rds, fz, fzs, nrm, optR, keepS, storable, tru, isD, tyN, Ty.sub, List.any_cons, List.any_nil, List.all_cons, List.all_nil, doCall, mkArgs, lent, isOwnS, noDup, putOuts, argsFit, endF, outsF, startF, bindT, bindTs, List.getElem?_cons_zero, List.getElem?_cons_succ, List.getElem?_nil, List.map_cons, List.map_nil, List.length_cons, List.length_nil, List.replicate, List.cons_append, List.nil_append, List.set_cons_zero, List.set_cons_succ, Option.bind, Option.map, Bool.and_true, Bool.true_and, Bool.and_false, Bool.false_and, Bool.or_true, Bool.true_or, Bool.or_false, Bool.false_or, Bool.not_true, Bool.not_false, Bool.not_not, if_true, if_false, Bool.false_eq_true, reduceIte, reduceCtorEq, decide_true, decide_false, List.isEmpty_nil, List.isEmpty_cons, beq_self_eq_true, Nat.reduceAdd, Nat.reduceSub, Nat.reduceLeDiff, Nat.reduceLT, List.contains_nil, it_l, it_t, it_r, ty_r, b_add, b_sub, b_mul, b_mod, b_fdiv, b_addt, b_addl, b_pow3, b_pow6, b_pow12, b_pow18, i_t, i_l, i_r, sl_t, sl_l, p_len_l, p_len_t, p_len_r, p_abs, p_int, p_intB, p_tup_l, p_tup_t, p_lst_l, p_lst_t, p_sum_l, p_sum_t, p_sum_r, p_all, p_any, p_max2, p_min2, isNon, nolistR, nolist, and_self, and_true, true_and, h0, hx, h]
theorem V_slo {cf : CF} {e : Fm} {i j : Nat} {xs : List D} {h : Int} (h0 : e[i]? = some (.val (.tuple xs))) (h1 : e[j]? = some (.val (.int h))) : V cf e (.slc (.var i) .absent (.var j)) (.tuple (cut xs none (some h))) := by
  unfold V
  simp only [ev, R.rv, R.rvs, R.dsk, R.bnd, testR, partR, rd, rds, fz, fzs, nrm, optR, keepS, storable, tru, isD, tyN, Ty.sub, List.any_cons, List.any_nil, List.all_cons, List.all_nil, doCall, mkArgs, lent, isOwnS, noDup, putOuts, argsFit, endF, outsF, startF, bindT, bindTs, List.getElem?_cons_zero, List.getElem?_cons_succ, List.getElem?_nil, List.map_cons, List.map_nil, List.length_cons, List.length_nil, List.replicate, List.cons_append, List.nil_append, List.set_cons_zero, List.set_cons_succ, Option.bind, Option.map, Bool.and_true, Bool.true_and, Bool.and_false, Bool.false_and, Bool.or_true, Bool.true_or, Bool.or_false, Bool.false_or, Bool.not_true, Bool.not_false, Bool.not_not, if_true, if_false, Bool.false_eq_true, reduceIte, reduceCtorEq, decide_true, decide_false, List.isEmpty_nil, List.isEmpty_cons, beq_self_eq_true, Nat.reduceAdd, Nat.reduceSub, Nat.reduceLeDiff, Nat.reduceLT, List.contains_nil, it_l, it_t, it_r, ty_r, b_add, b_sub, b_mul, b_mod, b_fdiv, b_addt, b_addl, b_pow3, b_pow6, b_pow12, b_pow18, i_t, i_l, i_r, sl_t, sl_l, p_len_l, p_len_t, p_len_r, p_abs, p_int, p_intB, p_tup_l, p_tup_t, p_lst_l, p_lst_t, p_sum_l, p_sum_t, p_sum_r, p_all, p_any, p_max2, p_min2, isNon, nolistR, nolist, and_self, and_true, true_and, h0, h1]
theorem V_shi {cf : CF} {e : Fm} {i : Nat} {a b : T} {op : Operator} {xs : List D} {l : Int} (h0 : e[i]? = some (.val (.tuple xs))) (h1 : V cf e (.bin op a b) (.int l)) : V cf e (.slc (.var i) (.bin op a b) .absent) (.tuple (cut xs (some l) none)) := by
  have hp : partR (ev cf (.bin op a b) e) = .ok (some l) e := by rw [h1]; rfl
  show (ev cf (.var i) e).rv (fun ra e1 => (partR (ev cf (.bin op a b) e1)).bnd fun i e2 => (R.ok (none : Option Int) e2).bnd fun j e3 => (match rd ra e3 with
    | some x => optR (slcD x i j) e3
    | none => .bad)) = _
  rw [V_var h0]
  show (partR (ev cf (.bin op a b) e)).bnd (fun i e2 => optR (slcD (.tuple xs) i none) e2) = _
  rw [hp]
  rfl
theorem cut_lo {α : Type} (xs : List α) (j : Nat) (h : j ≤ xs.length) : cut xs none (some (j : Int)) = xs.take j := by
  unfold cut
  rw [HT.sIx_none, HT.sIx_nat, List.drop_zero, Nat.min_eq_left h, Nat.sub_zero]
theorem cut_hi {α : Type} (xs : List α) (j : Nat) (h : j ≤ xs.length) : cut xs (some (j : Int)) none = xs.drop j := by
  unfold cut
  rw [HT.sIx_none, HT.sIx_nat, Nat.min_eq_left h]
  exact List.take_of_length_le (by rw [List.length_drop]; exact Nat.le_refl _)
theorem at_row {r : List Int} {j : Nat} (h : j < r.length) : idxD (rowD r) (.int (j : Int)) = some (.int r[j]) := by
  rw [i_r, at_nat (by rw [List.length_map]; exact h), List.getElem_map]
abbrev bump (x : Int) : Int := if x < 1000000 then x + 1 else x - 1
abbrev moreR (a : List Int) (j : Nat) (h : j < a.length) : List Int := a.take j ++ [bump a[j]] ++ a.drop (j + 1)
theorem moreR_len {a : List Int} {j : Nat} (h : j < a.length) : (moreR a j h).length = a.length := by
  rw [List.length_append, List.length_append, List.length_take, List.length_drop, List.length_singleton]; omega
theorem moreR_at {a : List Int} {j : Nat} (h : j < a.length) : (moreR a j h)[j]'(by rw [moreR_len]; exact h) = bump a[j] := by
  have e : moreR a j h = a.take j ++ ([bump a[j]] ++ a.drop (j + 1)) := List.append_assoc _ _ _
  have hl : (a.take j).length = j := by rw [List.length_take]; omega
  have : (moreR a j h)[j]? = some (bump a[j]) := by
    rw [e, List.getElem?_append_right (by omega), hl, Nat.sub_self]; rfl
  exact (List.getElem?_eq_some_iff.mp this).2
theorem moreR_set {a : List Int} {j : Nat} (h : j < a.length) : moreR a j h = a.set j (bump a[j]) := by
  rw [List.set_eq_take_append_cons_drop, if_pos h, moreR, List.append_assoc]; rfl
theorem atMost_refl : ∀ a : List Int, atMost a a = true
  | [] => rfl
  | x :: a => by
    show (decide (x ≤ x) && atMost a a) = true
    rw [decide_eq_true (Int.le_refl x), atMost_refl a]; rfl
theorem atMost_set : ∀ (a : List Int) (j : Nat) (y : Int) (h : j < a.length), atMost a (a.set j y) = decide (a[j] ≤ y)
  | [], _, _, h => absurd h (Nat.not_lt_zero _)
  | x :: a, 0, y, _ => by
    show (decide (x ≤ y) && atMost a a) = decide (x ≤ y)
    rw [atMost_refl, Bool.and_true]
  | x :: a, j + 1, y, h => by
    show (decide (x ≤ x) && atMost a (a.set j y)) = decide (a[j]'(Nat.lt_of_succ_lt_succ h) ≤ y)
    rw [decide_eq_true (Int.le_refl x), Bool.true_and, atMost_set a j y]
theorem set_atMost : ∀ (a : List Int) (j : Nat) (y : Int) (h : j < a.length), atMost (a.set j y) a = decide (y ≤ a[j])
  | [], _, _, h => absurd h (Nat.not_lt_zero _)
  | x :: a, 0, y, _ => by
    show (decide (y ≤ x) && atMost a a) = decide (y ≤ x)
    rw [atMost_refl, Bool.and_true]
  | x :: a, j + 1, y, h => by
    show (decide (x ≤ x) && atMost (a.set j y) a) = decide (y ≤ a[j]'(Nat.lt_of_succ_lt_succ h))
    rw [decide_eq_true (Int.le_refl x), Bool.true_and, set_atMost a j y]
theorem lt_self : ∀ a : List Int, ltL a a = false
  | [] => rfl
  | x :: a => by
    show (decide (x < x) || (decide (x = x) && ltL a a)) = false
    rw [decide_eq_false (Int.lt_irrefl x), lt_self a, Bool.and_false]; rfl
theorem set_lt : ∀ (a : List Int) (j : Nat) (y : Int) (h : j < a.length), ltL (a.set j y) a = decide (y < a[j])
  | [], _, _, h => absurd h (Nat.not_lt_zero _)
  | x :: a, 0, y, _ => by
    show (decide (y < x) || (decide (y = x) && ltL a a)) = decide (y < x)
    rw [lt_self, Bool.and_false, Bool.or_false]
  | x :: a, j + 1, y, h => by
    show (decide (x < x) || (decide (x = x) && ltL (a.set j y) a)) = decide (y < a[j]'(Nat.lt_of_succ_lt_succ h))
    rw [decide_eq_false (Int.lt_irrefl x), decide_eq_true rfl, Bool.false_or, Bool.true_and, set_lt a j y]
theorem dot_set : ∀ (c a : List Int) (j : Nat) (y : Int) (h : j < a.length) (h' : j < c.length), dot c (a.set j y) = dot c a + c[j] * (y - a[j])
  | _, [], _, _, h, _ => absurd h (Nat.not_lt_zero _)
  | [], _ :: _, _, _, _, h => absurd h (Nat.not_lt_zero _)
  | z :: c, x :: a, 0, y, _, _ => by
    show ([z * y] ++ _).sum = ([z * x] ++ _).sum + z * (y - x)
    rw [List.sum_append, List.sum_append, Int.mul_sub]
    simp
    omega
  | z :: c, x :: a, j + 1, y, h, h' => by
    have ih := dot_set c a j y (Nat.lt_of_succ_lt_succ h) (Nat.lt_of_succ_lt_succ h')
    show z * x + dot c (a.set j y) = z * x + dot c a + c[j]'(Nat.lt_of_succ_lt_succ h') * (y - a[j]'(Nat.lt_of_succ_lt_succ h))
    rw [ih]
    omega
theorem leastL_set (a : List Int) (j : Nat) (y : Int) (h : j < a.length) (hy : y ≠ a[j]) : leastL [a, a.set j y] = if a[j] < y then [a] else [a.set j y] := by
  have hne : ¬ a.set j y = a := fun q => hy (by have := congrArg (fun l => l[j]?) q; simp [h] at this; exact this)
  have e : sortU [a, a.set j y] = if ltL (a.set j y) a = true then [a.set j y, a] else [a, a.set j y] := by
    show (if a.set j y = a then [a] else if ltL (a.set j y) a = true then a.set j y :: [a] else a :: [a.set j y]) = _
    rw [if_neg hne]
  have f1 (x z : List Int) (q : atMost x z = true) : [x, z].foldl leastF [] = [x] := by
    show (if ([x].any fun o => atMost o z) = true then [x] else [x] ++ [z]) = [x]
    rw [if_pos (by rw [List.any_cons, q]; rfl)]
  unfold leastL
  rw [e, set_lt a j y h]
  by_cases q : y < a[j]
  · rw [if_pos (decide_eq_true q), if_neg (by omega)]
    exact f1 _ _ (by rw [set_atMost a j y h]; exact decide_eq_true (by omega))
  · rw [if_neg (by rw [decide_eq_false q]; exact Bool.false_ne_true), if_pos (by omega)]
    exact f1 _ _ (by rw [atMost_set a j y h]; exact decide_eq_true (by omega))
theorem bump_ne (x : Int) : bump x ≠ x := by
  unfold bump
  split <;> omega
theorem more_ne {a : List Int} {j : Nat} (h : j < a.length) : moreR a j h ≠ a := fun q => bump_ne a[j] (by rw [← moreR_at h]; exact getElem_congr_coll q)
theorem more_lo {m : Nat} {a : List Int} {j : Nat} (h : j < a.length) (ha : Lo m a) : Lo m (moreR a j h) := by
  refine ⟨by rw [moreR_len]; exact ha.1, fun x hx => ?_⟩
  have hb := ha.2 _ (List.getElem_mem h)
  rcases List.mem_append.mp hx with hx | hx
  · rcases List.mem_append.mp hx with hx | hx
    · exact ha.2 x (List.mem_of_mem_take hx)
    · rw [List.mem_singleton.mp hx]
      unfold bump
      split <;> omega
  · exact ha.2 x (List.mem_of_mem_drop hx)
section
variable {m : Nat} {bx : List D} {a b c : List Int}
theorem w2 (ha : Lo m a) (hm : m ≤ 5) : ev (runF tb (k+10)) s_law_right_2 [.own true bx, .val (.int m), .no, .no, .no, .no, .no, .no, .no, .no, .no, .no, .no, .val (rowD a), .val (rowD b), .val (rowD c), .no, .no, .no, .no, .no, .no, .no, .no, .no, .no, .no] = .ok (.fl .nx) [.own true bx, .val (.int m), .val (rowD (addR a b)), .no, .no, .no, .no, .no, .no, .no, .no, .no, .no, .val (rowD a), .val (rowD b), .val (rowD c), .no, .no, .no, .no, .no, .no, .no, .no, .no, .no, .no] := by
  have hc : O (runF tb (k+10)) [.own true bx, .val (.int m), .no, .no, .no, .no, .no, .no, .no, .no, .no, .no, .no, .val (rowD a), .val (rowD b), .val (rowD c), .no, .no, .no, .no, .no, .no, .no, .no, .no, .no, .no] c_law_right_2 ((a.zip b).map fun q => .int (q.1 + q.2)) := zip_ok (a := a) (b := b) (fun q => .int (q.1 + q.2)) rfl rfl (by omega) rfl fun x _ => ⟨_, rfl, rfl, rfl⟩
  have e : ((a.zip b).map fun p => PyData.int (p.1 + p.2)) = (addR a b).map .int := by rw [List.map_map]; rfl
  rw [e] at hc
  exact asg_v (V_tupO hc) rfl
theorem w3 (ha : Lo m a) (hb : Lo m b) (hc : Lo m c) (hm : m ≤ 5) : ev (runF tb (k+10)) s_law_right_3 [.own true bx, .val (.int m), .val (rowD (addR a b)), .no, .no, .no, .no, .no, .no, .no, .no, .no, .no, .val (rowD a), .val (rowD b), .val (rowD c), .no, .no, .no, .no, .no, .no, .no, .no, .no, .no, .no] = .ok (.fl .nx) [.own true bx, .val (.int m), .val (rowD (addR a b)), .own false [rowD (addR a b), .int (dot c a), .int (dot c b), .bool true], .no, .no, .no, .no, .no, .no, .no, .no, .no, .val (rowD a), .val (rowD b), .val (rowD c), .no, .no, .no, .no, .no, .no, .no, .no, .no, .no, .no] := by
  have la := lo_low ha hm
  have lb := lo_low hb hm
  have lc := lo_low hc hm
  have r1 := s_row_sum (k+5) la lb (ha.1.trans hb.1.symm)
  have r2 := s_price_of (k+5) lc la (hc.1.trans ha.1.symm)
  have r3 := s_price_of (k+5) lc lb (hc.1.trans hb.1.symm)
  have hl : (addR a b).length = m := by rw [List.length_map, List.length_zip, ha.1, hb.1]; omega
  have r4 := s_is_row (k+6) (r := addR a b) m hm (by omega)
  have hx : ((addR a b).all fun n => decide (0 ≤ n)) = true := List.all_eq_true.mpr fun x hx => by
    obtain ⟨p, hp, rfl⟩ := List.mem_map.mp hx
    have h1 := ha.2 _ (List.of_mem_zip hp).1
    have h2 := hb.2 _ (List.of_mem_zip hp).2
    simp only [decide_eq_true_eq]
    omega
  rw [hx, hl, decide_eq_true rfl] at r4
  refine asg_l (O_lst (ds := [rowD (addR a b), .int (dot c a), .int (dot c b), .bool true]) (Vs_cons (V_call (Vs_cons (V_var rfl) (Vs_cons (V_var rfl) Vs_nil)) r1) (Vs_cons (V_call (Vs_cons (V_var rfl) (Vs_cons (V_var rfl) Vs_nil)) r2) (Vs_cons (V_call (Vs_cons (V_var rfl) (Vs_cons (V_var rfl) Vs_nil)) r3) (Vs_cons (V_call (Vs_cons (V_var rfl) (Vs_cons (V_var rfl) Vs_nil)) r4) Vs_nil)))) (by unfold LINE; simp)) rfl
theorem w5 (ha : Lo m a) (hm : m ≤ 5) {s : Slot} : ev (runF tb (k+10)) s_law_right_5 [.own true bx, .val (.int m), .val (rowD (addR a b)), s, .no, .no, .no, .no, .no, .no, .no, .no, .no, .val (rowD a), .val (rowD b), .val (rowD c), .no, .no, .no, .no, .no, .no, .no, .no, .no, .no, .no] = .ok (.fl .nx) [.own true bx, .val (.int m), .val (rowD (addR a b)), s, .val (.bool (atMost a b)), .no, .no, .no, .no, .no, .no, .no, .no, .val (rowD a), .val (rowD b), .val (rowD c), .no, .no, .no, .no, .no, .no, .no, .no, .no, .no, .no] := by
  have hc : O (runF tb (k+10)) [.own true bx, .val (.int m), .val (rowD (addR a b)), s, .no, .no, .no, .no, .no, .no, .no, .no, .no, .val (rowD a), .val (rowD b), .val (rowD c), .no, .no, .no, .no, .no, .no, .no, .no, .no, .no, .no] c_law_right_5 ((a.zip b).filterMap gtF) := zipf_ok (a := a) (b := b) gtF rfl rfl (by omega) rfl fun x _ => ⟨[.own true bx, .val (.int m), .val (rowD (addR a b)), s, .no, .no, .no, .no, .no, .no, .no, .no, .no, .val (rowD a), .val (rowD b), .val (rowD c), .no, .no, .no, .no, .no, .no, .no, .val (.int x.1), .val (.int x.2), .no, .no], rfl, rfl, by
    by_cases h : x.1 > x.2
    · exact .inr ⟨.int 1, .v (.int 1), if_pos h, by show R.ok (decide (x.1 > x.2)) _ = _; rw [decide_eq_true h], rfl, rfl⟩
    · exact .inl ⟨if_neg h, by show R.ok (decide (x.1 > x.2)) _ = _; rw [decide_eq_false h]⟩⟩
  refine asg_v (V_cmpO (t := atMost a b) hc (O_lst (ds := []) Vs_nil (Nat.zero_le _)) ?_) rfl
  rw [eq_nil, gt_nil]
theorem w6 (ha : Lo m a) (hm : m ≤ 5) {s : Slot} : ev (runF tb (k+10)) s_law_right_6 [.own true bx, .val (.int m), .val (rowD (addR a b)), s, .val (.bool (atMost a b)), .no, .no, .no, .no, .no, .no, .no, .no, .val (rowD a), .val (rowD b), .val (rowD c), .no, .no, .no, .no, .no, .no, .no, .no, .no, .no, .no] = .ok (.fl .nx) [.own true bx, .val (.int m), .val (rowD (addR a b)), s, .val (.bool (atMost a b)), .val (rowD (maxR a b)), .no, .no, .no, .no, .no, .no, .no, .val (rowD a), .val (rowD b), .val (rowD c), .no, .no, .no, .no, .no, .no, .no, .no, .no, .no, .no] := by
  have hc : O (runF tb (k+10)) [.own true bx, .val (.int m), .val (rowD (addR a b)), s, .val (.bool (atMost a b)), .no, .no, .no, .no, .no, .no, .no, .no, .val (rowD a), .val (rowD b), .val (rowD c), .no, .no, .no, .no, .no, .no, .no, .no, .no, .no, .no] c_law_right_6 ((a.zip b).map fun q => .int (if q.2 > q.1 then q.2 else q.1)) := zip_ok (a := a) (b := b) (fun q => .int (if q.2 > q.1 then q.2 else q.1)) rfl rfl (by omega) rfl fun x _ => ⟨_, rfl, rfl, V_prim (Vs_cons (V_var rfl) (Vs_cons (V_var rfl) Vs_nil)) (p_max2 _ _)⟩
  have e : ((a.zip b).map fun q => PyData.int (if q.2 > q.1 then q.2 else q.1)) = (maxR a b).map .int := by rw [List.map_map]; rfl
  rw [e] at hc
  exact asg_v (V_tupO hc) rfl
theorem okDs_map {α : Type} (f : α → D) (l : List α) (h : ∀ x ∈ l, okD (f x) = true) : okDs (l.map f) = true := by
  induction l with
  | nil => rfl
  | cons x l ih => 
    show (okD (f x) && okDs (l.map f)) = true
    rw [h x List.mem_cons_self, ih fun y hy => h y (List.mem_cons_of_mem _ hy)]
    rfl
theorem hgts_map {α : Type} {n : Nat} (f : α → D) (l : List α) (h : ∀ x ∈ l, hgt (f x) ≤ n) : hgts (l.map f) ≤ n := by
  induction l with
  | nil => exact Nat.zero_le _
  | cons x l ih =>
    have h1 := h x List.mem_cons_self
    have h2 := ih fun y hy => h y (List.mem_cons_of_mem _ hy)
    show max (hgt (f x)) (hgts (l.map f)) ≤ n
    omega
theorem okD_row (r : List Int) (h : r.length ≤ 1000) : okD (rowD r) = true := by
  show (decide ((r.map PyData.int).length ≤ 1000) && okDs (r.map .int)) = true
  rw [List.length_map, decide_eq_true h, okDs_map _ _ fun _ _ => rfl]
  rfl
theorem hgt_row (r : List Int) : hgt (rowD r) ≤ 1 := by
  show hgts (r.map .int) + 1 ≤ 1
  have := hgts_map (n := 0) PyData.int r fun _ _ => Nat.le_refl 0
  omega
theorem w4 (ha : Lo m a) (hb : Lo m b) (hc : Lo m c) (hm : m ≤ 5) : ev (runF tb (k+10)) s_law_right_4 [.own true bx, .val (.int m), .val (rowD (addR a b)), .own false [rowD (addR a b), .int (dot c a), .int (dot c b), .bool true], .no, .no, .no, .no, .no, .no, .no, .no, .no, .val (rowD a), .val (rowD b), .val (rowD c), .no, .no, .no, .no, .no, .no, .no, .no, .no, .no, .no] = .ok (.fl .nx) [.own true bx, .val (.int m), .val (rowD (addR a b)), .own false [rowD (addR a b), .int (dot c a), .int (dot c b), .bool true], .no, .no, .no, .no, .no, .no, .no, .no, .no, .val (rowD a), .val (rowD b), .val (rowD c), .no, .no, .no, .no, .no, .no, .no, .no, .no, .no, .no] := by
  have h1 : O (runF tb (k+10)) [.own true bx, .val (.int m), .val (rowD (addR a b)), .own false [rowD (addR a b), .int (dot c a), .int (dot c b), .bool true], .no, .no, .no, .no, .no, .no, .no, .no, .no, .val (rowD a), .val (rowD b), .val (rowD c), .no, .no, .no, .no, .no, .no, .no, .no, .no, .no, .no] c_law_right_3 ((c.zip a).map fun q => .int (q.1 * q.2)) := zip_ok (a := c) (b := a) (fun q => .int (q.1 * q.2)) rfl rfl (by have := hc.1; omega) rfl fun x hx => ⟨[.own true bx, .val (.int m), .val (rowD (addR a b)), .own false [rowD (addR a b), .int (dot c a), .int (dot c b), .bool true], .no, .no, .no, .no, .no, .no, .no, .no, .no, .val (rowD a), .val (rowD b), .val (rowD c), .no, .no, .no, .no, .no, .no, .no, .val (.int x.1), .val (.int x.2), .no, .no], rfl, rfl, V_bin (V_var rfl) (V_var rfl) (b_mul_ok (hc.2 _ (List.of_mem_zip hx).1))⟩
  have h2 : O (runF tb (k+10)) [.own true bx, .val (.int m), .val (rowD (addR a b)), .own false [rowD (addR a b), .int (dot c a), .int (dot c b), .bool true], .no, .no, .no, .no, .no, .no, .no, .no, .no, .val (rowD a), .val (rowD b), .val (rowD c), .no, .no, .no, .no, .no, .no, .no, .no, .no, .no, .no] c_law_right_4 ((c.zip b).map fun q => .int (q.1 * q.2)) := zip_ok (a := c) (b := b) (fun q => .int (q.1 * q.2)) rfl rfl (by have := hc.1; omega) rfl fun x hx => ⟨[.own true bx, .val (.int m), .val (rowD (addR a b)), .own false [rowD (addR a b), .int (dot c a), .int (dot c b), .bool true], .no, .no, .no, .no, .no, .no, .no, .no, .no, .val (rowD a), .val (rowD b), .val (rowD c), .no, .no, .no, .no, .no, .no, .no, .val (.int x.1), .val (.int x.2), .no, .no], rfl, rfl, V_bin (V_var rfl) (V_var rfl) (b_mul_ok (hc.2 _ (List.of_mem_zip hx).1))⟩
  have e1 (x : List Int) : ((c.zip x).map fun q => PyData.int (q.1 * q.2)) = ((c.zip x).map fun q => q.1 * q.2).map .int := by rw [List.map_map]; rfl
  rw [e1] at h1 h2
  have hl : (addR a b).length ≤ 1000 := by rw [List.length_map, List.length_zip, ha.1, hb.1]; omega
  have ok : okD (.list [rowD (addR a b), .int (dot c a), .int (dot c b), .bool true]) = true := by
    show (decide (4 ≤ 1000) && (okD (rowD (addR a b)) && (true && (true && (true && true))))) = true
    rw [okD_row _ hl]
    rfl
  have hh : hgt (.list [rowD (addR a b), .int (dot c a), .int (dot c b), .bool true]) < k + 10 := by
    have := hgt_row (addR a b)
    show max (hgt (rowD (addR a b))) (max 0 (max 0 (max 0 0))) + 1 < k + 10
    omega
  exact same_if (ds := [rowD (addR a b), .int (dot c a), .int (dot c b), .bool true]) rfl (O_lst (Vs_cons (V_var rfl) (Vs_cons (V_prim (Vs_consO h1 Vs_nil) (p_sum_ok _)) (Vs_cons (V_prim (Vs_consO h2 Vs_nil) (p_sum_ok _)) (Vs_cons (V_c _) Vs_nil)))) (by unfold LINE; simp)) (s_same _ _ ok hh)
theorem w7 (ha : Lo m a) (hb : Lo m b) (hm : m ≤ 5) (hm1 : 1 ≤ m) {s : Slot} (hs : storable (some s) = true) : ev (runF tb (k+10)) s_law_right_7 [.own true bx, .val (.int m), .val (rowD (addR a b)), s, .val (.bool (atMost a b)), .val (rowD (maxR a b)), .no, .no, .no, .no, .no, .no, .no, .val (rowD a), .val (rowD b), .val (rowD c), .no, .no, .no, .no, .no, .no, .no, .no, .no, .no, .no] = .ok (.fl .nx) [.own true bx, .val (.int m), .val (rowD (addR a b)), .own false [.bool (atMost a b), .bool (atMost a b && !decide (a = b)), .bool (atMost b a), .tuple [rowD (maxR a b)], .tuple [rowD (addR a b)]], .val (.bool (atMost a b)), .val (rowD (maxR a b)), .no, .no, .no, .no, .no, .no, .no, .val (rowD a), .val (rowD b), .val (rowD c), .no, .no, .no, .no, .no, .no, .no, .no, .no, .no, .no] := by
  have la := lo_low ha hm
  have lb := lo_low hb hm
  have hl := ha.1.trans hb.1.symm
  have r1 := s_is_at_most (k+5) la lb hl
  have r2 := s_is_below (k+5) la lb hl
  have r3 := s_reaches (k+5) (rs := [b]) (r := a) (by simp) (fun x hx => by rw [List.mem_singleton.mp hx]; exact lb) la (fun x hx => by rw [List.mem_singleton.mp hx]; exact hl.symm)
  have r4 := s_met1 (k+5) la lb hl (by rw [ha.1]; exact hm1)
  have r5 := s_sums1 (k+5) la lb hl (by rw [ha.1]; exact hm1)
  have e3 : ([b].any fun o => atMost o a) = atMost b a := by rw [List.any_cons, List.any_nil, Bool.or_false]
  rw [e3] at r3
  refine asg_l (O_lst (ds := [.bool (atMost a b), .bool (atMost a b && !decide (a = b)), .bool (atMost b a), .tuple [rowD (maxR a b)], .tuple [rowD (addR a b)]]) (Vs_cons (V_call (Vs_cons (V_var rfl) (Vs_cons (V_var rfl) Vs_nil)) r1) (Vs_cons (V_call (Vs_cons (V_var rfl) (Vs_cons (V_var rfl) Vs_nil)) r2) (Vs_cons (V_call (Vs_cons (V_tup (Vs_cons (V_var rfl) Vs_nil) one_line) (Vs_cons (V_var rfl) Vs_nil)) r3) (Vs_cons (V_call (Vs_cons (V_tup (Vs_cons (V_var rfl) Vs_nil) one_line) (Vs_cons (V_tup (Vs_cons (V_var rfl) Vs_nil) one_line) Vs_nil)) r4) (Vs_cons (V_call (Vs_cons (V_tup (Vs_cons (V_var rfl) Vs_nil) one_line) (Vs_cons (V_tup (Vs_cons (V_var rfl) Vs_nil) one_line) Vs_nil)) r5) Vs_nil))))) (by unfold LINE; simp)) hs
theorem w8 (ha : Lo m a) (hb : Lo m b) (hm : m ≤ 5) : ev (runF tb (k+10)) s_law_right_8 [.own true bx, .val (.int m), .val (rowD (addR a b)), .own false [.bool (atMost a b), .bool (atMost a b && !decide (a = b)), .bool (atMost b a), .tuple [rowD (maxR a b)], .tuple [rowD (addR a b)]], .val (.bool (atMost a b)), .val (rowD (maxR a b)), .no, .no, .no, .no, .no, .no, .no, .val (rowD a), .val (rowD b), .val (rowD c), .no, .no, .no, .no, .no, .no, .no, .no, .no, .no, .no] = .ok (.fl .nx) [.own true bx, .val (.int m), .val (rowD (addR a b)), .own false [.bool (atMost a b), .bool (atMost a b && !decide (a = b)), .bool (atMost b a), .tuple [rowD (maxR a b)], .tuple [rowD (addR a b)]], .val (.bool (atMost a b)), .val (rowD (maxR a b)), .no, .no, .no, .no, .no, .no, .no, .val (rowD a), .val (rowD b), .val (rowD c), .no, .no, .no, .no, .no, .no, .no, .no, .no, .no, .no] := by
  have hc : O (runF tb (k+10)) [.own true bx, .val (.int m), .val (rowD (addR a b)), .own false [.bool (atMost a b), .bool (atMost a b && !decide (a = b)), .bool (atMost b a), .tuple [rowD (maxR a b)], .tuple [rowD (addR a b)]], .val (.bool (atMost a b)), .val (rowD (maxR a b)), .no, .no, .no, .no, .no, .no, .no, .val (rowD a), .val (rowD b), .val (rowD c), .no, .no, .no, .no, .no, .no, .no, .no, .no, .no, .no] c_law_right_7 ((b.zip a).filterMap gtF) := zipf_ok (a := b) (b := a) gtF rfl rfl (by have := hb.1; omega) rfl fun x _ => ⟨[.own true bx, .val (.int m), .val (rowD (addR a b)), .own false [.bool (atMost a b), .bool (atMost a b && !decide (a = b)), .bool (atMost b a), .tuple [rowD (maxR a b)], .tuple [rowD (addR a b)]], .val (.bool (atMost a b)), .val (rowD (maxR a b)), .no, .no, .no, .no, .no, .no, .no, .val (rowD a), .val (rowD b), .val (rowD c), .no, .no, .no, .no, .no, .no, .no, .val (.int x.1), .val (.int x.2), .no, .no], rfl, rfl, by
    by_cases h : x.1 > x.2
    · exact .inr ⟨.int 1, .v (.int 1), if_pos h, by show R.ok (decide (x.1 > x.2)) _ = _; rw [decide_eq_true h], rfl, rfl⟩
    · exact .inl ⟨if_neg h, by show R.ok (decide (x.1 > x.2)) _ = _; rw [decide_eq_false h]⟩⟩
  have hl : (addR a b).length ≤ 1000 := by rw [List.length_map, List.length_zip, ha.1, hb.1]; omega
  have hl2 : (maxR a b).length ≤ 1000 := by rw [List.length_map, List.length_zip, ha.1, hb.1]; omega
  have ok : okD (.list [.bool (atMost a b), .bool (atMost a b && !decide (a = b)), .bool (atMost b a), .tuple [rowD (maxR a b)], .tuple [rowD (addR a b)]]) = true := by
    show (decide (5 ≤ 1000) && (true && (true && (true && ((decide (1 ≤ 1000) && (okD (rowD (maxR a b)) && true)) && ((decide (1 ≤ 1000) && (okD (rowD (addR a b)) && true)) && true)))))) = true
    rw [okD_row _ hl, okD_row _ hl2]
    rfl
  have hh : hgt (.list [.bool (atMost a b), .bool (atMost a b && !decide (a = b)), .bool (atMost b a), .tuple [rowD (maxR a b)], .tuple [rowD (addR a b)]]) < k + 10 := by
    have := hgt_row (addR a b)
    have := hgt_row (maxR a b)
    show max 0 (max 0 (max 0 (max (max (hgt (rowD (maxR a b))) 0 + 1) (max (max (hgt (rowD (addR a b))) 0 + 1) 0)))) + 1 < k + 10
    omega
  exact same_if (ds := [.bool (atMost a b), .bool (atMost a b && !decide (a = b)), .bool (atMost b a), .tuple [rowD (maxR a b)], .tuple [rowD (addR a b)]]) rfl (O_lst (Vs_cons (V_var rfl) (Vs_cons (V_and (V_var rfl) fun _ => V_cmp (V_var rfl) (V_var rfl) (ne_row a b)) (Vs_cons (V_cmpO (t := atMost b a) hc (O_lst (ds := []) Vs_nil (Nat.zero_le _)) (by rw [eq_nil, gt_nil])) (Vs_cons (V_tup (Vs_cons (V_var rfl) Vs_nil) one_line) (Vs_cons (V_tup (Vs_cons (V_var rfl) Vs_nil) one_line) Vs_nil))))) (by unfold LINE; simp)) (s_same _ _ ok hh)
theorem w9 {n : Nat} (hb : Box n bx) (hn : n + 1 < 2 ^ 30) (hm : m ≤ 5) (hm1 : 1 ≤ m) {s : Slot} : ∃ (j : Nat) (bx' : List D), j < m ∧ Box (n + 1) bx' ∧ ev (runF tb (k+10)) s_law_right_9 [.own true bx, .val (.int m), .val (rowD (addR a b)), .own false [.bool (atMost a b), .bool (atMost a b && !decide (a = b)), .bool (atMost b a), .tuple [rowD (maxR a b)], .tuple [rowD (addR a b)]], .val (.bool (atMost a b)), .val (rowD (maxR a b)), .no, .no, .no, .no, .no, .no, .no, .val (rowD a), .val (rowD b), .val (rowD c), .no, .no, .no, .no, .no, .no, .no, .no, .no, .no, .no] = .ok (.fl .nx) [.own true bx', .val (.int m), .val (rowD (addR a b)), .own false [.bool (atMost a b), .bool (atMost a b && !decide (a = b)), .bool (atMost b a), .tuple [rowD (maxR a b)], .tuple [rowD (addR a b)]], .val (.bool (atMost a b)), .val (rowD (maxR a b)), .val (.int j), .no, .no, .no, .no, .no, .no, .val (rowD a), .val (rowD b), .val (rowD c), .no, .no, .no, .no, .no, .no, .no, .no, .no, .no, .no] := by
  obtain ⟨j, bx', h1, h2, h3, h4⟩ := s_take (k+9) hb (by omega) (z := (m : Int)) (by omega) (by omega)
  obtain ⟨j, rfl⟩ := Int.eq_ofNat_of_zero_le h2
  exact ⟨j, bx', by omega, h4, asg_v (call_io (io := true) rfl (V_var rfl) h1) rfl⟩
theorem w10 {j : Nat} (hj : j < a.length) (hm : a.length ≤ 5) : ev (runF tb (k+10)) s_law_right_10 [.own true bx, .val (.int m), .val (rowD (addR a b)), .own false [.bool (atMost a b), .bool (atMost a b && !decide (a = b)), .bool (atMost b a), .tuple [rowD (maxR a b)], .tuple [rowD (addR a b)]], .val (.bool (atMost a b)), .val (rowD (maxR a b)), .val (.int (j : Nat)), .no, .no, .no, .no, .no, .no, .val (rowD a), .val (rowD b), .val (rowD c), .no, .no, .no, .no, .no, .no, .no, .no, .no, .no, .no] = .ok (.fl .nx) [.own true bx, .val (.int m), .val (rowD (addR a b)), .own false [.bool (atMost a b), .bool (atMost a b && !decide (a = b)), .bool (atMost b a), .tuple [rowD (maxR a b)], .tuple [rowD (addR a b)]], .val (.bool (atMost a b)), .val (rowD (maxR a b)), .val (.int (j : Nat)), .val (rowD (moreR a j hj)), .no, .no, .no, .no, .no, .val (rowD a), .val (rowD b), .val (rowD c), .no, .no, .no, .no, .no, .no, .no, .no, .no, .no, .no] := by
  have hb : V (runF tb (k+10)) [.own true bx, .val (.int m), .val (rowD (addR a b)), .own false [.bool (atMost a b), .bool (atMost a b && !decide (a = b)), .bool (atMost b a), .tuple [rowD (maxR a b)], .tuple [rowD (addR a b)]], .val (.bool (atMost a b)), .val (rowD (maxR a b)), .val (.int (j : Nat)), .no, .no, .no, .no, .no, .no, .val (rowD a), .val (rowD b), .val (rowD c), .no, .no, .no, .no, .no, .no, .no, .no, .no, .no, .no] (.ite (.cmp .Lt (.idx (.var 13) (.var 6)) (.bin .Pow (.const (.int 10)) (.const (.int 6)))) (.bin .Add (.idx (.var 13) (.var 6)) (.const (.int 1))) (.bin .Sub (.idx (.var 13) (.var 6)) (.const (.int 1)))) (.int (bump a[j])) :=
    ite_r (x := decide (a[j] < 1000000)) (V_cmp (V_idx (V_var rfl) (V_var rfl) (at_row hj)) (V_bin (V_c _) (V_c _) b_pow6) rfl) (fun h => by rw [show bump a[j] = a[j] + 1 from if_pos (of_decide_eq_true h)]; exact V_bin (V_idx (V_var rfl) (V_var rfl) (at_row hj)) (V_c _) (b_add _ _)) (fun h => by rw [show bump a[j] = a[j] - 1 from if_neg (of_decide_eq_false h)]; exact V_bin (V_idx (V_var rfl) (V_var rfl) (at_row hj)) (V_c _) (b_sub _ _))
  have h1 : V (runF tb (k+10)) [.own true bx, .val (.int m), .val (rowD (addR a b)), .own false [.bool (atMost a b), .bool (atMost a b && !decide (a = b)), .bool (atMost b a), .tuple [rowD (maxR a b)], .tuple [rowD (addR a b)]], .val (.bool (atMost a b)), .val (rowD (maxR a b)), .val (.int (j : Nat)), .no, .no, .no, .no, .no, .no, .val (rowD a), .val (rowD b), .val (rowD c), .no, .no, .no, .no, .no, .no, .no, .no, .no, .no, .no] (.slc (.var 13) .absent (.var 6)) (.tuple ((a.map .int).take j)) := by
    have := V_slo (cf := runF tb (k+10)) (e := [.own true bx, .val (.int m), .val (rowD (addR a b)), .own false [.bool (atMost a b), .bool (atMost a b && !decide (a = b)), .bool (atMost b a), .tuple [rowD (maxR a b)], .tuple [rowD (addR a b)]], .val (.bool (atMost a b)), .val (rowD (maxR a b)), .val (.int (j : Nat)), .no, .no, .no, .no, .no, .no, .val (rowD a), .val (rowD b), .val (rowD c), .no, .no, .no, .no, .no, .no, .no, .no, .no, .no, .no]) (i := 13) (j := 6) (xs := a.map .int) (h := j) rfl rfl
    rw [cut_lo _ _ (by rw [List.length_map]; omega)] at this
    exact this
  have h2 : V (runF tb (k+10)) [.own true bx, .val (.int m), .val (rowD (addR a b)), .own false [.bool (atMost a b), .bool (atMost a b && !decide (a = b)), .bool (atMost b a), .tuple [rowD (maxR a b)], .tuple [rowD (addR a b)]], .val (.bool (atMost a b)), .val (rowD (maxR a b)), .val (.int (j : Nat)), .no, .no, .no, .no, .no, .no, .val (rowD a), .val (rowD b), .val (rowD c), .no, .no, .no, .no, .no, .no, .no, .no, .no, .no, .no] (.slc (.var 13) (.bin .Add (.var 6) (.const (.int 1))) .absent) (.tuple ((a.map .int).drop (j + 1))) := by
    have := V_shi (cf := runF tb (k+10)) (e := [.own true bx, .val (.int m), .val (rowD (addR a b)), .own false [.bool (atMost a b), .bool (atMost a b && !decide (a = b)), .bool (atMost b a), .tuple [rowD (maxR a b)], .tuple [rowD (addR a b)]], .val (.bool (atMost a b)), .val (rowD (maxR a b)), .val (.int (j : Nat)), .no, .no, .no, .no, .no, .no, .val (rowD a), .val (rowD b), .val (rowD c), .no, .no, .no, .no, .no, .no, .no, .no, .no, .no, .no]) (i := 13) (a := .var 6) (b := .const (.int 1)) (op := .Add) (xs := a.map .int) (l := ((j + 1 : Nat) : Int)) rfl (V_bin (V_var rfl) (V_c _) rfl)
    rw [cut_hi _ _ (by rw [List.length_map]; omega)] at this
    exact this
  have e : (a.map PyData.int).take j ++ [.int (bump a[j])] ++ (a.map PyData.int).drop (j + 1) = (moreR a j hj).map .int := by
    rw [List.map_append, List.map_append, List.map_take, List.map_drop]; rfl
  refine asg_v (i := 7) (e1 := [.own true bx, .val (.int m), .val (rowD (addR a b)), .own false [.bool (atMost a b), .bool (atMost a b && !decide (a = b)), .bool (atMost b a), .tuple [rowD (maxR a b)], .tuple [rowD (addR a b)]], .val (.bool (atMost a b)), .val (rowD (maxR a b)), .val (.int (j : Nat)), .no, .no, .no, .no, .no, .no, .val (rowD a), .val (rowD b), .val (rowD c), .no, .no, .no, .no, .no, .no, .no, .no, .no, .no, .no]) (d := .tuple ((moreR a j hj).map .int)) ?_ rfl
  rw [← e]
  exact V_bin (V_bin h1 (V_tup (Vs_cons hb Vs_nil) one_line) (by rw [b_addt, if_pos (by rw [List.length_take, List.length_map]; unfold LINE; simp; omega)])) h2 (by rw [b_addt, if_pos (by rw [List.length_append, List.length_take, List.length_drop, List.length_map]; unfold LINE; simp; omega)])
theorem w11 {j : Nat} (hj : j < a.length) : ev (runF tb (k+10)) s_law_right_11 [.own true bx, .val (.int m), .val (rowD (addR a b)), .own false [.bool (atMost a b), .bool (atMost a b && !decide (a = b)), .bool (atMost b a), .tuple [rowD (maxR a b)], .tuple [rowD (addR a b)]], .val (.bool (atMost a b)), .val (rowD (maxR a b)), .val (.int (j : Nat)), .val (rowD (moreR a j hj)), .no, .no, .no, .no, .no, .val (rowD a), .val (rowD b), .val (rowD c), .no, .no, .no, .no, .no, .no, .no, .no, .no, .no, .no] = .ok (.fl .nx) [.own true bx, .val (.int m), .val (rowD (addR a b)), .own false [.bool (atMost a b), .bool (atMost a b && !decide (a = b)), .bool (atMost b a), .tuple [rowD (maxR a b)], .tuple [rowD (addR a b)]], .val (.bool (atMost a b)), .val (rowD (maxR a b)), .val (.int (j : Nat)), .val (rowD (moreR a j hj)), .val (.bool (decide (bump a[j] > a[j]))), .no, .no, .no, .no, .val (rowD a), .val (rowD b), .val (rowD c), .no, .no, .no, .no, .no, .no, .no, .no, .no, .no, .no] := by
  have h1 : idxD (rowD (moreR a j hj)) (.int (j : Int)) = some (.int (bump a[j])) := by
    rw [at_row (by rw [moreR_len]; exact hj), moreR_at]
  exact asg_v (V_cmp (V_idx (V_var rfl) (V_var rfl) h1) (V_idx (V_var rfl) (V_var rfl) (at_row hj)) rfl) rfl
theorem w12 {j : Nat} (hj : j < a.length) (hj2 : j < c.length) (ha : Lo m a) (hc : Lo m c) (hm : m ≤ 5) (hm1 : 1 ≤ m) {s : Slot} (hs : storable (some s) = true) : ev (runF tb (k+10)) s_law_right_12 [.own true bx, .val (.int m), .val (rowD (addR a b)), s, .val (.bool (atMost a b)), .val (rowD (maxR a b)), .val (.int (j : Nat)), .val (rowD (moreR a j hj)), .val (.bool (decide (bump a[j] > a[j]))), .no, .no, .no, .no, .val (rowD a), .val (rowD b), .val (rowD c), .no, .no, .no, .no, .no, .no, .no, .no, .no, .no, .no] = .ok (.fl .nx) [.own true bx, .val (.int m), .val (rowD (addR a b)), .own false [.bool (decide (bump a[j] > a[j])), .bool (!decide (bump a[j] > a[j])), .tuple [rowD (if decide (bump a[j] > a[j]) = true then a else moreR a j hj)], .int (if decide (bump a[j] > a[j]) = true then c[j]'hj2 else -(c[j]'hj2))], .val (.bool (atMost a b)), .val (rowD (maxR a b)), .val (.int (j : Nat)), .val (rowD (moreR a j hj)), .val (.bool (decide (bump a[j] > a[j]))), .no, .no, .no, .no, .val (rowD a), .val (rowD b), .val (rowD c), .no, .no, .no, .no, .no, .no, .no, .no, .no, .no, .no] := by
  have hmo := more_lo hj ha
  have la := lo_low ha hm
  have lc := lo_low hc hm
  have lm := lo_low hmo hm
  have hne := more_ne hj
  have hbn := bump_ne a[j]
  have r1 := s_is_below (k+5) la lm (ha.1.trans hmo.1.symm)
  have r2 := s_is_below (k+5) lm la (hmo.1.trans ha.1.symm)
  have r3 := s_least_rows (k+5) (rs := [a, moreR a j hj]) (m := m) hm1 (by simp) (fun x hx => by rcases List.mem_cons.mp hx with rfl | hx; exact la; rw [List.mem_singleton.mp hx]; exact lm) (fun x hx => by rcases List.mem_cons.mp hx with rfl | hx; exact ha.1; rw [List.mem_singleton.mp hx]; exact hmo.1) hm (by
    have : sortU [a, moreR a j hj] = if moreR a j hj = a then [a] else if ltL (moreR a j hj) a = true then [moreR a j hj, a] else [a, moreR a j hj] := rfl
    rw [this]
    split
    · simp
    · split <;> simp)
  have r4 := s_price_of (k+5) lc lm (hc.1.trans hmo.1.symm)
  have r5 := s_price_of (k+5) lc la (hc.1.trans ha.1.symm)
  have e1 : (atMost a (moreR a j hj) && !decide (a = moreR a j hj)) = decide (bump a[j] > a[j]) := by
    rw [decide_eq_false (Ne.symm hne), Bool.not_false, Bool.and_true, moreR_set hj, atMost_set a j _ hj]
    exact decide_eq_decide.mpr (by omega)
  have e2 : (atMost (moreR a j hj) a && !decide (moreR a j hj = a)) = !decide (bump a[j] > a[j]) := by
    rw [decide_eq_false hne, Bool.not_false, Bool.and_true, moreR_set hj, set_atMost a j _ hj, ← decide_not]
    exact decide_eq_decide.mpr (by omega)
  have e3 : leastL [a, moreR a j hj] = [if decide (bump a[j] > a[j]) = true then a else moreR a j hj] := by
    rw [moreR_set hj, leastL_set a j _ hj hbn]
    by_cases q : bump a[j] > a[j]
    · rw [if_pos q, if_pos (decide_eq_true q)]
    · rw [if_neg q, if_neg (by rw [decide_eq_false q]; exact Bool.false_ne_true)]
  have e4 : dot c (moreR a j hj) - dot c a = if decide (bump a[j] > a[j]) = true then c[j]'hj2 else -(c[j]'hj2) := by
    rw [moreR_set hj, dot_set c a j _ hj hj2]
    unfold bump
    by_cases q : a[j] < 1000000
    · rw [if_pos q, if_pos (decide_eq_true (by omega)), show a[j] + 1 - a[j] = 1 by omega, Int.mul_one]; omega
    · rw [if_neg q, if_neg (by rw [decide_eq_false (by omega)]; exact Bool.false_ne_true), show a[j] - 1 - a[j] = -1 by omega, Int.mul_neg, Int.mul_one]; omega
  rw [e1] at r1
  rw [e2] at r2
  rw [e3] at r3
  refine asg_l (O_lst (ds := [.bool (decide (bump a[j] > a[j])), .bool (!decide (bump a[j] > a[j])), .tuple [rowD (if decide (bump a[j] > a[j]) = true then a else moreR a j hj)], .int (if decide (bump a[j] > a[j]) = true then c[j]'hj2 else -(c[j]'hj2))]) (Vs_cons (V_call (Vs_cons (V_var rfl) (Vs_cons (V_var rfl) Vs_nil)) r1) (Vs_cons (V_call (Vs_cons (V_var rfl) (Vs_cons (V_var rfl) Vs_nil)) r2) (Vs_cons (V_call (Vs_cons (V_tup (Vs_cons (V_var rfl) (Vs_cons (V_var rfl) Vs_nil)) two_line) Vs_nil) r3) (Vs_cons (V_bin (V_call (Vs_cons (V_var rfl) (Vs_cons (V_var rfl) Vs_nil)) r4) (V_call (Vs_cons (V_var rfl) (Vs_cons (V_var rfl) Vs_nil)) r5) (by rw [b_sub, e4])) Vs_nil)))) (by unfold LINE; simp)) hs
end
end
end L2.Mp
set_option Elab.async false
set_option linter.all false
set_option maxRecDepth 100000
set_option maxHeartbeats 0
namespace L2.Mp
open PySem PySem.Spec PyProof.Rows L2
section
variable {cf : CF} {e : Fm}
theorem V_neg {a : T} {i : Int} (ha : V cf e a (.int i)) : V cf e (.neg a) (.int (-i)) := by
  unfold V at ha ⊢
  simp only [ev, R.rv, R.rvs, R.dsk, R.bnd, testR, partR, rd, rds, fz, fzs, nrm, optR, keepS, storable, tru, isD, tyN, Ty.sub, List.any_cons, List.any_nil, List.all_cons, List.all_nil, doCall, mkArgs, lent, isOwnS, noDup, putOuts, argsFit, endF, outsF, startF, bindT, bindTs, List.getElem?_cons_zero, List.getElem?_cons_succ, List.getElem?_nil, List.map_cons, List.map_nil, List.length_cons, List.length_nil, List.replicate, List.cons_append, List.nil_append, List.set_cons_zero, List.set_cons_succ, Option.bind, Option.map, Bool.and_true, Bool.true_and, Bool.and_false, Bool.false_and, Bool.or_true, Bool.true_or, Bool.or_false, Bool.false_or, Bool.not_true, Bool.not_false, Bool.not_not, if_true, if_false, Bool.false_eq_true, reduceIte, reduceCtorEq, decide_true, decide_false, List.isEmpty_nil, List.isEmpty_cons, beq_self_eq_true, Nat.reduceAdd, Nat.reduceSub, Nat.reduceLeDiff, Nat.reduceLT, List.contains_nil, it_l, it_t, it_r, ty_r, b_add, b_sub, b_mul, b_mod, b_fdiv, b_addt, b_addl, b_pow3, b_pow6, b_pow12, b_pow18, i_t, i_l, i_r, sl_t, sl_l, p_len_l, p_len_t, p_len_r, p_abs, p_int, p_intB, p_tup_l, p_tup_t, p_lst_l, p_lst_t, p_sum_l, p_sum_t, p_sum_r, p_all, p_any, p_max2, p_min2, isNon, nolistR, nolist, and_self, and_true, true_and, ha]
theorem same_ifV {x y : T} {d : D} (hx : V cf e x d) (hy : V cf e y d) (hs : cf "_law_same" [.d d, .d d] = .ok (.v (.bool true)) []) : ev cf (.ifS (.notT (.call "_law_same" [false, false] (.cons x (.cons y .nil)))) (.seq (.ret (.const (.bool false))) .done) .done) e = .ok (.fl .nx) e :=
  if_r (x := false) (V_not (x := true) (V_call (Vs_cons hx (Vs_cons hy Vs_nil)) hs)) (fun z => nomatch z) (fun _ => rfl)
theorem sR1_ge {a : T} {e1 : Fm} {m : Int} (h : ev cf a e = .ok (.rv (.v (.int m))) e1) (h1 : -(2 ^ 62) ≤ m) (h2 : m < 2 ^ 62) : ev cf (.sR1 a) e = .ok (.ds (iota 0 m.toNat)) e1 := by
  show (ev cf a e).rv (fun ra e1 => (match rd ra e1 with
    | some (.int n) => if -(2 ^ 62) ≤ n ∧ n < 2 ^ 62 then R.ok (Val.ds (iota 0 n.toNat)) e1 else .bad
    | _ => .bad)) = _
  rw [h]
  dsimp only [R.rv, rd]
  rw [if_pos ⟨h1, h2⟩]
theorem sR1_e {a : T} {e1 : Fm} {n : Nat} (h : ev cf a e = .ok (.rv (.v (.int (n : Nat)))) e1) (hn : n ≤ 1000000) : ev cf (.sR1 a) e = .ok (.ds ((List.range n).map fun i : Nat => PyData.int (0 + (i : Nat)))) e1 := by
  have q := sR1_ge h (by omega) (by omega)
  rw [Int.toNat_natCast] at q
  rw [q, ← iota_enc]
theorem bin_e {op : Operator} {a b : T} {x y d : D} {e1 : Fm} (ha : V cf e a x) (hb : ev cf b e = .ok (.rv (.v y)) e1) (h : binD op x y = some (.v d)) : ev cf (.bin op a b) e = .ok (.rv (.v d)) e1 := by
  show (ev cf a e).rv (fun ra e1 => (ev cf b e1).rv fun rb e2 => (match rd ra e2, rd rb e2 with
    | some x, some y => optR (binD op x y) e2
    | _, _ => .bad)) = _
  rw [ha]
  show (ev cf b e).rv (fun rb e2 => (match rd (.v x) e2, rd rb e2 with
    | some x, some y => optR (binD op x y) e2
    | _, _ => .bad)) = _
  rw [hb]
  show optR (binD op x y) e1 = _
  rw [h]
  rfl
theorem of_call {e1 : Fm} {x : T} {ds b0 b1 b2 : List D} {r : D} {i : Nat} {io : Bool} (h0 : e[i]? = some (.own io b0)) (hx : ev cf x e = .ok (.rv (.o ds)) e1) (h1 : e1[i]? = some (.own io b1)) (h : cf "_law_of" [.io b1, .d (.list ds)] = .ok (.v r) [b2]) : ev cf (.call "_law_of" [true, false] (.cons (.var i) (.cons x .nil))) e = .ok (.rv (.v r)) (e1.set i (.own io b2)) := by
  simp only [ev, R.rv, R.rvs, R.dsk, R.bnd, testR, partR, rd, rds, fz, fzs, nrm, optR, keepS, storable, tru, isD, tyN, Ty.sub, List.any_cons, List.any_nil, List.all_cons, List.all_nil, doCall, mkArgs, lent, isOwnS, noDup, putOuts, argsFit, endF, outsF, startF, bindT, bindTs, List.getElem?_cons_zero, List.getElem?_cons_succ, List.getElem?_nil, List.map_cons, List.map_nil, List.length_cons, List.length_nil, List.replicate, List.cons_append, List.nil_append, List.set_cons_zero, List.set_cons_succ, Option.bind, Option.map, Bool.and_true, Bool.true_and, Bool.and_false, Bool.false_and, Bool.or_true, Bool.true_or, Bool.or_false, Bool.false_or, Bool.not_true, Bool.not_false, Bool.not_not, if_true, if_false, Bool.false_eq_true, reduceIte, reduceCtorEq, decide_true, decide_false, List.isEmpty_nil, List.isEmpty_cons, beq_self_eq_true, Nat.reduceAdd, Nat.reduceSub, Nat.reduceLeDiff, Nat.reduceLT, List.contains_nil, it_l, it_t, it_r, ty_r, b_add, b_sub, b_mul, b_mod, b_fdiv, b_addt, b_addl, b_pow3, b_pow6, b_pow12, b_pow18, i_t, i_l, i_r, sl_t, sl_l, p_len_l, p_len_t, p_len_r, p_abs, p_int, p_intB, p_tup_l, p_tup_t, p_lst_l, p_lst_t, p_sum_l, p_sum_t, p_sum_r, p_all, p_any, p_max2, p_min2, isNon, nolistR, nolist, and_self, and_true, true_and, h0, hx, h1, h]
theorem five_line : (5 : Nat) ≤ LINE := by unfold LINE; omega
theorem lst5 {e1 : Fm} {t : T} {r : Int} (h : ev cf t e = .ok (.rv (.v (.int r))) e1) : ev cf (.lst (.cons (.const (.int 0)) (.cons (.const (.int 1)) (.cons (.bin .Pow (.const (.int 10)) (.const (.int 12))) (.cons (.bin .Sub (.bin .Pow (.const (.int 10)) (.const (.int 12))) (.const (.int 1))) (.cons t .nil)))))) e = .ok (.rv (.o [.int 0, .int 1, .int 1000000000000, .int (1000000000000 - 1), .int r])) e1 := by
  simp only [ev, R.rv, R.rvs, R.dsk, R.bnd, testR, partR, rd, rds, fz, fzs, nrm, optR, keepS, storable, tru, isD, tyN, Ty.sub, List.any_cons, List.any_nil, List.all_cons, List.all_nil, doCall, mkArgs, lent, isOwnS, noDup, putOuts, argsFit, endF, outsF, startF, bindT, bindTs, List.getElem?_cons_zero, List.getElem?_cons_succ, List.getElem?_nil, List.map_cons, List.map_nil, List.length_cons, List.length_nil, List.replicate, List.cons_append, List.nil_append, List.set_cons_zero, List.set_cons_succ, Option.bind, Option.map, Bool.and_true, Bool.true_and, Bool.and_false, Bool.false_and, Bool.or_true, Bool.true_or, Bool.or_false, Bool.false_or, Bool.not_true, Bool.not_false, Bool.not_not, if_true, if_false, Bool.false_eq_true, reduceIte, reduceCtorEq, decide_true, decide_false, List.isEmpty_nil, List.isEmpty_cons, beq_self_eq_true, Nat.reduceAdd, Nat.reduceSub, Nat.reduceLeDiff, Nat.reduceLT, List.contains_nil, it_l, it_t, it_r, ty_r, b_add, b_sub, b_mul, b_mod, b_fdiv, b_addt, b_addl, b_pow3, b_pow6, b_pow12, b_pow18, i_t, i_l, i_r, sl_t, sl_l, p_len_l, p_len_t, p_len_r, p_abs, p_int, p_intB, p_tup_l, p_tup_t, p_lst_l, p_lst_t, p_sum_l, p_sum_t, p_sum_r, p_all, p_any, p_max2, p_min2, isNon, nolistR, nolist, and_self, and_true, true_and, h, five_line]
theorem sort_e {c : T} {e1 : Fm} {xs ys : List D} (h : ev cf c e = .ok (.rv (.o xs)) e1) (hs : sortSetD (.list xs) = some ys) : ev cf (.sortSet c) e = .ok (.rv (.o ys)) e1 := by
  show (ev cf c e).rv (fun ra e1 => (match (rd ra e1).bind sortSetD with
    | some ds => R.ok (Val.rv (.o ds)) e1
    | none => .bad)) = _
  rw [h]
  show (match sortSetD (.list xs) with
    | some ds => R.ok (Val.rv (.o ds)) e1
    | none => .bad) = _
  rw [hs]
theorem V_idxb {i : Nat} {b : T} {io : Bool} {xs : List D} {y d : D} (h0 : e[i]? = some (.own io xs)) (hb : V cf e b y) (h : idxD (.list xs) y = some d) : V cf e (.idx (.var i) b) d := by
  unfold V at hb ⊢
  simp only [ev, R.rv, R.rvs, R.dsk, R.bnd, testR, partR, rd, rds, fz, fzs, nrm, optR, keepS, storable, tru, isD, tyN, Ty.sub, List.any_cons, List.any_nil, List.all_cons, List.all_nil, doCall, mkArgs, lent, isOwnS, noDup, putOuts, argsFit, endF, outsF, startF, bindT, bindTs, List.getElem?_cons_zero, List.getElem?_cons_succ, List.getElem?_nil, List.map_cons, List.map_nil, List.length_cons, List.length_nil, List.replicate, List.cons_append, List.nil_append, List.set_cons_zero, List.set_cons_succ, Option.bind, Option.map, Bool.and_true, Bool.true_and, Bool.and_false, Bool.false_and, Bool.or_true, Bool.true_or, Bool.or_false, Bool.false_or, Bool.not_true, Bool.not_false, Bool.not_not, if_true, if_false, Bool.false_eq_true, reduceIte, reduceCtorEq, decide_true, decide_false, List.isEmpty_nil, List.isEmpty_cons, beq_self_eq_true, Nat.reduceAdd, Nat.reduceSub, Nat.reduceLeDiff, Nat.reduceLT, List.contains_nil, it_l, it_t, it_r, ty_r, b_add, b_sub, b_mul, b_mod, b_fdiv, b_addt, b_addl, b_pow3, b_pow6, b_pow12, b_pow18, i_t, i_l, i_r, sl_t, sl_l, p_len_l, p_len_t, p_len_r, p_abs, p_int, p_intB, p_tup_l, p_tup_t, p_lst_l, p_lst_t, p_sum_l, p_sum_t, p_sum_r, p_all, p_any, p_max2, p_min2, isNon, nolistR, nolist, and_self, and_true, true_and, h0, hb, h]
theorem V_prim1b {i : Nat} {p : Prim} {io : Bool} {xs : List D} {d : D} (h0 : e[i]? = some (.own io xs)) (h : primD p [.list xs] = some (.v d)) : V cf e (.prim p (.cons (.var i) .nil)) d := by
  unfold V
  simp only [ev, R.rv, R.rvs, R.dsk, R.bnd, testR, partR, rd, rds, fz, fzs, nrm, optR, keepS, storable, tru, isD, tyN, Ty.sub, List.any_cons, List.any_nil, List.all_cons, List.all_nil, doCall, mkArgs, lent, isOwnS, noDup, putOuts, argsFit, endF, outsF, startF, bindT, bindTs, List.getElem?_cons_zero, List.getElem?_cons_succ, List.getElem?_nil, List.map_cons, List.map_nil, List.length_cons, List.length_nil, List.replicate, List.cons_append, List.nil_append, List.set_cons_zero, List.set_cons_succ, Option.bind, Option.map, Bool.and_true, Bool.true_and, Bool.and_false, Bool.false_and, Bool.or_true, Bool.true_or, Bool.or_false, Bool.false_or, Bool.not_true, Bool.not_false, Bool.not_not, if_true, if_false, Bool.false_eq_true, reduceIte, reduceCtorEq, decide_true, decide_false, List.isEmpty_nil, List.isEmpty_cons, beq_self_eq_true, Nat.reduceAdd, Nat.reduceSub, Nat.reduceLeDiff, Nat.reduceLT, List.contains_nil, it_l, it_t, it_r, ty_r, b_add, b_sub, b_mul, b_mod, b_fdiv, b_addt, b_addl, b_pow3, b_pow6, b_pow12, b_pow18, i_t, i_l, i_r, sl_t, sl_l, p_len_l, p_len_t, p_len_r, p_abs, p_int, p_intB, p_tup_l, p_tup_t, p_lst_l, p_lst_t, p_sum_l, p_sum_t, p_sum_r, p_all, p_any, p_max2, p_min2, isNon, nolistR, nolist, and_self, and_true, true_and, h0, h]
theorem call_io1 {f : Str} {i : Nat} {bx bx' : List D} {r : D} {io : Bool} (h0 : e[i]? = some (.own io bx)) (h : cf f [.io bx] = .ok (.v r) [bx']) : ev cf (.call f [true] (.cons (.var i) .nil)) e = .ok (.rv (.v r)) (e.set i (.own io bx')) := by
  simp only [ev, R.rv, R.rvs, R.dsk, R.bnd, testR, partR, rd, rds, fz, fzs, nrm, optR, keepS, storable, tru, isD, tyN, Ty.sub, List.any_cons, List.any_nil, List.all_cons, List.all_nil, doCall, mkArgs, lent, isOwnS, noDup, putOuts, argsFit, endF, outsF, startF, bindT, bindTs, List.getElem?_cons_zero, List.getElem?_cons_succ, List.getElem?_nil, List.map_cons, List.map_nil, List.length_cons, List.length_nil, List.replicate, List.cons_append, List.nil_append, List.set_cons_zero, List.set_cons_succ, Option.bind, Option.map, Bool.and_true, Bool.true_and, Bool.and_false, Bool.false_and, Bool.or_true, Bool.true_or, Bool.or_false, Bool.false_or, Bool.not_true, Bool.not_false, Bool.not_not, if_true, if_false, Bool.false_eq_true, reduceIte, reduceCtorEq, decide_true, decide_false, List.isEmpty_nil, List.isEmpty_cons, beq_self_eq_true, Nat.reduceAdd, Nat.reduceSub, Nat.reduceLeDiff, Nat.reduceLT, List.contains_nil, it_l, it_t, it_r, ty_r, b_add, b_sub, b_mul, b_mod, b_fdiv, b_addt, b_addl, b_pow3, b_pow6, b_pow12, b_pow18, i_t, i_l, i_r, sl_t, sl_l, p_len_l, p_len_t, p_len_r, p_abs, p_int, p_intB, p_tup_l, p_tup_t, p_lst_l, p_lst_t, p_sum_l, p_sum_t, p_sum_r, p_all, p_any, p_max2, p_min2, isNon, nolistR, nolist, and_self, and_true, true_and, h0, h]
theorem evC_V {op : CmpOp} {a b : T} {x : Bool} (h : V cf e (.cmp op a b) (.bool x)) : evC' cf (.cmp op a b) e = .ok x e := by
  show testR (ev cf (.cmp op a b) e) = _
  rw [h]
  rfl
theorem V_one {a : T} {d : D} (h : V cf e a d) : V cf e (.one a) d := h
theorem V_sl1 {i : Nat} {xs : List D} (h0 : e[i]? = some (.val (.tuple xs))) (h : 1 ≤ xs.length) : V cf e (.slc (.var i) (.const (.int 1)) .absent) (.tuple (xs.drop 1)) := by
  unfold V
  simp only [ev, R.rv, R.rvs, R.dsk, R.bnd, testR, partR, rd, rds, fz, fzs, nrm, optR, keepS, storable, tru, isD, tyN, Ty.sub, List.any_cons, List.any_nil, List.all_cons, List.all_nil, doCall, mkArgs, lent, isOwnS, noDup, putOuts, argsFit, endF, outsF, startF, bindT, bindTs, List.getElem?_cons_zero, List.getElem?_cons_succ, List.getElem?_nil, List.map_cons, List.map_nil, List.length_cons, List.length_nil, List.replicate, List.cons_append, List.nil_append, List.set_cons_zero, List.set_cons_succ, Option.bind, Option.map, Bool.and_true, Bool.true_and, Bool.and_false, Bool.false_and, Bool.or_true, Bool.true_or, Bool.or_false, Bool.false_or, Bool.not_true, Bool.not_false, Bool.not_not, if_true, if_false, Bool.false_eq_true, reduceIte, reduceCtorEq, decide_true, decide_false, List.isEmpty_nil, List.isEmpty_cons, beq_self_eq_true, Nat.reduceAdd, Nat.reduceSub, Nat.reduceLeDiff, Nat.reduceLT, List.contains_nil, it_l, it_t, it_r, ty_r, b_add, b_sub, b_mul, b_mod, b_fdiv, b_addt, b_addl, b_pow3, b_pow6, b_pow12, b_pow18, i_t, i_l, i_r, sl_t, sl_l, p_len_l, p_len_t, p_len_r, p_abs, p_int, p_intB, p_tup_l, p_tup_t, p_lst_l, p_lst_t, p_sum_l, p_sum_t, p_sum_r, p_all, p_any, p_max2, p_min2, isNon, nolistR, nolist, and_self, and_true, true_and, h0]
  rw [show (1 : Int) = ((1 : Nat) : Int) from rfl, cut_hi _ _ h]
theorem fLoop_inv {α : Type} {enc : α → D} {step : D → Fm → R Val} {P : Fm → Prop} : ∀ (xs : List α) (e : Fm), P e → (∀ x ∈ xs, ∀ e, P e → ∃ e', step (enc x) e = .ok (.fl .nx) e' ∧ P e') → ∃ e', fLoop step (xs.map enc) e = .ok (.fl .nx) e' ∧ P e'
  | [], e, h, _ => ⟨e, rfl, h⟩
  | x :: xs, e, h, hs => by
    obtain ⟨e1, h1, h2⟩ := hs x List.mem_cons_self e h
    obtain ⟨e2, h3, h4⟩ := fLoop_inv xs e1 h2 fun y hy => hs y (List.mem_cons_of_mem _ hy)
    refine ⟨e2, ?_, h4⟩
    show (match step (enc x) e with
      | .ok (.fl .nx) e1 => fLoop step (xs.map enc) e1
      | .ok (.fl .cont) e1 => fLoop step (xs.map enc) e1
      | .ok (.fl .brk) e1 => .ok (.fl .nx) e1
      | .ok (.fl (.ret r)) e1 => .ok (.fl (.ret r)) e1
      | .rz x e1 => .rz x e1
      | _ => .bad) = _
    rw [h1]
    exact h3
end
theorem box_mono {n m : Nat} {bx : List D} (h : Box n bx) (h' : n ≤ m) : Box m bx := by
  obtain ⟨b0, b1, b2, e, z⟩ := h
  exact ⟨b0, b1, b2, e, z.1, z.2.1, z.2.2.1, z.2.2.2.1, by omega⟩
theorem insU_len (x : List Int) : ∀ l : List (List Int), (insU x l).length ≤ l.length + 1
  | [] => Nat.le_refl _
  | y :: r => by
    unfold insU
    have := insU_len x r
    split
    · simp
    · split
      · simp
      · simp; omega
theorem sortU_len (rs : List (List Int)) : (sortU rs).length ≤ rs.length := by
  have go : ∀ (rs acc : List (List Int)), (rs.foldl (fun acc x => insU x acc) acc).length ≤ acc.length + rs.length := fun rs => by
    induction rs with
    | nil => exact fun acc => by simp
    | cons x rs ih =>
      intro acc
      have h1 := ih (insU x acc)
      have h2 := insU_len x acc
      rw [List.foldl_cons, List.length_cons]
      omega
  have := go rs []
  simpa [sortU] using this
theorem sum_nn : ∀ ws : List Int, (∀ w ∈ ws, 0 ≤ w) → 0 ≤ ws.sum
  | [], _ => by simp
  | w :: ws, h => by
    have h1 := h w List.mem_cons_self
    have h2 := sum_nn ws fun x hx => h x (List.mem_cons_of_mem _ hx)
    rw [List.sum_cons]
    omega
section
variable (k : Nat) {m : Nat} {bx : List D} {a b c : List Int}
variable {s0 s1 s2 s3 s4 s5 s6 s7 s8 s9 s10 s11 s12 s13 s14 s15 s16 s17 s18 s19 s20 s21 s22 s23 s24 s25 s26 : Slot}
theorem w13 {j : Nat} (hj : j < a.length) (hj2 : j < c.length) (ha : Lo m a) (hm : m ≤ 5) : ev (runF tb (k+10)) s_law_right_13 [s0, s1, s2, .own false [.bool (decide (bump a[j] > a[j])), .bool (!decide (bump a[j] > a[j])), .tuple [rowD (if decide (bump a[j] > a[j]) = true then a else moreR a j hj)], .int (if decide (bump a[j] > a[j]) = true then c[j]'hj2 else -(c[j]'hj2))], s4, s5, .val (.int (j : Nat)), .val (rowD (moreR a j hj)), .val (.bool (decide (bump a[j] > a[j]))), s9, s10, s11, s12, .val (rowD a), s14, .val (rowD c), s16, s17, s18, s19, s20, s21, s22, s23, s24, s25, s26] = .ok (.fl .nx) [s0, s1, s2, .own false [.bool (decide (bump a[j] > a[j])), .bool (!decide (bump a[j] > a[j])), .tuple [rowD (if decide (bump a[j] > a[j]) = true then a else moreR a j hj)], .int (if decide (bump a[j] > a[j]) = true then c[j]'hj2 else -(c[j]'hj2))], s4, s5, .val (.int (j : Nat)), .val (rowD (moreR a j hj)), .val (.bool (decide (bump a[j] > a[j]))), s9, s10, s11, s12, .val (rowD a), s14, .val (rowD c), s16, s17, s18, s19, s20, s21, s22, s23, s24, s25, s26] := by
  have hmo := more_lo hj ha
  have h1 : V (runF tb (k+10)) [s0, s1, s2, .own false [.bool (decide (bump a[j] > a[j])), .bool (!decide (bump a[j] > a[j])), .tuple [rowD (if decide (bump a[j] > a[j]) = true then a else moreR a j hj)], .int (if decide (bump a[j] > a[j]) = true then c[j]'hj2 else -(c[j]'hj2))], s4, s5, .val (.int (j : Nat)), .val (rowD (moreR a j hj)), .val (.bool (decide (bump a[j] > a[j]))), s9, s10, s11, s12, .val (rowD a), s14, .val (rowD c), s16, s17, s18, s19, s20, s21, s22, s23, s24, s25, s26] (.ite (.var 8) (.var 13) (.var 7)) (rowD (if decide (bump a[j] > a[j]) = true then a else moreR a j hj)) :=
    ite_r (x := decide (bump a[j] > a[j])) (V_var rfl) (fun h => by rw [if_pos h]; exact V_var rfl) (fun h => by rw [if_neg (by rw [h]; exact Bool.false_ne_true)]; exact V_var rfl)
  have h2 : V (runF tb (k+10)) [s0, s1, s2, .own false [.bool (decide (bump a[j] > a[j])), .bool (!decide (bump a[j] > a[j])), .tuple [rowD (if decide (bump a[j] > a[j]) = true then a else moreR a j hj)], .int (if decide (bump a[j] > a[j]) = true then c[j]'hj2 else -(c[j]'hj2))], s4, s5, .val (.int (j : Nat)), .val (rowD (moreR a j hj)), .val (.bool (decide (bump a[j] > a[j]))), s9, s10, s11, s12, .val (rowD a), s14, .val (rowD c), s16, s17, s18, s19, s20, s21, s22, s23, s24, s25, s26] (.ite (.var 8) (.idx (.var 15) (.var 6)) (.neg (.idx (.var 15) (.var 6)))) (.int (if decide (bump a[j] > a[j]) = true then c[j]'hj2 else -(c[j]'hj2))) :=
    ite_r (x := decide (bump a[j] > a[j])) (V_var rfl) (fun h => by rw [show (if decide (bump a[j] > a[j]) = true then c[j]'hj2 else -(c[j]'hj2)) = c[j]'hj2 from if_pos h]; exact V_idx (V_var rfl) (V_var rfl) (at_row hj2)) (fun h => by rw [show (if decide (bump a[j] > a[j]) = true then c[j]'hj2 else -(c[j]'hj2)) = -(c[j]'hj2) from if_neg (by rw [h]; exact Bool.false_ne_true)]; exact V_neg (V_idx (V_var rfl) (V_var rfl) (at_row hj2)))
  have hl : (if decide (bump a[j] > a[j]) = true then a else moreR a j hj).length ≤ 1000 := by
    have := ha.1
    have := hmo.1
    split <;> omega
  have ok : okD (.list [.bool (decide (bump a[j] > a[j])), .bool (!decide (bump a[j] > a[j])), .tuple [rowD (if decide (bump a[j] > a[j]) = true then a else moreR a j hj)], .int (if decide (bump a[j] > a[j]) = true then c[j]'hj2 else -(c[j]'hj2))]) = true := by
    show (decide (4 ≤ 1000) && (true && (true && ((decide (1 ≤ 1000) && (okD (rowD (if decide (bump a[j] > a[j]) = true then a else moreR a j hj)) && true)) && (true && true))))) = true
    rw [okD_row _ hl]
    rfl
  have hh : hgt (.list [.bool (decide (bump a[j] > a[j])), .bool (!decide (bump a[j] > a[j])), .tuple [rowD (if decide (bump a[j] > a[j]) = true then a else moreR a j hj)], .int (if decide (bump a[j] > a[j]) = true then c[j]'hj2 else -(c[j]'hj2))]) < k + 10 := by
    have := hgt_row (if decide (bump a[j] > a[j]) = true then a else moreR a j hj)
    show max 0 (max 0 (max (max (hgt (rowD (if decide (bump a[j] > a[j]) = true then a else moreR a j hj))) 0 + 1) (max 0 0))) + 1 < k + 10
    omega
  exact same_if (ds := [.bool (decide (bump a[j] > a[j])), .bool (!decide (bump a[j] > a[j])), .tuple [rowD (if decide (bump a[j] > a[j]) = true then a else moreR a j hj)], .int (if decide (bump a[j] > a[j]) = true then c[j]'hj2 else -(c[j]'hj2))]) rfl (O_lst (Vs_cons (V_var rfl) (Vs_cons (V_not (V_var rfl)) (Vs_cons (V_tup (Vs_cons h1 Vs_nil) one_line) (Vs_cons h2 Vs_nil)))) (by unfold LINE; simp)) (s_same _ _ ok hh)
/-! ### rows and weights drawn -/
theorem d_row8 {n : Nat} (hb : Box n bx) (hn : n + 5 < 2 ^ 30) (hm : m ≤ 5) (v : Slot) : ∃ (r : List Int) (bx' : List D), ev (runF tb (k+10)) c_law_right_8 [.own true bx, .val (.int m), s2, s3, s4, s5, s6, s7, s8, s9, s10, s11, s12, s13, s14, s15, s16, s17, s18, s19, v, .no, s22, s23, s24, s25, s26] = .ok (.rv (.o (r.map .int))) [.own true bx', .val (.int m), s2, s3, s4, s5, s6, s7, s8, s9, s10, s11, s12, s13, s14, s15, s16, s17, s18, s19, v, .no, s22, s23, s24, s25, s26] ∧ (r.length = m ∧ ∀ x ∈ r, 0 ≤ x ∧ x ≤ 1000) ∧ Box (n + 5) bx' := by
  obtain ⟨ds, bx', h1, h2, h3, h4⟩ := comp_rel (enc := fun i : Nat => PyData.int (0 + (i : Nat))) (F := fun b => [.own true b, .val (.int m), s2, s3, s4, s5, s6, s7, s8, s9, s10, s11, s12, s13, s14, s15, s16, s17, s18, s19, v, .no, s22, s23, s24, s25, s26]) (P := fun d => ∃ x, d = .int x ∧ 0 ≤ x ∧ x ≤ 1000) (I := fun i b => Box (n + i) b) (cf := runF tb (k+10)) (elt := .call "_law_take" [true, false] (.cons (.var 0) (.cons (.const (.int 1001)) .nil))) (tg := .tN 21) (src := .sR1 (.var 1)) (own := [21]) (e := [.own true bx, .val (.int m), s2, s3, s4, s5, s6, s7, s8, s9, s10, s11, s12, s13, s14, s15, s16, s17, s18, s19, v, .no, s22, s23, s24, s25, s26]) (b0 := bx) (List.range m)
    (sR1_ok rfl (by omega)) rfl (by rw [List.length_range]; unfold LINE; omega) (fun _ _ j hj => by rw [List.mem_singleton.mp hj]; rfl) (fun _ _ => rfl) hb fun i b x hx hi hI => by
      rw [List.length_range] at hi
      obtain ⟨r, b', q1, q2, q3, q4⟩ := s_take (k+9) hI (by omega) (z := 1001) (by omega) (by omega)
      exact ⟨.int r, b', [.own true b, .val (.int m), s2, s3, s4, s5, s6, s7, s8, s9, s10, s11, s12, s13, s14, s15, s16, s17, s18, s19, v, .val (.int (0 + (x : Nat))), s22, s23, s24, s25, s26], [.own true b', .val (.int m), s2, s3, s4, s5, s6, s7, s8, s9, s10, s11, s12, s13, s14, s15, s16, s17, s18, s19, v, .val (.int (0 + (x : Nat))), s22, s23, s24, s25, s26], [.own true b', .val (.int m), s2, s3, s4, s5, s6, s7, s8, s9, s10, s11, s12, s13, s14, s15, s16, s17, s18, s19, v, .val (.int (0 + (x : Nat))), s22, s23, s24, s25, s26], .v (.int r), rfl, call_io rfl (V_c _) q1, rfl, rfl, ⟨r, rfl, q2, by omega⟩, q4⟩
  obtain ⟨r, rfl, hr⟩ := ints_ex h3
  rw [List.length_map, List.length_range] at h2
  rw [List.length_range] at h4
  exact ⟨r, bx', h1, ⟨h2, hr⟩, box_mono h4 (by omega)⟩
theorem d_rows9 {n : Nat} (hb : Box n bx) (hn : n + 36 < 2 ^ 30) (hm : m ≤ 5) : ∃ (rs : List (List Int)) (bx' : List D), ev (runF tb (k+10)) c_law_right_9 [.own true bx, .val (.int m), s2, s3, s4, s5, s6, s7, s8, s9, s10, s11, s12, s13, s14, s15, s16, s17, s18, s19, .no, .no, s22, s23, s24, s25, s26] = .ok (.rv (.o (rs.map rowD))) [.own true bx', .val (.int m), s2, s3, s4, s5, s6, s7, s8, s9, s10, s11, s12, s13, s14, s15, s16, s17, s18, s19, .no, .no, s22, s23, s24, s25, s26] ∧ (2 ≤ rs.length ∧ rs.length ≤ 6) ∧ (∀ r ∈ rs, r.length = m ∧ ∀ x ∈ r, 0 ≤ x ∧ x ≤ 1000) ∧ Box (n + 36) bx' := by
  obtain ⟨t, b1, p1, p2, p3, p4⟩ := s_take (k+9) hb (by omega) (z := 5) (by omega) (by omega)
  obtain ⟨t, rfl⟩ := Int.eq_ofNat_of_zero_le p2
  have hs : ev (runF tb (k+10)) (.sR1 (.bin .Add (.const (.int 2)) (.call "_law_take" [true, false] (.cons (.var 0) (.cons (.const (.int 5)) .nil))))) [.own true bx, .val (.int m), s2, s3, s4, s5, s6, s7, s8, s9, s10, s11, s12, s13, s14, s15, s16, s17, s18, s19, .no, .no, s22, s23, s24, s25, s26] = .ok (.ds ((List.range (2 + t)).map fun i : Nat => PyData.int (0 + (i : Nat)))) [.own true b1, .val (.int m), s2, s3, s4, s5, s6, s7, s8, s9, s10, s11, s12, s13, s14, s15, s16, s17, s18, s19, .no, .no, s22, s23, s24, s25, s26] :=
    sR1_e (bin_e (V_c _) (call_io rfl (V_c _) p1) (by rw [b_add, show (2 : Int) + (t : Nat) = ((2 + t : Nat) : Int) by omega])) (by omega)
  obtain ⟨ds, bx', h1, h2, h3, h4⟩ := comp_rel (enc := fun i : Nat => PyData.int (0 + (i : Nat))) (F := fun b => [.own true b, .val (.int m), s2, s3, s4, s5, s6, s7, s8, s9, s10, s11, s12, s13, s14, s15, s16, s17, s18, s19, .no, .no, s22, s23, s24, s25, s26]) (P := fun d => ∃ r, d = rowD r ∧ (r.length = m ∧ ∀ x ∈ r, 0 ≤ x ∧ x ≤ 1000)) (I := fun i b => Box (n + 1 + 5 * i) b) (cf := runF tb (k+10)) (elt := .prim .tuple (.cons c_law_right_8 .nil)) (tg := .tN 20) (own := [20]) (b0 := b1) (List.range (2 + t))
    hs rfl (by rw [List.length_range]; unfold LINE; omega) (fun _ _ j hj => by rw [List.mem_singleton.mp hj]; rfl) (fun _ _ => rfl) p4 fun i b x hx hi hI => by
      rw [List.length_range] at hi
      obtain ⟨r, b', q1, q2, q3⟩ := d_row8 k (m := m) hI (by omega) hm (.val (.int (0 + (x : Nat))))
      exact ⟨rowD r, b', [.own true b, .val (.int m), s2, s3, s4, s5, s6, s7, s8, s9, s10, s11, s12, s13, s14, s15, s16, s17, s18, s19, .val (.int (0 + (x : Nat))), .no, s22, s23, s24, s25, s26], [.own true b', .val (.int m), s2, s3, s4, s5, s6, s7, s8, s9, s10, s11, s12, s13, s14, s15, s16, s17, s18, s19, .val (.int (0 + (x : Nat))), .no, s22, s23, s24, s25, s26], [.own true b', .val (.int m), s2, s3, s4, s5, s6, s7, s8, s9, s10, s11, s12, s13, s14, s15, s16, s17, s18, s19, .val (.int (0 + (x : Nat))), .no, s22, s23, s24, s25, s26], .v (rowD r), rfl, tup1 q1, rfl, rfl, ⟨r, rfl, q2⟩, by rw [show n + 1 + 5 * (i + 1) = n + 1 + 5 * i + 5 by omega]; exact q3⟩
  obtain ⟨rs, rfl, hr⟩ := rows_ex h3
  rw [List.length_map, List.length_range] at h2
  rw [List.length_range] at h4
  exact ⟨rs, bx', h1, by omega, hr, box_mono h4 (by omega)⟩
theorem w14 {n : Nat} (hb : Box n bx) (hn : n + 36 < 2 ^ 30) (hm : m ≤ 5) (hm1 : 1 ≤ m) (h9 : storable (some s9) = true) : ∃ (rs : List (List Int)) (bx' : List D), ev (runF tb (k+10)) s_law_right_14 [.own true bx, .val (.int m), s2, s3, s4, s5, s6, s7, s8, s9, s10, s11, s12, s13, s14, s15, s16, s17, s18, s19, .no, .no, s22, s23, s24, s25, s26] = .ok (.fl .nx) [.own true bx', .val (.int m), s2, s3, s4, s5, s6, s7, s8, .val (.tuple (rs.map rowD)), s10, s11, s12, s13, s14, s15, s16, s17, s18, s19, .no, .no, s22, s23, s24, s25, s26] ∧ Set40 rs m ∧ Box (n + 36) bx' := by
  obtain ⟨rs, bx', h1, h2, h3, h4⟩ := d_rows9 k (s2 := s2) (s3 := s3) (s4 := s4) (s5 := s5) (s6 := s6) (s7 := s7) (s8 := s8) (s9 := s9) (s10 := s10) (s11 := s11) (s12 := s12) (s13 := s13) (s14 := s14) (s15 := s15) (s16 := s16) (s17 := s17) (s18 := s18) (s19 := s19) (s22 := s22) (s23 := s23) (s24 := s24) (s25 := s25) (s26 := s26) hb hn hm
  have ev1 : evenRows rs = true := by
    cases rs with
    | nil => rfl
    | cons r t =>
      simp only [evenRows, Bool.and_eq_true, decide_eq_true_eq, List.all_eq_true]
      exact ⟨by rw [(h3 r List.mem_cons_self).1]; exact hm1, fun q hq => ⟨by rw [(h3 q hq).1, (h3 r List.mem_cons_self).1], fun x hx => ((h3 q hq).2 x hx).1⟩⟩
  have e1 : sortSetD (.list (rs.map rowD)) = some ((sortU rs).map rowD) := by
    show (rowsI (rs.map rowD)).bind _ = _
    rw [rowsI_map]
    show (if _ then _ else none) = _
    rw [if_pos ⟨by omega, ev1⟩]
  obtain ⟨su, mem⟩ := sortU_ok (rs := rs) (d := m) fun r hr => (h3 r hr).1
  have sl := sortU_len rs
  refine ⟨sortU rs, bx', asg_v (tup1 (sort_e h1 e1)) h9, ⟨by omega, ?_, fun r hr => ?_, fun r hr => (h3 r ((mem r).mp hr)).1, su⟩, h4⟩
  · match rs, h2, mem with
    | x :: _, _, mem => exact List.length_pos_iff.mpr (List.ne_nil_of_mem ((mem x).mpr List.mem_cons_self))
  · obtain ⟨q1, q2⟩ := h3 r ((mem r).mp hr)
    exact ⟨by omega, by omega, List.all_eq_true.mpr fun x hx => by have := q2 x hx; simp; omega⟩
abbrev Wt (ws : List Int) : Prop := ∀ w ∈ ws, 0 ≤ w ∧ w ≤ 1000000000000
theorem w15 {n : Nat} {rs : List (List Int)} (hb : Box n bx) (hn : n + 80 < 2 ^ 30) (hr : rs.length ≤ 40) (h10 : storable (some s10) = true) : ∃ (ws : List Int) (bx' : List D), ev (runF tb (k+10)) s_law_right_15 [.own true bx, s1, s2, s3, s4, s5, s6, s7, s8, .val (.tuple (rs.map rowD)), s10, s11, s12, s13, s14, s15, .no, s17, s18, s19, s20, s21, s22, s23, s24, s25, s26] = .ok (.fl .nx) [.own true bx', s1, s2, s3, s4, s5, s6, s7, s8, .val (.tuple (rs.map rowD)), .val (rowD ws), s11, s12, s13, s14, s15, .no, s17, s18, s19, s20, s21, s22, s23, s24, s25, s26] ∧ (ws.length = rs.length ∧ Wt ws) ∧ Box (n + 80) bx' := by
  obtain ⟨ds, bx', h1, h2, h3, h4⟩ := comp_rel (enc := rowD) (F := fun b => [.own true b, s1, s2, s3, s4, s5, s6, s7, s8, .val (.tuple (rs.map rowD)), s10, s11, s12, s13, s14, s15, .no, s17, s18, s19, s20, s21, s22, s23, s24, s25, s26]) (P := fun d => ∃ x, d = .int x ∧ 0 ≤ x ∧ x ≤ 1000000000000) (I := fun i b => Box (n + 2 * i) b) (cf := runF tb (k+10)) (elt := .call "_law_of" [true, false] (.cons (.var 0) (.cons (.lst (.cons (.const (.int 0)) (.cons (.const (.int 1)) (.cons (.bin .Pow (.const (.int 10)) (.const (.int 12))) (.cons (.bin .Sub (.bin .Pow (.const (.int 10)) (.const (.int 12))) (.const (.int 1))) (.cons (.call "_law_take" [true, false] (.cons (.var 0) (.cons (.bin .Pow (.const (.int 10)) (.const (.int 12))) .nil))) .nil)))))) .nil))) (tg := .tN 16) (src := .sSeq (.var 9)) (own := [16]) (e := [.own true bx, s1, s2, s3, s4, s5, s6, s7, s8, .val (.tuple (rs.map rowD)), s10, s11, s12, s13, s14, s15, .no, s17, s18, s19, s20, s21, s22, s23, s24, s25, s26]) (b0 := bx) rs
    rfl rfl (by unfold LINE; omega) (fun _ _ j hj => by rw [List.mem_singleton.mp hj]; rfl) (fun _ _ => rfl) hb fun i b x hx hi hI => by
      obtain ⟨r, b1, q1, q2, q3, q4⟩ := s_take (k+9) hI (by omega) (z := 1000000000000) (by omega) (by omega)
      obtain ⟨y, b2, g1, g2, g3⟩ := s_of (k+8) q4 (by omega) (ns := [0, 1, 1000000000000, 1000000000000 - 1, r]) (by simp) (by simp)
      have hy : 0 ≤ y ∧ y ≤ 1000000000000 := by
        simp only [List.mem_cons, List.not_mem_nil, or_false] at g2
        omega
      have tk : ev (runF tb (k+10)) (.call "_law_take" [true, false] (.cons (.var 0) (.cons (.bin .Pow (.const (.int 10)) (.const (.int 12))) .nil))) [.own true b, s1, s2, s3, s4, s5, s6, s7, s8, .val (.tuple (rs.map rowD)), s10, s11, s12, s13, s14, s15, .val (rowD x), s17, s18, s19, s20, s21, s22, s23, s24, s25, s26] = .ok (.rv (.v (.int r))) [.own true b1, s1, s2, s3, s4, s5, s6, s7, s8, .val (.tuple (rs.map rowD)), s10, s11, s12, s13, s14, s15, .val (rowD x), s17, s18, s19, s20, s21, s22, s23, s24, s25, s26] := call_io rfl (V_bin (V_c _) (V_c _) b_pow12) q1
      exact ⟨.int y, b2, [.own true b, s1, s2, s3, s4, s5, s6, s7, s8, .val (.tuple (rs.map rowD)), s10, s11, s12, s13, s14, s15, .val (rowD x), s17, s18, s19, s20, s21, s22, s23, s24, s25, s26], [.own true b2, s1, s2, s3, s4, s5, s6, s7, s8, .val (.tuple (rs.map rowD)), s10, s11, s12, s13, s14, s15, .val (rowD x), s17, s18, s19, s20, s21, s22, s23, s24, s25, s26], [.own true b2, s1, s2, s3, s4, s5, s6, s7, s8, .val (.tuple (rs.map rowD)), s10, s11, s12, s13, s14, s15, .val (rowD x), s17, s18, s19, s20, s21, s22, s23, s24, s25, s26], .v (.int y), rfl, of_call (i := 0) (io := true) (b1 := b1) rfl (lst5 tk) rfl g1, rfl, rfl, ⟨y, rfl, hy⟩, by rw [show n + 2 * (i + 1) = n + 2 * i + 1 + 1 by omega]; exact g3⟩
  obtain ⟨ws, rfl, hw⟩ := ints_ex h3
  rw [List.length_map] at h2
  exact ⟨ws, bx', asg_v (tup1 h1) h10, ⟨h2, hw⟩, box_mono h4 (by omega)⟩
theorem w16 {ws : List Int} (h1 : 1 ≤ ws.length) (hl : ws.length ≤ 40) (hw : Wt ws) : ∃ ws' : List Int, ev (runF tb (k+10)) s_law_right_16 [s0, s1, s2, s3, s4, s5, s6, s7, s8, s9, .val (rowD ws), s11, s12, s13, s14, s15, s16, s17, s18, s19, s20, s21, s22, s23, s24, s25, s26] = .ok (.fl .nx) [s0, s1, s2, s3, s4, s5, s6, s7, s8, s9, .val (rowD ws'), s11, s12, s13, s14, s15, s16, s17, s18, s19, s20, s21, s22, s23, s24, s25, s26] ∧ ws'.length = ws.length ∧ Wt ws' ∧ 0 < ws'.sum := by
  have hc : V (runF tb (k+10)) [s0, s1, s2, s3, s4, s5, s6, s7, s8, s9, .val (rowD ws), s11, s12, s13, s14, s15, s16, s17, s18, s19, s20, s21, s22, s23, s24, s25, s26] (.cmp .Eq (.prim .sum (.cons (.var 10) .nil)) (.const (.int 0))) (.bool (decide (ws.sum = 0))) := V_cmp (V_prim (Vs_cons (V_var rfl) Vs_nil) (p_sum_r _)) (V_c _) (c_eq _ _)
  by_cases q : ws.sum = 0
  · rw [decide_eq_true q] at hc
    have e : ([PyData.int 1000000000000] ++ (ws.map PyData.int).drop 1) = (1000000000000 :: ws.drop 1).map .int := by rw [← List.map_drop]; rfl
    refine ⟨1000000000000 :: ws.drop 1, if_r hc (fun _ => seq_nx (asg_v (d := rowD (1000000000000 :: ws.drop 1)) (V_bin (V_tup (Vs_cons (V_bin (V_c _) (V_c _) b_pow12) Vs_nil) one_line) (V_sl1 (xs := ws.map .int) rfl (by rw [List.length_map]; exact h1)) ?_) rfl) rfl) (fun z => nomatch z), ?_, fun w hw' => ?_, ?_⟩
    · rw [b_addt, if_pos (by rw [List.length_drop, List.length_map]; unfold LINE; simp; omega), e]
      rfl
    · rw [List.length_cons, List.length_drop]; omega
    · rcases List.mem_cons.mp hw' with rfl | hw'
      · omega
      · exact hw w (List.mem_of_mem_drop hw')
    · have := sum_nn (ws.drop 1) fun w hw' => (hw w (List.mem_of_mem_drop hw')).1
      rw [List.sum_cons]
      omega
  · rw [decide_eq_false q] at hc
    have := sum_nn ws fun w hw' => (hw w hw').1
    exact ⟨ws, if_r hc (fun z => nomatch z) (fun _ => rfl), rfl, hw, by omega⟩
end
end L2.Mp
set_option Elab.async false
set_option linter.all false
set_option maxRecDepth 100000
set_option maxHeartbeats 0
namespace L2.Mp
open PySem PySem.Spec PyProof.Rows L2
/-! ### MIXTURES, entry by entry -/
abbrev wholeR (rs : List (List Int)) (ws : List Int) (m : Nat) : List Int := (List.range m).map fun i => ((ws.zip rs).map fun p => p.1 * p.2.getD i 0).sum
theorem zip_getD : ∀ (acc r : List Int) (w : Int) (i : Nat), acc.length = r.length → i < acc.length → ((acc.zip r).map fun p => p.1 + w * p.2).getD i 0 = acc.getD i 0 + w * r.getD i 0
  | [], _, _, _, _, h => absurd h (Nat.not_lt_zero _)
  | _ :: _, [], _, _, h, _ => nomatch h
  | x :: acc, y :: r, w, 0, _, _ => rfl
  | x :: acc, y :: r, w, i + 1, h, h' => zip_getD acc r w i (Nat.succ.inj h) (Nat.lt_of_succ_lt_succ h')
theorem range_getD (acc : List Int) : (List.range acc.length).map (fun i => acc.getD i 0) = acc := by
  refine List.ext_getElem (by simp) fun i h1 h2 => ?_
  rw [List.getElem_map, List.getElem_range, List.getD_eq_getElem?_getD, List.getElem?_eq_getElem h2]
  rfl
theorem mix_go {m : Nat} : ∀ (qs : List (List Int × Int)) (acc : List Int), acc.length = m → (∀ q ∈ qs, q.1.length = m) → qs.foldl mixF acc = (List.range m).map fun i => acc.getD i 0 + (qs.map fun q => q.2 * q.1.getD i 0).sum
  | [], acc, h, _ => by
    subst h
    simp only [List.foldl_nil, List.map_nil, List.sum_nil, Int.add_zero]
    exact (range_getD acc).symm
  | q :: qs, acc, h, hq => by
    have h1 := hq q List.mem_cons_self
    rw [List.foldl_cons, mix_go qs (mixF acc q) (mixF_len h h1) fun x hx => hq x (List.mem_cons_of_mem _ hx)]
    refine List.map_congr_left fun i hi => ?_
    have hi : i < m := List.mem_range.mp hi
    rw [List.map_cons, List.sum_cons, ← Int.add_assoc]
    congr 1
    exact zip_getD acc q.1 q.2 i (by omega) (by omega)
theorem zip_turn (f : List Int → Int → Int) : ∀ (rs : List (List Int)) (ws : List Int), ((rs.zip ws).map fun q => f q.1 q.2) = (ws.zip rs).map fun p => f p.2 p.1
  | [], ws => by cases ws <;> rfl
  | _ :: _, [] => rfl
  | r :: rs, w :: ws => by
    exact congrArg (f r w :: ·) (zip_turn f rs ws)
theorem mixed_whole {rs : List (List Int)} {ws : List Int} {m : Nat} (h : ∀ r ∈ rs, r.length = m) : wholeR rs ws m = mixed rs ws m := by
  show _ = (rs.zip ws).foldl mixF (List.replicate m 0)
  rw [mix_go _ _ (List.length_replicate ..) fun q hq => h q.1 (List.of_mem_zip hq).1]
  refine List.map_congr_left fun i hi => ?_
  have hi : i < m := List.mem_range.mp hi
  rw [zip_turn (fun r w => w * r.getD i 0) rs ws, List.getD_eq_getElem?_getD, List.getElem?_replicate, if_pos hi]
  simp
abbrev loneR (N n : Nat) : List Int := (List.range N).map fun j => if j = n then 1000000000000 else 0
theorem lone_0 (N : Nat) : loneR (N + 1) 0 = 1000000000000 :: List.replicate N 0 := by
  unfold loneR
  rw [List.range_succ_eq_map, List.map_cons, List.map_map, if_pos rfl]
  congr 1
  refine List.ext_getElem (by simp) fun i h1 h2 => ?_
  simp
theorem lone_s (N n : Nat) : loneR (N + 1) (n + 1) = 0 :: loneR N n := by
  unfold loneR
  rw [List.range_succ_eq_map, List.map_cons, List.map_map, if_neg (by omega)]
  congr 1
  refine List.map_congr_left fun i _ => ?_
  simp
theorem zero_sum : ∀ N : Nat, (List.replicate N (0 : Int)).sum = 0
  | 0 => rfl
  | N + 1 => by rw [List.replicate_succ, List.sum_cons, zero_sum N]; rfl
theorem lone_sum : ∀ (N n : Nat), n < N → (loneR N n).sum = 1000000000000
  | 0, _, h => absurd h (Nat.not_lt_zero _)
  | N + 1, 0, _ => by rw [lone_0, List.sum_cons, zero_sum]; rfl
  | N + 1, n + 1, h => by rw [lone_s, List.sum_cons, lone_sum N n (Nat.lt_of_succ_lt_succ h)]; rfl
theorem zero_dot (i : Nat) : ∀ rs : List (List Int), (((List.replicate rs.length (0 : Int)).zip rs).map fun p => p.1 * p.2.getD i 0).sum = 0
  | [] => rfl
  | r :: rs => by
    have ih := zero_dot i rs
    rw [List.length_cons, List.replicate_succ, List.zip_cons_cons, List.map_cons, List.sum_cons, ih]
    simp
theorem lone_dot (i : Nat) : ∀ (rs : List (List Int)) (n : Nat) (h : n < rs.length), (((loneR rs.length n).zip rs).map fun p => p.1 * p.2.getD i 0).sum = 1000000000000 * rs[n].getD i 0
  | [], _, h => absurd h (Nat.not_lt_zero _)
  | r :: rs, 0, _ => by
    rw [List.length_cons, lone_0, List.zip_cons_cons, List.map_cons, List.sum_cons, zero_dot i rs]
    show _ + 0 = _
    rw [Int.add_zero]
    rfl
  | r :: rs, n + 1, h => by
    have ih := lone_dot i rs n (Nat.lt_of_succ_lt_succ h)
    rw [List.length_cons, lone_s, List.zip_cons_cons, List.map_cons, List.sum_cons, ih]
    show 0 * _ + _ = _
    rw [Int.zero_mul, Int.zero_add]
    rfl
theorem lone_mixed {rs : List (List Int)} {m n : Nat} (h : ∀ r ∈ rs, r.length = m) (hn : n < rs.length) : mixed rs (loneR rs.length n) m = timesR (loneR rs.length n).sum rs[n] := by
  rw [← mixed_whole h, lone_sum _ _ hn]
  have hl : rs[n].length = m := h _ (List.getElem_mem _)
  have e : timesR 1000000000000 rs[n] = (List.range m).map fun i => 1000000000000 * rs[n].getD i 0 := by
    conv => lhs; rw [← range_getD rs[n], hl]
    unfold timesR
    rw [List.map_map]
    rfl
  rw [e]
  exact List.map_congr_left fun i _ => lone_dot i rs n hn
/-! ### the least of some -/
theorem min_go : ∀ (l : List Int) (x : Int), l.foldl min x ≤ x ∧ (∀ y ∈ l, l.foldl min x ≤ y) ∧ (l.foldl min x = x ∨ l.foldl min x ∈ l)
  | [], x => ⟨Int.le_refl _, fun _ h => (nomatch h), .inl rfl⟩
  | y :: l, x => by
    obtain ⟨h1, h2, h3⟩ := min_go l (min x y)
    rw [List.foldl_cons]
    refine ⟨by omega, fun z hz => ?_, ?_⟩
    · rcases List.mem_cons.mp hz with rfl | hz
      · omega
      · exact h2 z hz
    · rcases h3 with h3 | h3
      · rw [h3]
        by_cases q : x ≤ y
        · exact .inl (by omega)
        · exact .inr (by rw [show min x y = y by omega]; exact List.mem_cons_self)
      · exact .inr (List.mem_cons_of_mem _ h3)
theorem minI_le {l : List Int} (h : l ≠ []) : (∀ y ∈ l, minI l ≤ y) ∧ minI l ∈ l := by
  cases l with
  | nil => exact absurd rfl h
  | cons x l =>
    obtain ⟨h1, h2, h3⟩ := min_go l x
    refine ⟨fun y hy => ?_, ?_⟩
    · rcases List.mem_cons.mp hy with rfl | hy
      · exact h1
      · exact h2 y hy
    · rcases h3 with h3 | h3
      · exact List.mem_cons.mpr (.inl h3)
      · exact List.mem_cons_of_mem _ h3
theorem all_min {l : List Int} (h : l ≠ []) (x : Int) (hx : x ∈ l) : (l.all fun y => decide (x ≤ y)) = decide (x = minI l) := by
  obtain ⟨h1, h2⟩ := minI_le h
  by_cases q : x = minI l
  · rw [decide_eq_true q]
    exact List.all_eq_true.mpr fun y hy => decide_eq_true (by rw [q]; exact h1 y hy)
  · rw [decide_eq_false q]
    have := h1 x hx
    exact List.all_eq_false.mpr ⟨minI l, h2, by simp; omega⟩
theorem all_pos {l : List Int} (h : l ≠ []) : (l.all fun y => decide (0 < y)) = decide (minI l > 0) := by
  obtain ⟨h1, h2⟩ := minI_le h
  by_cases q : minI l > 0
  · rw [decide_eq_true q]
    exact List.all_eq_true.mpr fun y hy => decide_eq_true (by have := h1 y hy; omega)
  · rw [decide_eq_false q]
    exact List.all_eq_false.mpr ⟨minI l, h2, by simp; omega⟩
/-! ### the statements -/
theorem at_getD {r : List Int} {i : Nat} (h : i < r.length) : idxD (rowD r) (.int (0 + (i : Nat))) = some (.int (r.getD i 0)) := by
  rw [Int.zero_add, at_row h, List.getD_eq_getElem?_getD, List.getElem?_eq_getElem h]
  rfl
theorem at_get {r : List Int} {i : Nat} (h : i < r.length) : idxD (.list (r.map .int)) (.int (0 + (i : Nat))) = some (.int r[i]) := by
  have := at_row h
  rw [Int.zero_add]
  exact this
theorem two_line' : (2 : Nat) ≤ LINE := by unfold LINE; omega
section
variable (k : Nat) {m : Nat} {bx : List D} {a b c : List Int}
variable {s0 s1 s2 s3 s4 s5 s6 s7 s8 s9 s10 s11 s12 s13 s14 s15 s16 s17 s18 s19 s20 s21 s22 s23 s24 s25 s26 : Slot}
theorem w17 {rs : List (List Int)} {ws : List Int} (hm : m ≤ 5) (hr : ∀ r ∈ rs, r.length = m) (hl : ws.length ≤ 40) (hw : Wt ws) (h11 : storable (some s11) = true) : ev (runF tb (k+10)) s_law_right_17 [s0, .val (.int m), s2, s3, s4, s5, s6, s7, s8, .val (.tuple (rs.map rowD)), .val (rowD ws), s11, s12, s13, s14, s15, .no, s17, s18, s19, s20, .no, s22, s23, s24, .no, s26] = .ok (.fl .nx) [s0, .val (.int m), s2, s3, s4, s5, s6, s7, s8, .val (.tuple (rs.map rowD)), .val (rowD ws), .val (rowD (mixed rs ws m)), s12, s13, s14, s15, .no, s17, s18, s19, s20, .no, s22, s23, s24, .no, s26] := by
  have inner (i : Nat) (hi : i < m) : O (runF tb (k+10)) [s0, .val (.int m), s2, s3, s4, s5, s6, s7, s8, .val (.tuple (rs.map rowD)), .val (rowD ws), s11, s12, s13, s14, s15, .no, s17, s18, s19, s20, .val (.int (0 + (i : Nat))), s22, s23, s24, .no, s26] c_law_right_11 ((ws.zip rs).map fun p => .int (p.1 * p.2.getD i 0)) := by
    refine comp_map (fun p : Int × List Int => .tuple [.int p.1, rowD p.2]) (fun p => .int (p.1 * p.2.getD i 0)) (by rw [← zipF_enc]; rfl) (by rw [List.length_zip]; unfold LINE; omega) rfl fun p hp => ?_
    have h1 := hw p.1 (List.of_mem_zip hp).1
    have h2 := hr p.2 (List.of_mem_zip hp).2
    exact ⟨[s0, .val (.int m), s2, s3, s4, s5, s6, s7, s8, .val (.tuple (rs.map rowD)), .val (rowD ws), s11, s12, s13, s14, s15, .val (rowD p.2), s17, s18, s19, s20, .val (.int (0 + (i : Nat))), s22, s23, s24, .val (.int p.1), s26], .v (.int (p.1 * p.2.getD i 0)), rfl, rfl, V_bin (V_var rfl) (V_idx (V_var rfl) (V_var rfl) (at_getD (by omega))) (by rw [b_mul, if_pos (mul_ok (by omega))]), rfl⟩
  have outer : O (runF tb (k+10)) [s0, .val (.int m), s2, s3, s4, s5, s6, s7, s8, .val (.tuple (rs.map rowD)), .val (rowD ws), s11, s12, s13, s14, s15, .no, s17, s18, s19, s20, .no, s22, s23, s24, .no, s26] c_law_right_12 ((List.range m).map fun i => .int (((ws.zip rs).map fun p => p.1 * p.2.getD i 0).sum)) := by
    refine comp_map (cf := runF tb (k+10)) (src := .sR1 (.var 1)) (own := [21]) (tg := .tN 21) (elt := .prim .sum (.cons c_law_right_11 .nil)) (e1 := [s0, .val (.int m), s2, s3, s4, s5, s6, s7, s8, .val (.tuple (rs.map rowD)), .val (rowD ws), s11, s12, s13, s14, s15, .no, s17, s18, s19, s20, .no, s22, s23, s24, .no, s26]) (fun i : Nat => PyData.int (0 + (i : Nat))) (fun i => .int (((ws.zip rs).map fun p => p.1 * p.2.getD i 0).sum)) (sR1_ok (n := m) (a := .var 1) rfl (by omega)) (by rw [List.length_range]; unfold LINE; omega) rfl fun i hi => ?_
    have hi : i < m := List.mem_range.mp hi
    have q := inner i hi
    have e : ((ws.zip rs).map fun p => PyData.int (p.1 * p.2.getD i 0)) = ((ws.zip rs).map fun p => p.1 * p.2.getD i 0).map .int := by rw [List.map_map]; rfl
    rw [e] at q
    exact ⟨[s0, .val (.int m), s2, s3, s4, s5, s6, s7, s8, .val (.tuple (rs.map rowD)), .val (rowD ws), s11, s12, s13, s14, s15, .no, s17, s18, s19, s20, .val (.int (0 + (i : Nat))), s22, s23, s24, .no, s26], .v _, rfl, rfl, V_prim (Vs_consO q Vs_nil) (p_sum_ok _), rfl⟩
  have e : ((List.range m).map fun i => PyData.int (((ws.zip rs).map fun p => p.1 * p.2.getD i 0).sum)) = (mixed rs ws m).map .int := by
    rw [← mixed_whole hr, List.map_map]
    rfl
  rw [e] at outer
  exact asg_v (V_tupO outer) h11
theorem w18 {rs : List (List Int)} {ws : List Int} (h : Set40 rs m) (hm : m ≤ 5) (hl : ws.length = rs.length) (hw : Wt ws) (hs : 0 < ws.sum) (hx : (mixed rs ws m).length ≤ 1000) : ev (runF tb (k+10)) s_law_right_18 [s0, s1, s2, s3, s4, s5, s6, s7, s8, .val (.tuple (rs.map rowD)), .val (rowD ws), .val (rowD (mixed rs ws m)), s12, s13, s14, s15, s16, s17, s18, s19, s20, s21, s22, s23, s24, s25, s26] = .ok (.fl .nx) [s0, s1, s2, s3, s4, s5, s6, s7, s8, .val (.tuple (rs.map rowD)), .val (rowD ws), .val (rowD (mixed rs ws m)), s12, s13, s14, s15, s16, s17, s18, s19, s20, s21, s22, s23, s24, s25, s26] := by
  have r1 := s_mixed (k+4) h hm hl hw hs
  have ok : okD (.tuple [.int ws.sum, rowD (mixed rs ws m)]) = true := by
    show (decide (2 ≤ 1000) && (true && (okD (rowD (mixed rs ws m)) && true))) = true
    rw [okD_row _ hx]
    rfl
  have hh : hgt (.tuple [.int ws.sum, rowD (mixed rs ws m)]) < k + 10 := by
    have := hgt_row (mixed rs ws m)
    show max 0 (max (hgt (rowD (mixed rs ws m))) 0) + 1 < k + 10
    omega
  exact same_ifV (V_call (Vs_cons (V_var rfl) (Vs_cons (V_var rfl) Vs_nil)) r1) (V_tup (Vs_cons (V_prim (Vs_cons (V_var rfl) Vs_nil) (p_sum_r _)) (Vs_cons (V_var rfl) Vs_nil)) two_line) (s_same _ _ ok hh)
/-! ### the loop -/
theorem w19 {rs : List (List Int)} {ws : List Int} {n : Nat} (hn : n < rs.length) (h16 : storable (some s16) = true) : ev (runF tb (k+10)) s_law_right_19 [s0, s1, s2, s3, s4, s5, s6, s7, s8, .val (.tuple (rs.map rowD)), .val (rowD ws), .val (rowD (mixed rs ws m)), .val (.int (0 + (n : Nat))), s13, s14, .val (rowD c), s16, s17, s18, s19, .no, .no, .no, .no, .no, .no, .no] = .ok (.fl .nx) [s0, s1, s2, s3, s4, s5, s6, s7, s8, .val (.tuple (rs.map rowD)), .val (rowD ws), .val (rowD (mixed rs ws m)), .val (.int (0 + (n : Nat))), s13, s14, .val (rowD c), .val (rowD (rs[n]'hn)), s17, s18, s19, .no, .no, .no, .no, .no, .no, .no] :=
  asg_v (V_idx (V_var rfl) (V_var rfl) (by rw [i_t, Int.zero_add, get_row hn])) h16
abbrev goodB (rs : List (List Int)) (ws : List Int) (m : Nat) (r : List Int) : Bool := atMost (mixed rs ws m) (timesR ws.sum r) && !decide (mixed rs ws m = timesR ws.sum r)
abbrev gtS (S : Int) (q : Int × Int) : Option D := if q.1 > q.2 * S then some (.int 1) else none
theorem gtS_nil (S : Int) : ∀ (x r : List Int), ((x.zip r).filterMap (gtS S)).isEmpty = atMost x (timesR S r)
  | [], _ => rfl
  | _ :: _, [] => rfl
  | x :: xs, y :: r => by
    show (((x, y) :: xs.zip r).filterMap (gtS S)).isEmpty = (decide (x ≤ S * y) && atMost xs (timesR S r))
    by_cases h : x > y * S
    · rw [List.filterMap_cons_some (f := gtS S) (a := (x, y)) (b := PyData.int 1) (if_pos h), decide_eq_false (by rw [Int.mul_comm]; omega)]; rfl
    · rw [List.filterMap_cons_none (f := gtS S) (a := (x, y)) (if_neg h), decide_eq_true (by rw [Int.mul_comm]; omega), gtS_nil S xs r]; rfl
theorem w20 {rs : List (List Int)} {ws : List Int} {n : Nat} (hn : n < rs.length) (hr : Ent rs[n]) (hx : (mixed rs ws m).length ≤ 1000) (h17 : storable (some s17) = true) : ev (runF tb (k+10)) s_law_right_20 [s0, s1, s2, s3, s4, s5, s6, s7, s8, .val (.tuple (rs.map rowD)), .val (rowD ws), .val (rowD (mixed rs ws m)), .val (.int (0 + (n : Nat))), s13, s14, .val (rowD c), .val (rowD (rs[n]'hn)), s17, s18, s19, .no, .no, .no, .no, .no, .no, .no] = .ok (.fl .nx) [s0, s1, s2, s3, s4, s5, s6, s7, s8, .val (.tuple (rs.map rowD)), .val (rowD ws), .val (rowD (mixed rs ws m)), .val (.int (0 + (n : Nat))), s13, s14, .val (rowD c), .val (rowD (rs[n]'hn)), .val (.bool (goodB rs ws m (rs[n]'hn))), s18, s19, .no, .no, .no, .no, .no, .no, .no] := by
  have e63 := ent_63 hr
  have h1 : O (runF tb (k+10)) [s0, s1, s2, s3, s4, s5, s6, s7, s8, .val (.tuple (rs.map rowD)), .val (rowD ws), .val (rowD (mixed rs ws m)), .val (.int (0 + (n : Nat))), s13, s14, .val (rowD c), .val (rowD (rs[n]'hn)), s17, s18, s19, .no, .no, .no, .no, .no, .no, .no] c_law_right_13 (((mixed rs ws m).zip (rs[n]'hn)).filterMap (gtS ws.sum)) := zipf_ok (a := mixed rs ws m) (b := rs[n]) (gtS ws.sum) rfl rfl hx rfl fun x hx => ⟨[s0, s1, s2, s3, s4, s5, s6, s7, s8, .val (.tuple (rs.map rowD)), .val (rowD ws), .val (rowD (mixed rs ws m)), .val (.int (0 + (n : Nat))), s13, s14, .val (rowD c), .val (rowD (rs[n]'hn)), s17, s18, s19, .no, .no, .no, .val (.int x.1), .val (.int x.2), .no, .no], rfl, rfl, by
    have cnd : V (runF tb (k+10)) [s0, s1, s2, s3, s4, s5, s6, s7, s8, .val (.tuple (rs.map rowD)), .val (rowD ws), .val (rowD (mixed rs ws m)), .val (.int (0 + (n : Nat))), s13, s14, .val (rowD c), .val (rowD (rs[n]'hn)), s17, s18, s19, .no, .no, .no, .val (.int x.1), .val (.int x.2), .no, .no] (.cmp .Gt (.var 23) (.bin .Mult (.var 24) (.prim .sum (.cons (.var 10) .nil)))) (.bool (decide (x.1 > x.2 * ws.sum))) := V_cmp (V_var rfl) (V_bin (V_var rfl) (V_prim (Vs_cons (V_var rfl) Vs_nil) (p_sum_r _)) (by rw [b_mul, if_pos (mul_ok (e63 _ (List.of_mem_zip hx).2))])) rfl
    by_cases h : x.1 > x.2 * ws.sum
    · rw [decide_eq_true h] at cnd
      exact .inr ⟨.int 1, .v (.int 1), if_pos h, evC_V cnd, rfl, rfl⟩
    · rw [decide_eq_false h] at cnd
      exact .inl ⟨if_neg h, evC_V cnd⟩⟩
  have h2 : O (runF tb (k+10)) [s0, s1, s2, s3, s4, s5, s6, s7, s8, .val (.tuple (rs.map rowD)), .val (rowD ws), .val (rowD (mixed rs ws m)), .val (.int (0 + (n : Nat))), s13, s14, .val (rowD c), .val (rowD (rs[n]'hn)), s17, s18, s19, .no, .no, .no, .no, .no, .no, .no] c_law_right_14 ((rs[n]'hn).map fun x => .int (x * ws.sum)) := comp_map .int (fun x => .int (x * ws.sum)) rfl (by have := hr.2.1; unfold LINE; omega) rfl fun x hx => ⟨[s0, s1, s2, s3, s4, s5, s6, s7, s8, .val (.tuple (rs.map rowD)), .val (rowD ws), .val (rowD (mixed rs ws m)), .val (.int (0 + (n : Nat))), s13, s14, .val (rowD c), .val (rowD (rs[n]'hn)), s17, s18, s19, .no, .no, .no, .no, .no, .no, .val (.int x)], .v (.int (x * ws.sum)), rfl, rfl, V_bin (V_var rfl) (V_prim (Vs_cons (V_var rfl) Vs_nil) (p_sum_r _)) (by rw [b_mul, if_pos (mul_ok (e63 x hx))]), rfl⟩
  have e : ((rs[n]'hn).map fun x => PyData.int (x * ws.sum)) = (timesR ws.sum rs[n]).map .int := by
    unfold timesR
    rw [List.map_map]
    exact List.map_congr_left fun x _ => by show PyData.int _ = PyData.int _; rw [Int.mul_comm]
  rw [e] at h2
  refine asg_v (V_and (V_cmpO (t := atMost (mixed rs ws m) (timesR ws.sum rs[n])) h1 (O_lst (ds := []) Vs_nil (Nat.zero_le _)) ?_) fun _ => V_one (V_cmp (V_var rfl) (V_tupO h2) (ne_row _ _))) h17
  rw [eq_nil, gtS_nil]
theorem w21 {rs : List (List Int)} {ws : List Int} {n : Nat} (hn : n < rs.length) (hl : rs.length ≤ 40) (h18 : storable (some s18) = true) : ev (runF tb (k+10)) s_law_right_21 [s0, s1, s2, s3, s4, s5, s6, s7, s8, .val (.tuple (rs.map rowD)), .val (rowD ws), .val (rowD (mixed rs ws m)), .val (.int (0 + (n : Nat))), s13, s14, .val (rowD c), .val (rowD (rs[n]'hn)), .val (.bool (goodB rs ws m (rs[n]'hn))), s18, s19, .no, .no, .no, .no, .no, .no, .no] = .ok (.fl .nx) [s0, s1, s2, s3, s4, s5, s6, s7, s8, .val (.tuple (rs.map rowD)), .val (rowD ws), .val (rowD (mixed rs ws m)), .val (.int (0 + (n : Nat))), s13, s14, .val (rowD c), .val (rowD (rs[n]'hn)), .val (.bool (goodB rs ws m (rs[n]'hn))), .val (rowD (loneR rs.length n)), s19, .no, .no, .no, .no, .no, .no, .no] := by
  have h1 : O (runF tb (k+10)) [s0, s1, s2, s3, s4, s5, s6, s7, s8, .val (.tuple (rs.map rowD)), .val (rowD ws), .val (rowD (mixed rs ws m)), .val (.int (0 + (n : Nat))), s13, s14, .val (rowD c), .val (rowD (rs[n]'hn)), .val (.bool (goodB rs ws m (rs[n]'hn))), s18, s19, .no, .no, .no, .no, .no, .no, .no] c_law_right_15 ((List.range rs.length).map fun j => .int (if j = n then 1000000000000 else 0)) := by
    refine comp_map (fun i : Nat => PyData.int (0 + (i : Nat))) (fun j => .int (if j = n then 1000000000000 else 0)) (sR1_ok (V_prim (Vs_cons (V_var rfl) Vs_nil) (by rw [p_len_t, List.length_map])) (by omega)) (by rw [List.length_range]; unfold LINE; omega) rfl fun j hj => ?_
    have cnd : V (runF tb (k+10)) [s0, s1, s2, s3, s4, s5, s6, s7, s8, .val (.tuple (rs.map rowD)), .val (rowD ws), .val (rowD (mixed rs ws m)), .val (.int (0 + (n : Nat))), s13, s14, .val (rowD c), .val (rowD (rs[n]'hn)), .val (.bool (goodB rs ws m (rs[n]'hn))), s18, s19, .no, .val (.int (0 + (j : Nat))), .no, .no, .no, .no, .no] (.cmp .Eq (.var 21) (.var 12)) (.bool (decide (j = n))) := V_cmp (V_var rfl) (V_var rfl) (by rw [c_eq]; exact congrArg some (decide_eq_decide.mpr (by omega)))
    exact ⟨[s0, s1, s2, s3, s4, s5, s6, s7, s8, .val (.tuple (rs.map rowD)), .val (rowD ws), .val (rowD (mixed rs ws m)), .val (.int (0 + (n : Nat))), s13, s14, .val (rowD c), .val (rowD (rs[n]'hn)), .val (.bool (goodB rs ws m (rs[n]'hn))), s18, s19, .no, .val (.int (0 + (j : Nat))), .no, .no, .no, .no, .no], .v (.int (if j = n then 1000000000000 else 0)), rfl, rfl, ite_r (x := decide (j = n)) cnd (fun h => by rw [if_pos (of_decide_eq_true h)]; exact V_bin (V_c _) (V_c _) b_pow12) (fun h => by rw [if_neg (of_decide_eq_false h)]; exact V_c _), rfl⟩
  have e : ((List.range rs.length).map fun j => PyData.int (if j = n then 1000000000000 else 0)) = (loneR rs.length n).map .int := by rw [List.map_map]; rfl
  rw [e] at h1
  exact asg_v (V_tupO h1) h18
theorem w22 {rs : List (List Int)} {ws : List Int} {n : Nat} (hn : n < rs.length) (hl : rs.length ≤ 40) (hc : Lo m c) (hm : m ≤ 5) (h19 : storable (some s19) = true) : ev (runF tb (k+10)) s_law_right_22 [s0, s1, s2, s3, s4, s5, s6, s7, s8, .val (.tuple (rs.map rowD)), .val (rowD ws), .val (rowD (mixed rs ws m)), .val (.int (0 + (n : Nat))), s13, s14, .val (rowD c), .val (rowD (rs[n]'hn)), .val (.bool (goodB rs ws m (rs[n]'hn))), .val (rowD (loneR rs.length n)), s19, .no, .no, .no, .no, .no, .no, .no] = .ok (.fl .nx) [s0, s1, s2, s3, s4, s5, s6, s7, s8, .val (.tuple (rs.map rowD)), .val (rowD ws), .val (rowD (mixed rs ws m)), .val (.int (0 + (n : Nat))), s13, s14, .val (rowD c), .val (rowD (rs[n]'hn)), .val (.bool (goodB rs ws m (rs[n]'hn))), .val (rowD (loneR rs.length n)), .own false ((rs.map (dot c)).map .int), .no, .no, .no, .no, .no, .no, .no] := by
  have inner (r : List Int) : O (runF tb (k+10)) [s0, s1, s2, s3, s4, s5, s6, s7, s8, .val (.tuple (rs.map rowD)), .val (rowD ws), .val (rowD (mixed rs ws m)), .val (.int (0 + (n : Nat))), s13, s14, .val (rowD c), .val (rowD (rs[n]'hn)), .val (.bool (goodB rs ws m (rs[n]'hn))), .val (rowD (loneR rs.length n)), s19, .no, .no, .val (rowD r), .no, .no, .no, .no] c_law_right_16 ((c.zip r).map fun q => .int (q.1 * q.2)) := zip_ok (a := c) (b := r) (fun q => .int (q.1 * q.2)) rfl rfl (by have := hc.1; omega) rfl fun x hx => ⟨[s0, s1, s2, s3, s4, s5, s6, s7, s8, .val (.tuple (rs.map rowD)), .val (rowD ws), .val (rowD (mixed rs ws m)), .val (.int (0 + (n : Nat))), s13, s14, .val (rowD c), .val (rowD (rs[n]'hn)), .val (.bool (goodB rs ws m (rs[n]'hn))), .val (rowD (loneR rs.length n)), s19, .no, .no, .val (rowD r), .val (.int x.1), .val (.int x.2), .no, .no], rfl, rfl, V_bin (V_var rfl) (V_var rfl) (b_mul_ok (hc.2 _ (List.of_mem_zip hx).1))⟩
  have h1 : O (runF tb (k+10)) [s0, s1, s2, s3, s4, s5, s6, s7, s8, .val (.tuple (rs.map rowD)), .val (rowD ws), .val (rowD (mixed rs ws m)), .val (.int (0 + (n : Nat))), s13, s14, .val (rowD c), .val (rowD (rs[n]'hn)), .val (.bool (goodB rs ws m (rs[n]'hn))), .val (rowD (loneR rs.length n)), s19, .no, .no, .no, .no, .no, .no, .no] c_law_right_17 (rs.map fun r => .int (dot c r)) := comp_map rowD (fun r => .int (dot c r)) rfl (by unfold LINE; omega) rfl fun r hr => by
    have q := inner r
    have e : ((c.zip r).map fun q => PyData.int (q.1 * q.2)) = ((c.zip r).map fun q => q.1 * q.2).map .int := by rw [List.map_map]; rfl
    rw [e] at q
    exact ⟨[s0, s1, s2, s3, s4, s5, s6, s7, s8, .val (.tuple (rs.map rowD)), .val (rowD ws), .val (rowD (mixed rs ws m)), .val (.int (0 + (n : Nat))), s13, s14, .val (rowD c), .val (rowD (rs[n]'hn)), .val (.bool (goodB rs ws m (rs[n]'hn))), .val (rowD (loneR rs.length n)), s19, .no, .no, .val (rowD r), .no, .no, .no, .no], .v (.int (dot c r)), rfl, rfl, V_prim (Vs_consO q Vs_nil) (p_sum_ok _), rfl⟩
  have e : (rs.map fun r => PyData.int (dot c r)) = (rs.map (dot c)).map .int := by rw [List.map_map]; rfl
  rw [e] at h1
  exact asg_l h1 h19
theorem w23 {rs : List (List Int)} {ws : List Int} {n : Nat} (hn : n < rs.length) (h : Set40 rs m) (hl : ws.length = rs.length) (hw : Wt ws) (hs : 0 < ws.sum) (hc : Lo m c) (hm : m ≤ 5) (hm1 : 1 ≤ m) (h3 : storable (some s3) = true) : ev (runF tb (k+10)) s_law_right_23 [s0, s1, s2, s3, s4, s5, s6, s7, s8, .val (.tuple (rs.map rowD)), .val (rowD ws), .val (rowD (mixed rs ws m)), .val (.int (0 + (n : Nat))), s13, s14, .val (rowD c), .val (rowD (rs[n]'hn)), .val (.bool (goodB rs ws m (rs[n]'hn))), .val (rowD (loneR rs.length n)), .own false ((rs.map (dot c)).map .int), .no, .no, .no, .no, .no, .no, .no] = .ok (.fl .nx) [s0, s1, s2, .own false [.bool (goodB rs ws m (rs[n]'hn)), .bool false, .bool (decide (dot c (rs[n]'hn) = minI (rs.map (dot c))) && decide (minI c > 0))], s4, s5, s6, s7, s8, .val (.tuple (rs.map rowD)), .val (rowD ws), .val (rowD (mixed rs ws m)), .val (.int (0 + (n : Nat))), s13, s14, .val (rowD c), .val (rowD (rs[n]'hn)), .val (.bool (goodB rs ws m (rs[n]'hn))), .val (rowD (loneR rs.length n)), .own false ((rs.map (dot c)).map .int), .no, .no, .no, .no, .no, .no, .no] := by
  have few := h.few
  have w63 : ∀ w ∈ ws, 0 ≤ w ∧ w < 2 ^ 63 := fun w q => by have := hw w q; omega
  have l63 : ∀ w ∈ loneR rs.length n, 0 ≤ w ∧ w < 2 ^ 63 := fun w q => by
    obtain ⟨j, _, rfl⟩ := List.mem_map.mp q
    split <;> omega
  have c63 : ∀ x ∈ c, 0 ≤ x ∧ x < 2 ^ 63 := fun x q => by have := hc.2 x q; omega
  have r1 := s_mixture_paper (k+3) h hm hn hl w63
  have r2 := s_mixture_paper (k+3) h hm hn (ws := loneR rs.length n) (by rw [List.length_map, List.length_range]) l63
  have r3 := s_price_paper (k+3) h hn c63 hc.1 hm
  rw [decide_eq_true hs, Bool.true_and] at r1
  rw [lone_mixed h.len hn, decide_eq_true rfl, Bool.not_true, Bool.and_false] at r2
  have hc0 : c ≠ [] := List.length_pos_iff.mp (by have := hc.1; omega)
  have e3 : ((c.all fun x => decide (0 < x)) && rs.all fun r => decide (dot c rs[n] ≤ dot c r)) = (decide (dot c (rs[n]'hn) = minI (rs.map (dot c))) && decide (minI c > 0)) := by
    rw [all_pos hc0, ← all_min (l := rs.map (dot c)) (fun q => by have := congrArg List.length q; simp at this; rw [this] at hn; exact absurd hn (Nat.not_lt_zero _)) (dot c rs[n]) (List.mem_map.mpr ⟨_, List.getElem_mem _, rfl⟩), List.all_map, Bool.and_comm]
    rfl
  rw [e3] at r3
  have z : (0 : Int) + (n : Nat) = (n : Nat) := Int.zero_add _
  rw [← z] at r1 r2 r3
  exact asg_l (O_lst (ds := [.bool (goodB rs ws m (rs[n]'hn)), .bool false, .bool (decide (dot c (rs[n]'hn) = minI (rs.map (dot c))) && decide (minI c > 0))]) (Vs_cons (V_call (Vs_cons (V_var rfl) (Vs_cons (V_var rfl) (Vs_cons (V_var rfl) Vs_nil))) r1) (Vs_cons (V_call (Vs_cons (V_var rfl) (Vs_cons (V_var rfl) (Vs_cons (V_var rfl) Vs_nil))) r2) (Vs_cons (V_call (Vs_cons (V_var rfl) (Vs_cons (V_var rfl) (Vs_cons (V_var rfl) Vs_nil))) r3) Vs_nil))) (by unfold LINE; simp)) h3
theorem w24 {rs : List (List Int)} {ws : List Int} {n : Nat} (hn : n < rs.length) (hc : Lo m c) (hm1 : 1 ≤ m) : ev (runF tb (k+10)) s_law_right_24 [s0, s1, s2, .own false [.bool (goodB rs ws m (rs[n]'hn)), .bool false, .bool (decide (dot c (rs[n]'hn) = minI (rs.map (dot c))) && decide (minI c > 0))], s4, s5, s6, s7, s8, .val (.tuple (rs.map rowD)), .val (rowD ws), .val (rowD (mixed rs ws m)), .val (.int (0 + (n : Nat))), s13, s14, .val (rowD c), .val (rowD (rs[n]'hn)), .val (.bool (goodB rs ws m (rs[n]'hn))), .val (rowD (loneR rs.length n)), .own false ((rs.map (dot c)).map .int), .no, .no, .no, .no, .no, .no, .no] = .ok (.fl .nx) [s0, s1, s2, .own false [.bool (goodB rs ws m (rs[n]'hn)), .bool false, .bool (decide (dot c (rs[n]'hn) = minI (rs.map (dot c))) && decide (minI c > 0))], s4, s5, s6, s7, s8, .val (.tuple (rs.map rowD)), .val (rowD ws), .val (rowD (mixed rs ws m)), .val (.int (0 + (n : Nat))), s13, s14, .val (rowD c), .val (rowD (rs[n]'hn)), .val (.bool (goodB rs ws m (rs[n]'hn))), .val (rowD (loneR rs.length n)), .own false ((rs.map (dot c)).map .int), .no, .no, .no, .no, .no, .no, .no] := by
  have hc0 : c ≠ [] := List.length_pos_iff.mp (by have := hc.1; omega)
  have hr0 : rs.map (dot c) ≠ [] := fun q => by have := congrArg List.length q; simp at this; rw [this] at hn; exact absurd hn (Nat.not_lt_zero _)
  have hi : idxD (.list ((rs.map (dot c)).map .int)) (.int (0 + (n : Nat))) = some (.int (dot c (rs[n]'hn))) := by
    rw [at_get (by rw [List.length_map]; exact hn), List.getElem_map]
  have hh : hgt (.list [.bool (goodB rs ws m (rs[n]'hn)), .bool false, .bool (decide (dot c (rs[n]'hn) = minI (rs.map (dot c))) && decide (minI c > 0))]) < k + 10 := by
    show max 0 (max 0 (max 0 0)) + 1 < k + 10
    omega
  exact same_if (ds := [.bool (goodB rs ws m (rs[n]'hn)), .bool false, .bool (decide (dot c (rs[n]'hn) = minI (rs.map (dot c))) && decide (minI c > 0))]) rfl (O_lst (Vs_cons (V_var rfl) (Vs_cons (V_c _) (Vs_cons (V_and (V_cmp (V_idxb rfl (V_var rfl) hi) (V_prim1b rfl (p_min_l (intsOf_map _) hr0)) (c_eq _ _)) fun _ => V_one (V_cmp (V_prim (Vs_cons (V_var rfl) Vs_nil) (p_min_r hc0)) (V_c _) rfl)) Vs_nil))) (by unfold LINE; simp)) (s_same _ _ rfl hh)
end
end L2.Mp
set_option Elab.async false
set_option linter.all false
set_option maxRecDepth 100000
set_option maxHeartbeats 0
namespace L2.Mp
open PySem PySem.Spec PyProof.Rows L2
section
variable {cf : CF} {e : Fm}
theorem ret_v {x : T} {e1 : Fm} {d : D} (h : ev cf x e = .ok (.rv (.v d)) e1) : ev cf (.ret x) e = .ok (.fl (.ret (.v d))) e1 := by
  show (ev cf x e).rv _ = _
  rw [h]
  rfl
theorem ret_o {x : T} {e1 : Fm} {ds : List D} (h : ev cf x e = .ok (.rv (.o ds)) e1) : ev cf (.ret x) e = .ok (.fl (.ret (.o ds))) e1 := by
  show (ev cf x e).rv _ = _
  rw [h]
  rfl
theorem ret_own {i : Nat} {ds : List D} (h : e[i]? = some (.own false ds)) : ev cf (.ret (.var i)) e = .ok (.fl (.ret (.o ds))) (e.set i .no) := by
  simp only [ev, R.rv, R.rvs, R.dsk, R.bnd, testR, partR, rd, rds, fz, fzs, nrm, optR, keepS, storable, tru, isD, tyN, Ty.sub, List.any_cons, List.any_nil, List.all_cons, List.all_nil, doCall, mkArgs, lent, isOwnS, noDup, putOuts, argsFit, endF, outsF, startF, bindT, bindTs, List.getElem?_cons_zero, List.getElem?_cons_succ, List.getElem?_nil, List.map_cons, List.map_nil, List.length_cons, List.length_nil, List.replicate, List.cons_append, List.nil_append, List.set_cons_zero, List.set_cons_succ, Option.bind, Option.map, Bool.and_true, Bool.true_and, Bool.and_false, Bool.false_and, Bool.or_true, Bool.true_or, Bool.or_false, Bool.false_or, Bool.not_true, Bool.not_false, Bool.not_not, if_true, if_false, Bool.false_eq_true, reduceIte, reduceCtorEq, decide_true, decide_false, List.isEmpty_nil, List.isEmpty_cons, beq_self_eq_true, Nat.reduceAdd, Nat.reduceSub, Nat.reduceLeDiff, Nat.reduceLT, List.contains_nil, it_l, it_t, it_r, ty_r, b_add, b_sub, b_mul, b_mod, b_fdiv, b_addt, b_addl, b_pow3, b_pow6, b_pow12, b_pow18, i_t, i_l, i_r, sl_t, sl_l, p_len_l, p_len_t, p_len_r, p_abs, p_int, p_intB, p_tup_l, p_tup_t, p_lst_l, p_lst_t, p_sum_l, p_sum_t, p_sum_r, p_all, p_any, p_max2, p_min2, isNon, nolistR, nolist, and_self, and_true, true_and, h]
theorem seq_ret {a b : T} {e1 : Fm} {r : RV} (h : ev cf a e = .ok (.fl (.ret r)) e1) : ev cf (.seq a b) e = .ok (.fl (.ret r)) e1 := by
  show (match ev cf a e with
    | .ok (.fl .nx) e1 => ev cf b e1
    | r => r) = _
  rw [h]
theorem and_e {a b : T} {e1 : Fm} {r : R Val} (ha : ev cf a e = .ok (.rv (.v (.bool true))) e1) (hb : ev cf b e1 = r) : ev cf (.and a b) e = r := by
  show (ev cf a e).rv (fun ra e1 => (match (rd ra e1).bind tru with
    | some true => ev cf b e1
    | some false => R.ok (Val.rv ra) e1
    | none => .bad)) = _
  rw [ha]
  exact hb
theorem setIx_v {i : Nat} {ix x : T} {n : Int} {j : Nat} {d : D} {io : Bool} {ds : List D} (hx : V cf e x d) (hi : V cf e ix (.int n)) (h0 : e[i]? = some (.own io ds)) (hj : ixN ds.length n = some j) : ev cf (.setIx i ix x) e = .ok (.fl .nx) (e.set i (.own io (ds.set j d))) := by
  unfold V at hx hi
  simp only [ev, R.rv, R.rvs, R.dsk, R.bnd, testR, partR, rd, rds, fz, fzs, nrm, optR, keepS, storable, tru, isD, tyN, Ty.sub, List.any_cons, List.any_nil, List.all_cons, List.all_nil, doCall, mkArgs, lent, isOwnS, noDup, putOuts, argsFit, endF, outsF, startF, bindT, bindTs, List.getElem?_cons_zero, List.getElem?_cons_succ, List.getElem?_nil, List.map_cons, List.map_nil, List.length_cons, List.length_nil, List.replicate, List.cons_append, List.nil_append, List.set_cons_zero, List.set_cons_succ, Option.bind, Option.map, Bool.and_true, Bool.true_and, Bool.and_false, Bool.false_and, Bool.or_true, Bool.true_or, Bool.or_false, Bool.false_or, Bool.not_true, Bool.not_false, Bool.not_not, if_true, if_false, Bool.false_eq_true, reduceIte, reduceCtorEq, decide_true, decide_false, List.isEmpty_nil, List.isEmpty_cons, beq_self_eq_true, Nat.reduceAdd, Nat.reduceSub, Nat.reduceLeDiff, Nat.reduceLT, List.contains_nil, it_l, it_t, it_r, ty_r, b_add, b_sub, b_mul, b_mod, b_fdiv, b_addt, b_addl, b_pow3, b_pow6, b_pow12, b_pow18, i_t, i_l, i_r, sl_t, sl_l, p_len_l, p_len_t, p_len_r, p_abs, p_int, p_intB, p_tup_l, p_tup_t, p_lst_l, p_lst_t, p_sum_l, p_sum_t, p_sum_r, p_all, p_any, p_max2, p_min2, isNon, nolistR, nolist, and_self, and_true, true_and, hx, hi, h0, hj]
theorem bind_st {i : Nat} {d : D} {s : Slot} (h : e[i]? = some s) (hs : storable (some s) = true) : bindT (.tN i) d e = some (e.set i (.val d)) := by
  show (match e[i]? with
    | some (.own true _) => none
    | some _ => some (e.set i (.val d))
    | none => none) = _
  rw [h]
  match s, hs with
  | .no, _ => rfl
  | .val _, _ => rfl
  | .own false _, _ => rfl
theorem for_ok {tg src body : T} {e1 : Fm} {items : List D} {r : R Val} (h : ev cf src e = .ok (.ds items) e1) (hl : fLoop (fun d e2 => match bindT tg d e2 with
    | some e3 => ev cf body e3
    | none => .bad) items e1 = r) : ev cf (.forS tg src body) e = r := by
  show (ev cf src e).dsk (fun items e1 => fLoop (fun d e2 => match bindT tg d e2 with
    | some e3 => ev cf body e3
    | none => .bad) items e1) = _
  rw [h]
  exact hl
end
theorem enumF_enc : ∀ (zs : List Int) (i : Int), ∃ ps : List (Int × Int), enumF i (zs.map .int) = ps.map (fun p => PyData.tuple [.int p.1, .int p.2]) ∧ ∀ p ∈ ps, i ≤ p.1 ∧ p.1 < i + zs.length
  | [], i => ⟨[], rfl, fun _ h => nomatch h⟩
  | z :: zs, i => by
    obtain ⟨ps, h1, h2⟩ := enumF_enc zs (i + 1)
    refine ⟨(i, z) :: ps, ?_, fun p hp => ?_⟩
    · show PyData.tuple [.int i, .int z] :: enumF (i + 1) (zs.map .int) = _
      rw [h1]
      rfl
    · rw [List.length_cons]
      rcases List.mem_cons.mp hp with rfl | hp
      · dsimp only; omega
      · have := h2 p hp; omega
theorem cut_map {α β : Type} (f : α → β) (xs : List α) (lo hi : Option Int) : cut (xs.map f) lo hi = (cut xs lo hi).map f := by
  unfold cut
  rw [List.map_take, List.map_drop, List.length_map]
theorem cut_len {α : Type} (xs : List α) (lo hi : Option Int) : (cut xs lo hi).length ≤ xs.length := by
  unfold cut
  rw [List.length_take, List.length_drop]
  omega
section
variable (k : Nat) {m : Nat} {bx : List D} {a b c : List Int}
/-! ### the script's numbers -/
theorem s_cells (ns : List Int) (hl : ns.length ≤ 63) : ∃ c : Int, runF tb (k+1) "_law_cells" [.d (.list (ns.map .int)), .d (.int 1)] = .ok (.o [.int c]) [] := by
  have first : ∃ c : Int, ev (runF tb k) (.or (.prim .list (.cons (.slc (.var 0) .absent (.var 1)) .nil)) (.one (.lst (.cons (.const (.int 0)) .nil)))) [.val (.list (ns.map .int)), .val (.int 1), .no, .no, .no, .no] = .ok (.rv (.o [.int c])) [.val (.list (ns.map .int)), .val (.int 1), .no, .no, .no, .no] := by
    match ns with
    | [] =>
      have e : cut (([] : List Int).map PyData.int) none (some 1) = [] := by simp [cut]
      rw [List.map_nil] at e
      exact ⟨0, by simp only [ev, R.rv, R.rvs, R.dsk, R.bnd, testR, partR, rd, rds, fz, fzs, nrm, optR, keepS, storable, tru, isD, tyN, Ty.sub, List.any_cons, List.any_nil, List.all_cons, List.all_nil, doCall, mkArgs, lent, isOwnS, noDup, putOuts, argsFit, endF, outsF, startF, bindT, bindTs, List.getElem?_cons_zero, List.getElem?_cons_succ, List.getElem?_nil, List.map_cons, List.map_nil, List.length_cons, List.length_nil, List.replicate, List.cons_append, List.nil_append, List.set_cons_zero, List.set_cons_succ, Option.bind, Option.map, Bool.and_true, Bool.true_and, Bool.and_false, Bool.false_and, Bool.or_true, Bool.true_or, Bool.or_false, Bool.false_or, Bool.not_true, Bool.not_false, Bool.not_not, if_true, if_false, Bool.false_eq_true, reduceIte, reduceCtorEq, decide_true, decide_false, List.isEmpty_nil, List.isEmpty_cons, beq_self_eq_true, Nat.reduceAdd, Nat.reduceSub, Nat.reduceLeDiff, Nat.reduceLT, List.contains_nil, it_l, it_t, it_r, ty_r, b_add, b_sub, b_mul, b_mod, b_fdiv, b_addt, b_addl, b_pow3, b_pow6, b_pow12, b_pow18, i_t, i_l, i_r, sl_t, sl_l, p_len_l, p_len_t, p_len_r, p_abs, p_int, p_intB, p_tup_l, p_tup_t, p_lst_l, p_lst_t, p_sum_l, p_sum_t, p_sum_r, p_all, p_any, p_max2, p_min2, isNon, nolistR, nolist, and_self, and_true, true_and, e, one_line]⟩
    | n :: r =>
      have e : cut ((n :: r).map PyData.int) none (some 1) = [.int n] := cut_lo ((n :: r).map PyData.int) 1 (by simp)
      rw [List.map_cons] at e
      exact ⟨n, by simp only [ev, R.rv, R.rvs, R.dsk, R.bnd, testR, partR, rd, rds, fz, fzs, nrm, optR, keepS, storable, tru, isD, tyN, Ty.sub, List.any_cons, List.any_nil, List.all_cons, List.all_nil, doCall, mkArgs, lent, isOwnS, noDup, putOuts, argsFit, endF, outsF, startF, bindT, bindTs, List.getElem?_cons_zero, List.getElem?_cons_succ, List.getElem?_nil, List.map_cons, List.map_nil, List.length_cons, List.length_nil, List.replicate, List.cons_append, List.nil_append, List.set_cons_zero, List.set_cons_succ, Option.bind, Option.map, Bool.and_true, Bool.true_and, Bool.and_false, Bool.false_and, Bool.or_true, Bool.true_or, Bool.or_false, Bool.false_or, Bool.not_true, Bool.not_false, Bool.not_not, if_true, if_false, Bool.false_eq_true, reduceIte, reduceCtorEq, decide_true, decide_false, List.isEmpty_nil, List.isEmpty_cons, beq_self_eq_true, Nat.reduceAdd, Nat.reduceSub, Nat.reduceLeDiff, Nat.reduceLT, List.contains_nil, it_l, it_t, it_r, ty_r, b_add, b_sub, b_mul, b_mod, b_fdiv, b_addt, b_addl, b_pow3, b_pow6, b_pow12, b_pow18, i_t, i_l, i_r, sl_t, sl_l, p_len_l, p_len_t, p_len_r, p_abs, p_int, p_intB, p_tup_l, p_tup_t, p_lst_l, p_lst_t, p_sum_l, p_sum_t, p_sum_r, p_all, p_any, p_max2, p_min2, isNon, nolistR, nolist, and_self, and_true, true_and, e]⟩
  obtain ⟨c, first⟩ := first
  have src : ev (runF tb k) (.sEnum (.slc (.var 0) (.var 1) (.const (.int 63)))) [.val (.list (ns.map .int)), .val (.int 1), .own false [.int c], .no, .no, .no] = .ok (.ds (enumF 0 ((cut ns (some 1) (some 63)).map .int))) [.val (.list (ns.map .int)), .val (.int 1), .own false [.int c], .no, .no, .no] := by
    simp only [ev, R.rv, R.rvs, R.dsk, R.bnd, testR, partR, rd, rds, fz, fzs, nrm, optR, keepS, storable, tru, isD, tyN, Ty.sub, List.any_cons, List.any_nil, List.all_cons, List.all_nil, doCall, mkArgs, lent, isOwnS, noDup, putOuts, argsFit, endF, outsF, startF, bindT, bindTs, List.getElem?_cons_zero, List.getElem?_cons_succ, List.getElem?_nil, List.map_cons, List.map_nil, List.length_cons, List.length_nil, List.replicate, List.cons_append, List.nil_append, List.set_cons_zero, List.set_cons_succ, Option.bind, Option.map, Bool.and_true, Bool.true_and, Bool.and_false, Bool.false_and, Bool.or_true, Bool.true_or, Bool.or_false, Bool.false_or, Bool.not_true, Bool.not_false, Bool.not_not, if_true, if_false, Bool.false_eq_true, reduceIte, reduceCtorEq, decide_true, decide_false, List.isEmpty_nil, List.isEmpty_cons, beq_self_eq_true, Nat.reduceAdd, Nat.reduceSub, Nat.reduceLeDiff, Nat.reduceLT, List.contains_nil, it_l, it_t, it_r, ty_r, b_add, b_sub, b_mul, b_mod, b_fdiv, b_addt, b_addl, b_pow3, b_pow6, b_pow12, b_pow18, i_t, i_l, i_r, sl_t, sl_l, p_len_l, p_len_t, p_len_r, p_abs, p_int, p_intB, p_tup_l, p_tup_t, p_lst_l, p_lst_t, p_sum_l, p_sum_t, p_sum_r, p_all, p_any, p_max2, p_min2, isNon, nolistR, nolist, and_self, and_true, true_and]
    rw [cut_map]
  obtain ⟨ps, q1, q2⟩ := enumF_enc (cut ns (some 1) (some 63)) 0
  have cl := cut_len ns (some 1) (some 63)
  rw [q1] at src
  obtain ⟨e', g1, g2⟩ := fLoop_inv (enc := fun p : Int × Int => PyData.tuple [.int p.1, .int p.2]) (step := fun d e2 => match bindT (.tT (.cons (.tN 3) (.cons (.tN 4) .nil))) d e2 with
    | some e3 => ev (runF tb k) (.seq (.asg (.tN 5) (.bin .Mod (.prim .int (.cons (.var 3) .nil)) (.var 1))) (.seq (.setIx 2 (.var 5) (.bin .Add (.idx (.var 2) (.var 5)) (.bin .Mult (.var 4) (.bin .Add (.var 3) (.const (.int 2)))))) .done)) e3
    | none => .bad) (P := fun e => ∃ c t3 t4 t5, e = [.val (.list (ns.map .int)), .val (.int 1), .own false [.int c], t3, t4, t5] ∧ storable (some t3) = true ∧ storable (some t4) = true ∧ storable (some t5) = true) ps _ ⟨c, .no, .no, .no, rfl, rfl, rfl, rfl⟩ fun p hp e he => by
      obtain ⟨c, t3, t4, t5, rfl, h3, h4, h5⟩ := he
      have hp := q2 p hp
      have b1 : bindT (.tT (.cons (.tN 3) (.cons (.tN 4) .nil))) (.tuple [.int p.1, .int p.2]) [.val (.list (ns.map .int)), .val (.int 1), .own false [.int c], t3, t4, t5] = some [.val (.list (ns.map .int)), .val (.int 1), .own false [.int c], .val (.int p.1), .val (.int p.2), t5] := by
        have z1 := bind_st (i := 3) (d := .int p.1) (e := [.val (.list (ns.map .int)), .val (.int 1), .own false [.int c], t3, t4, t5]) rfl h3
        have z2 := bind_st (i := 4) (d := .int p.2) (e := [.val (.list (ns.map .int)), .val (.int 1), .own false [.int c], .val (.int p.1), t4, t5]) rfl h4
        show (match bindT (.tN 3) (.int p.1) [.val (.list (ns.map .int)), .val (.int 1), .own false [.int c], t3, t4, t5] with
          | some e1 => bindTs (.cons (.tN 4) .nil) [.int p.2] e1
          | none => none) = _
        rw [z1]
        show (match bindT (.tN 4) (.int p.2) [.val (.list (ns.map .int)), .val (.int 1), .own false [.int c], .val (.int p.1), t4, t5] with
          | some e1 => bindTs .nil [] e1
          | none => none) = _
        rw [z2]
        rfl
      refine ⟨[.val (.list (ns.map .int)), .val (.int 1), .own false [.int (c + p.2 * (p.1 + 2))], .val (.int p.1), .val (.int p.2), .val (.int 0)], ?_, _, _, _, _, rfl, rfl, rfl, rfl⟩
      try dsimp only
      rw [b1]
      try dsimp only
      refine seq_nx (e1 := [.val (.list (ns.map .int)), .val (.int 1), .own false [.int c], .val (.int p.1), .val (.int p.2), .val (.int 0)]) (asg_v (V_bin (V_prim (Vs_cons (V_var rfl) Vs_nil) (p_int _)) (V_var rfl) ?_) h5) (seq_nx (setIx_v (j := 0) (d := .int (c + p.2 * (p.1 + 2))) (V_bin (V_idxb rfl (V_var rfl) rfl) (V_bin (V_var rfl) (V_bin (V_var rfl) (V_c _) (b_add _ _)) ?_) (b_add _ _)) (V_var rfl) rfl rfl) rfl)
      · rw [b_mod, if_pos (by omega), Int.emod_one]
      · rw [b_mul, if_pos (mul_ok2 (by omega))]
  obtain ⟨c', t3, t4, t5, rfl, _⟩ := g2
  refine ⟨c', ?_⟩
  have body : ev (runF tb k) f_law_cells.body [.val (.list (ns.map .int)), .val (.int 1), .no, .no, .no, .no] = .ok (.fl (.ret (.o [.int c']))) [.val (.list (ns.map .int)), .val (.int 1), .no, t3, t4, t5] :=
    seq_nx (asg_l first rfl) (seq_nx (for_ok src g1) (seq_ret (ret_own rfl)))
  rw [u_law_cells]
  show endF [false, false] (ev (runF tb k) f_law_cells.body [.val (.list (ns.map .int)), .val (.int 1), .no, .no, .no, .no]) = _
  rw [body]
  rfl
theorem s_box (c : Int) : ∃ bx : List D, runF tb (k+1) "_law_box" [.d (.list [.int c]), .d (.int 0)] = .ok (.o bx) [] ∧ Box 0 bx := by
  generalize hA : (if c < 0 then -c else c) = A
  have hA0 : 0 ≤ A := by rw [← hA]; split <;> omega
  have pA : primD .abs [.int c] = some (.v (.int A)) := by rw [p_abs, hA]
  have hB : 0 ≤ (if decide ((1000000000000000000 : Int) ≤ A) = true then (1 : Int) else 0) ∧ (if decide ((1000000000000000000 : Int) ≤ A) = true then (1 : Int) else 0) < 2 ^ 63 := by split <;> omega
  have m0 : 0 ≤ c % 2305843009213693951 := Int.emod_nonneg _ (by omega)
  have m1 : c % 2305843009213693951 < 2305843009213693951 := Int.emod_lt_of_pos _ (by omega)
  refine ⟨[.int (A * (if decide ((1000000000000000000 : Int) ≤ A) = true then (1 : Int) else 0)), .int (c % 2305843009213693951 + 39373 * 0 + 2631688), .int 0], ?_, _, _, _, rfl, Int.mul_nonneg hA0 hB.1, by omega, by omega, by omega, by omega⟩
  have body : ev (runF tb k) f_law_box.body [.val (.list [.int c]), .val (.int 0), .no] = .ok (.fl (.ret (.o [.int (A * (if decide ((1000000000000000000 : Int) ≤ A) = true then (1 : Int) else 0)), .int (c % 2305843009213693951 + 39373 * 0 + 2631688), .int 0]))) [.val (.list [.int c]), .val (.int 0), .val (.int c)] := by
    refine seq_nx (asg_v (d := .int c) rfl rfl) (seq_ret (ret_o (O_lst (Vs_cons (V_bin (V_prim (Vs_cons (V_var rfl) Vs_nil) pA) (V_prim (Vs_cons (V_cmp (V_prim (Vs_cons (V_var rfl) Vs_nil) pA) (V_bin (V_c _) (V_c _) b_pow18) rfl) Vs_nil) (p_intB _)) ?_) (Vs_cons (V_bin (V_bin (V_bin (V_prim (Vs_cons (V_var rfl) Vs_nil) (p_int _)) (V_c _) ?_) (V_bin (V_c _) (V_var rfl) ?_) (b_add _ _)) (V_c _) (b_add _ _)) (Vs_cons (V_c _) Vs_nil))) (by unfold LINE; simp))))
    · rw [b_mul, if_pos (mul_ok2 hB)]
    · rw [b_mod, if_pos (by omega)]
    · rw [b_mul, if_pos (mul_ok2 (by omega))]
  rw [u_law_box]
  show endF [false, false] (ev (runF tb k) f_law_box.body [.val (.list [.int c]), .val (.int 0), .no]) = _
  rw [body]
  rfl
/-! ### the law's body -/
theorem w0 {n : Nat} (hb : Box n bx) (hn : n + 1 < 2 ^ 30) : ∃ (m : Nat) (bx' : List D), ev (runF tb (k+10)) s_law_right_0 [.own true bx, .no, .no, .no, .no, .no, .no, .no, .no, .no, .no, .no, .no, .no, .no, .no, .no, .no, .no, .no, .no, .no, .no, .no, .no, .no, .no] = .ok (.fl .nx) [.own true bx', .val (.int m), .no, .no, .no, .no, .no, .no, .no, .no, .no, .no, .no, .no, .no, .no, .no, .no, .no, .no, .no, .no, .no, .no, .no, .no, .no] ∧ (1 ≤ m ∧ m ≤ 5) ∧ Box (n + 1) bx' := by
  obtain ⟨t, b1, p1, p2, p3, p4⟩ := s_take (k+9) hb (by omega) (z := 5) (by omega) (by omega)
  obtain ⟨t, rfl⟩ := Int.eq_ofNat_of_zero_le p2
  exact ⟨1 + t, b1, asg_v (bin_e (V_c _) (call_io rfl (V_c _) p1) (by rw [b_add, show (1 : Int) + (t : Nat) = ((1 + t : Nat) : Int) by omega])) rfl, by omega, p4⟩
section
variable {s0 s1 s2 s3 s4 s5 s6 s7 s8 s9 s10 s11 s12 s13 s14 s15 s16 s17 s18 s19 s20 s21 s22 s23 s24 s25 s26 : Slot}
theorem loop_ok {rs : List (List Int)} {ws : List Int} (h : Set40 rs m) (hl : ws.length = rs.length) (hw : Wt ws) (hs : 0 < ws.sum) (hc : Lo m c) (hm : m ≤ 5) (hm1 : 1 ≤ m) (hx : (mixed rs ws m).length ≤ 1000) (h3 : storable (some s3) = true) : ∃ t3 t12 t16 t17 t18 t19, ev (runF tb (k+10)) l_law_right_0 [s0, s1, s2, s3, s4, s5, s6, s7, s8, .val (.tuple (rs.map rowD)), .val (rowD ws), .val (rowD (mixed rs ws m)), .no, s13, s14, .val (rowD c), .no, .no, .no, .no, .no, .no, .no, .no, .no, .no, .no] = .ok (.fl .nx) [s0, s1, s2, t3, s4, s5, s6, s7, s8, .val (.tuple (rs.map rowD)), .val (rowD ws), .val (rowD (mixed rs ws m)), t12, s13, s14, .val (rowD c), t16, t17, t18, t19, .no, .no, .no, .no, .no, .no, .no] := by
  have few := h.few
  have src : ev (runF tb (k+10)) (.sR1 (.prim .len (.cons (.var 9) .nil))) [s0, s1, s2, s3, s4, s5, s6, s7, s8, .val (.tuple (rs.map rowD)), .val (rowD ws), .val (rowD (mixed rs ws m)), .no, s13, s14, .val (rowD c), .no, .no, .no, .no, .no, .no, .no, .no, .no, .no, .no] = .ok (.ds ((List.range rs.length).map fun i : Nat => PyData.int (0 + (i : Nat)))) [s0, s1, s2, s3, s4, s5, s6, s7, s8, .val (.tuple (rs.map rowD)), .val (rowD ws), .val (rowD (mixed rs ws m)), .no, s13, s14, .val (rowD c), .no, .no, .no, .no, .no, .no, .no, .no, .no, .no, .no] := sR1_ok (V_prim (Vs_cons (V_var rfl) Vs_nil) (by rw [p_len_t, List.length_map])) (by omega)
  obtain ⟨e', g1, g2⟩ := fLoop_inv (enc := fun i : Nat => PyData.int (0 + (i : Nat))) (step := fun d e2 => match bindT (.tN 12) d e2 with
    | some e3 => ev (runF tb (k+10)) (.seq s_law_right_19 (.seq s_law_right_20 (.seq s_law_right_21 (.seq s_law_right_22 (.seq s_law_right_23 (.seq s_law_right_24 .done)))))) e3
    | none => .bad) (P := fun e => ∃ t3 t12 t16 t17 t18 t19, e = [s0, s1, s2, t3, s4, s5, s6, s7, s8, .val (.tuple (rs.map rowD)), .val (rowD ws), .val (rowD (mixed rs ws m)), t12, s13, s14, .val (rowD c), t16, t17, t18, t19, .no, .no, .no, .no, .no, .no, .no] ∧ storable (some t3) = true ∧ storable (some t12) = true ∧ storable (some t16) = true ∧ storable (some t17) = true ∧ storable (some t18) = true ∧ storable (some t19) = true) (List.range rs.length) [s0, s1, s2, s3, s4, s5, s6, s7, s8, .val (.tuple (rs.map rowD)), .val (rowD ws), .val (rowD (mixed rs ws m)), .no, s13, s14, .val (rowD c), .no, .no, .no, .no, .no, .no, .no, .no, .no, .no, .no] ⟨s3, .no, .no, .no, .no, .no, rfl, h3, rfl, rfl, rfl, rfl, rfl⟩ fun n hn e he => by
      obtain ⟨t3, t12, t16, t17, t18, t19, rfl, q3, q12, q16, q17, q18, q19⟩ := he
      have hn : n < rs.length := List.mem_range.mp hn
      have er := h.ent _ (List.getElem_mem hn)
      have b1 : bindT (.tN 12) (.int (0 + (n : Nat))) [s0, s1, s2, t3, s4, s5, s6, s7, s8, .val (.tuple (rs.map rowD)), .val (rowD ws), .val (rowD (mixed rs ws m)), t12, s13, s14, .val (rowD c), t16, t17, t18, t19, .no, .no, .no, .no, .no, .no, .no] = some [s0, s1, s2, t3, s4, s5, s6, s7, s8, .val (.tuple (rs.map rowD)), .val (rowD ws), .val (rowD (mixed rs ws m)), .val (.int (0 + (n : Nat))), s13, s14, .val (rowD c), t16, t17, t18, t19, .no, .no, .no, .no, .no, .no, .no] := bind_st (i := 12) (e := [s0, s1, s2, t3, s4, s5, s6, s7, s8, .val (.tuple (rs.map rowD)), .val (rowD ws), .val (rowD (mixed rs ws m)), t12, s13, s14, .val (rowD c), t16, t17, t18, t19, .no, .no, .no, .no, .no, .no, .no]) rfl q12
      refine ⟨[s0, s1, s2, .own false [.bool (goodB rs ws m (rs[n]'hn)), .bool false, .bool (decide (dot c (rs[n]'hn) = minI (rs.map (dot c))) && decide (minI c > 0))], s4, s5, s6, s7, s8, .val (.tuple (rs.map rowD)), .val (rowD ws), .val (rowD (mixed rs ws m)), .val (.int (0 + (n : Nat))), s13, s14, .val (rowD c), .val (rowD (rs[n]'hn)), .val (.bool (goodB rs ws m (rs[n]'hn))), .val (rowD (loneR rs.length n)), .own false ((rs.map (dot c)).map .int), .no, .no, .no, .no, .no, .no, .no], ?_, _, _, _, _, _, _, rfl, rfl, rfl, rfl, rfl, rfl, rfl⟩
      try dsimp only
      rw [b1]
      try dsimp only
      exact seq_nx (w19 k hn q16) (seq_nx (w20 k hn er hx q17) (seq_nx (w21 k hn few q18) (seq_nx (w22 k hn few hc hm q19) (seq_nx (w23 k hn h hl hw hs hc hm hm1 q3) (seq_nx (w24 k hn hc hm1) rfl)))))
  obtain ⟨t3, t12, t16, t17, t18, t19, rfl, _⟩ := g2
  exact ⟨t3, t12, t16, t17, t18, t19, for_ok src g1⟩
end
theorem s_right {n : Nat} (hb : Box n bx) (hn : n + 300 < 2 ^ 30) : ∃ bx' : List D, runF tb (k+11) "_law_right" [.io bx] = .ok (.v (.bool true)) [bx'] ∧ Box (n + 300) bx' := by
  obtain ⟨m, b1, p0, ⟨hm1, hm⟩, o1⟩ := w0 k hb (by omega)
  obtain ⟨a, b, c, b2, p1, ha, hb', hc, o2⟩ := d_three k o1 (by omega) hm
  have p2 := w2 k (bx := b2) (m := m) (a := a) (b := b) (c := c) ha hm
  have p3 := w3 k (bx := b2) ha hb' hc hm
  have p4 := w4 k (bx := b2) ha hb' hc hm
  have p5 := w5 k (bx := b2) (m := m) (a := a) (b := b) (c := c) ha hm (s := .own false [rowD (addR a b), .int (dot c a), .int (dot c b), .bool true])
  have p6 := w6 k (bx := b2) (m := m) (a := a) (b := b) (c := c) ha hm (s := .own false [rowD (addR a b), .int (dot c a), .int (dot c b), .bool true])
  have p7 := w7 k (bx := b2) (c := c) ha hb' hm hm1 (s := .own false [rowD (addR a b), .int (dot c a), .int (dot c b), .bool true]) rfl
  have p8 := w8 k (bx := b2) (c := c) ha hb' hm
  obtain ⟨j, b3, hj, o3, p9⟩ := w9 k (s := .no) (a := a) (b := b) (c := c) o2 (by omega) hm hm1
  have hja : j < a.length := by rw [ha.1]; exact hj
  have hjc : j < c.length := by rw [hc.1]; exact hj
  have p10 := w10 k (bx := b3) (m := m) (b := b) (c := c) hja (by rw [ha.1]; exact hm)
  have p11 := w11 k (bx := b3) (m := m) (b := b) (c := c) hja
  have p12 := w12 k (bx := b3) (b := b) (s := .own false [.bool (atMost a b), .bool (atMost a b && !decide (a = b)), .bool (atMost b a), .tuple [rowD (maxR a b)], .tuple [rowD (addR a b)]]) hja hjc ha hc hm hm1 rfl
  obtain ⟨rs, b4, p14, hr, o4⟩ := w14 k o3 (by omega) hm hm1 (s2 := .val (rowD (addR a b))) (s3 := .own false [.bool (decide (bump a[j] > a[j])), .bool (!decide (bump a[j] > a[j])), .tuple [rowD (if decide (bump a[j] > a[j]) = true then a else moreR a j hja)], .int (if decide (bump a[j] > a[j]) = true then c[j]'hjc else -(c[j]'hjc))]) (s4 := .val (.bool (atMost a b))) (s5 := .val (rowD (maxR a b))) (s6 := .val (.int (j : Nat))) (s7 := .val (rowD (moreR a j hja))) (s8 := .val (.bool (decide (bump a[j] > a[j])))) (s9 := .no) (s10 := .no) (s11 := .no) (s12 := .no) (s13 := .val (rowD a)) (s14 := .val (rowD b)) (s15 := .val (rowD c)) (s16 := .no) (s17 := .no) (s18 := .no) (s19 := .no) (s22 := .no) (s23 := .no) (s24 := .no) (s25 := .no) (s26 := .no) rfl
  obtain ⟨ws0, b5, p15, ⟨hl0, hw0⟩, o5⟩ := w15 k o4 (by omega) hr.few (s1 := .val (.int m)) (s2 := .val (rowD (addR a b))) (s3 := .own false [.bool (decide (bump a[j] > a[j])), .bool (!decide (bump a[j] > a[j])), .tuple [rowD (if decide (bump a[j] > a[j]) = true then a else moreR a j hja)], .int (if decide (bump a[j] > a[j]) = true then c[j]'hjc else -(c[j]'hjc))]) (s4 := .val (.bool (atMost a b))) (s5 := .val (rowD (maxR a b))) (s6 := .val (.int (j : Nat))) (s7 := .val (rowD (moreR a j hja))) (s8 := .val (.bool (decide (bump a[j] > a[j])))) (s10 := .no) (s11 := .no) (s12 := .no) (s13 := .val (rowD a)) (s14 := .val (rowD b)) (s15 := .val (rowD c)) (s17 := .no) (s18 := .no) (s19 := .no) (s20 := .no) (s21 := .no) (s22 := .no) (s23 := .no) (s24 := .no) (s25 := .no) (s26 := .no) rfl
  have one := hr.one
  have few := hr.few
  obtain ⟨ws, p16, hl1, hw, hs⟩ := w16 k (by omega) (by omega) hw0 (s0 := .own true b5) (s9 := .val (.tuple (rs.map rowD))) (s1 := .val (.int m)) (s2 := .val (rowD (addR a b))) (s3 := .own false [.bool (decide (bump a[j] > a[j])), .bool (!decide (bump a[j] > a[j])), .tuple [rowD (if decide (bump a[j] > a[j]) = true then a else moreR a j hja)], .int (if decide (bump a[j] > a[j]) = true then c[j]'hjc else -(c[j]'hjc))]) (s4 := .val (.bool (atMost a b))) (s5 := .val (rowD (maxR a b))) (s6 := .val (.int (j : Nat))) (s7 := .val (rowD (moreR a j hja))) (s8 := .val (.bool (decide (bump a[j] > a[j])))) (s11 := .no) (s12 := .no) (s13 := .val (rowD a)) (s14 := .val (rowD b)) (s15 := .val (rowD c)) (s16 := .no) (s17 := .no) (s18 := .no) (s19 := .no) (s20 := .no) (s21 := .no) (s22 := .no) (s23 := .no) (s24 := .no) (s25 := .no) (s26 := .no)
  have hl : ws.length = rs.length := by omega
  have hx : (mixed rs ws m).length ≤ 1000 := by
    rw [← mixed_whole hr.len, List.length_map, List.length_range]
    omega
  obtain ⟨t3, t12, t16, t17, t18, t19, p19⟩ := loop_ok k hr hl hw hs hc hm hm1 hx (s0 := .own true b5) (s1 := .val (.int m)) (s2 := .val (rowD (addR a b))) (s3 := .own false [.bool (decide (bump a[j] > a[j])), .bool (!decide (bump a[j] > a[j])), .tuple [rowD (if decide (bump a[j] > a[j]) = true then a else moreR a j hja)], .int (if decide (bump a[j] > a[j]) = true then c[j]'hjc else -(c[j]'hjc))]) (s4 := .val (.bool (atMost a b))) (s5 := .val (rowD (maxR a b))) (s6 := .val (.int (j : Nat))) (s7 := .val (rowD (moreR a j hja))) (s8 := .val (.bool (decide (bump a[j] > a[j])))) (s13 := .val (rowD a)) (s14 := .val (rowD b)) rfl
  have body : ∃ e', ev (runF tb (k+10)) f_law_right.body [.own true bx, .no, .no, .no, .no, .no, .no, .no, .no, .no, .no, .no, .no, .no, .no, .no, .no, .no, .no, .no, .no, .no, .no, .no, .no, .no, .no] = .ok (.fl (.ret (.v (.bool true)))) e' ∧ outsF [true] 0 e' = some [b5] :=
    ⟨_, seq_nx p0 (seq_nx p1 (seq_nx p2 (seq_nx p3 (seq_nx p4 (seq_nx p5 (seq_nx p6 (seq_nx p7 (seq_nx p8 (seq_nx p9 (seq_nx p10 (seq_nx p11 (seq_nx p12 (seq_nx (w13 k hja hjc ha hm) (seq_nx p14 (seq_nx p15 (seq_nx p16 (seq_nx (w17 k hm hr.len (by omega) hw rfl) (seq_nx (w18 k hr hm hl hw hs hx) (seq_nx p19 (seq_ret (ret_v rfl))))))))))))))))))))), rfl⟩
  obtain ⟨e', q1, q2⟩ := body
  refine ⟨b5, ?_, box_mono o5 (by omega)⟩
  rw [u_law_right]
  show endF [true] (ev (runF tb (k+10)) f_law_right.body [.own true bx, .no, .no, .no, .no, .no, .no, .no, .no, .no, .no, .no, .no, .no, .no, .no, .no, .no, .no, .no, .no, .no, .no, .no, .no, .no, .no]) = _
  rw [q1]
  show (match outsF [true] 0 e' with
    | some outs => CR.ok (.v (.bool true)) outs
    | none => .bad) = _
  rw [q2]
theorem law_says : LawSays 12 := by
  intro ns hl
  obtain ⟨c, h1⟩ := s_cells 10 ns hl
  obtain ⟨bx, h2, h3⟩ := s_box 10 c
  obtain ⟨b1, h4, h5⟩ := s_right 0 h3 (by omega)
  obtain ⟨b2, h6, h7⟩ := s_right 0 h5 (by omega)
  have body : ev (runF tb 11) f_law.body [.val (.list (ns.map .int)), .no] = .ok (.fl (.ret (.v (.bool true)))) [.val (.list (ns.map .int)), .own false b2] :=
    seq_nx (asg_l (call_r (Vs_consO (call_r (Vs_cons (V_var rfl) (Vs_cons (V_c _) Vs_nil)) h1) (Vs_cons (V_c _) Vs_nil)) h2) rfl) (seq_ret (ret_v (and_e (call_io1 (io := false) rfl h4) (call_io1 (io := false) rfl h6))))
  rw [u_law]
  show endF [false] (ev (runF tb 11) f_law.body [.val (.list (ns.map .int)), .no]) = _
  rw [body]
  rfl
end
end L2.Mp
open PyProof.Rows PySem in
theorem law_room : L2.Room 12 callerA := ⟨rfl, by decide, by decide⟩

set_option maxRecDepth 100000 in
theorem PySem.Challenge.cw_countsandfloors_k88_great_numbers_in_row_holds : PySem.Challenge.rw_countsandfloors_k88_great_numbers_in_row.Holds := by
  exact law_holds 12 law_room L2.Mp.law_says
