import PyProof.Rows.All
import Wide.All
import OpenK.AllK
import Wide.FinOn
import HandS.ForMost
import HandS.Wide
import HandS.TupAny
import HandS.TryOnly
import HandS.WordsExc
import KE.SortData
import KE.DataEq
import HandS.TupMul
import HandS.Steps
import HandS.Style
import HandS.Flow
import HandS.IsInst
import HandS.TupLe
import KE.DataMinMax
import HandS.Zip
import KE.GoesEnum
import KE.GoesMore
import KE.GoesZip
import HandS.TupSets
import HandS.Defaults
import HandS.HeadEnd
import HandS.HeadHook1
import HandS.HeadHook2
import HandS.HeadHook4
import HandS.Head0
import HandS.Head1
import HandS.Head2
import PySem.Challenge.RW_countsandfloors_k95_runs_in_two_parts_at
set_option Elab.async false
set_option linter.all false
set_option maxRecDepth 100000
set_option maxHeartbeats 4000000
/-! A small pure evaluator over an IR of one's own, and what ties the IR to the program's text. -/
namespace L2.Mp
open PySem PySem.Spec PyProof.Rows L2

abbrev D := PyData
/-- a frame's slot: nothing told; a value that nobody changes; a list of which this slot alone knows (io: handed in to be changed) -/
inductive Slot where
  | no
  | val (d : D)
  | own (io : Bool) (ds : List D)
abbrev Fm := List Slot
/-- an expression's outcome: a value; a fresh list; the list that the slot i owns -/
inductive RV where
  | v (d : D)
  | o (ds : List D)
  | b (i : Nat)
inductive Fl where
  | nx
  | ret (r : RV)
  | brk
  | cont
structure Xc where
  cls : Str
  args : List D
inductive Val where
  | rv (r : RV)
  | rvs (rs : List RV)
  | ds (l : List D)
  | fl (f : Fl)
inductive R (α : Type) where
  | ok (a : α) (e : Fm)
  | rz (x : Xc) (e : Fm)
  | bad
def R.rv {β : Type} (m : R Val) (k : RV → Fm → R β) : R β := match m with
  | .ok (.rv r) e => k r e
  | .rz x e => .rz x e
  | _ => .bad
def R.rvs {β : Type} (m : R Val) (k : List RV → Fm → R β) : R β := match m with
  | .ok (.rvs r) e => k r e
  | .rz x e => .rz x e
  | _ => .bad
def R.dsk {β : Type} (m : R Val) (k : List D → Fm → R β) : R β := match m with
  | .ok (.ds r) e => k r e
  | .rz x e => .rz x e
  | _ => .bad
def R.bnd {α β : Type} (m : R α) (k : α → Fm → R β) : R β := match m with
  | .ok a e => k a e
  | .rz x e => .rz x e
  | .bad => .bad

inductive Ty where
  | non | bool | int | str | list | tuple | dict
  deriving DecidableEq
inductive Prim where
  | len | abs | int | tuple | list | sum | all | any | max1 | min1 | max2 | min2 | sorted
  deriving DecidableEq

inductive T where
  -- expressions
  | var (i : Nat)
  | glo (x : Str) (d : D)
  | const (d : D)
  | bin (op : Operator) (a b : T)
  | neg (a : T)
  | notT (a : T)
  | cmp (op : CmpOp) (a b : T)
  | chain (op op' : CmpOp) (a b c : T)
  | one (a : T)
  | and (a b : T)
  | or (a b : T)
  | ite (c a b : T)
  | call (f : Str) (fl : List Bool) (args : T)
  | prim (p : Prim) (args : T)
  | isi (a : T) (cs : List Ty)
  | lenSet (a : T)
  | sortSet (a : T)
  | tup (es : T)
  | lst (es : T)
  | lrep (es b : T)
  | idx (a b : T)
  | slc (a lo hi : T)
  | comp (elt tg src cond : T) (own : List Nat)
  | comp2 (elt tg src cond tg2 src2 cond2 : T) (own own2 : List Nat)
  -- none told (a slice's part, a comprehension's test)
  | absent
  -- lists of expressions, of targets
  | nil
  | cons (a r : T)
  -- what is walked
  | sSeq (a : T)
  | sR1 (a : T)
  | sR2 (a b : T)
  | sZip (a b : T)
  | sEnum (a : T)
  | sStr (a : T)
  -- targets
  | tN (i : Nat)
  | tT (es : T)
  -- statements
  | asg (tg e : T)
  | par (i j : Nat) (a b : T)
  | par3 (i j l : Nat) (a b c : T)
  | popE (tk fd : Nat) (c : T) (i j : Nat) (r : T)
  | ifS (c a b : T)
  | forS (tg src body : T)
  | whileS (c body : T)
  | ret (e : T)
  | expr (e : T)
  | app (i : Nat) (e : T)
  | ext (i : Nat) (e : T)
  | setIx (i : Nat) (ix e : T)
  | pop (i : Nat) (a : T)
  | never
  | brk
  | cont
  | pass
  | done
  | seq (a b : T)

/-! ### the values' operations -/
def LINE : Nat := 16777216
def tru : D → Option Bool
  | .none => some false
  | .bool b => some b
  | .int i => some (i != 0)
  | .str s => if s.length ≤ LINE then some ((s.length : Int) != 0) else none
  | .list xs => some (!xs.isEmpty)
  | .tuple xs => some (!xs.isEmpty)
  | .dict _ => none
def mulOk (i j : Int) : Bool := (decide (-(2 ^ 64) < i) && decide (i < 2 ^ 64)) || (decide (-(2 ^ 64) < j) && decide (j < 2 ^ 64))
def binD : Operator → D → D → Option RV
  | .Add, .int i, .int j => some (.v (.int (i + j)))
  | .Sub, .int i, .int j => some (.v (.int (i - j)))
  | .Mult, .int i, .int j => if mulOk i j then some (.v (.int (i * j))) else none
  | .FloorDiv, .int i, .int j => if 0 < j ∧ j.natAbs.log2 < 9000 then some (.v (.int (i / j))) else none
  | .Mod, .int i, .int j => if 0 < j then some (.v (.int (i % j))) else none
  | .Pow, .int i, .int j => if 0 ≤ j ∧ j ≤ 1000000 ∧ i.natAbs < 2 ^ 64 then some (.v (.int (i ^ j.toNat))) else none
  | .Add, .str x, .str y => if x.length + y.length ≤ LINE then some (.v (.str (x ++ y))) else none
  | .Add, .tuple xs, .tuple ys => if xs.length + ys.length ≤ LINE then some (.v (.tuple (xs ++ ys))) else none
  | .Add, .list xs, .list ys => if xs.length + ys.length ≤ LINE then some (.o (xs ++ ys)) else none
  | .Mult, .tuple xs, .int n => if xs ≠ [] ∧ 0 ≤ n ∧ n ≤ 1000 ∧ xs.length ≤ 1000 then some (.v (.tuple (List.replicate n.toNat xs).flatten)) else none
  | _, _, _ => none
/-- the data of a comparison: not both too deep -/
def cmpOk (x y : D) : Bool := decide (min x.depth y.depth ≤ 190)
def isNon : D → Bool
  | .none => true
  | _ => false
def cmpD : CmpOp → D → D → Option Bool
  | .Lt, .int i, .int j => some (decide (i < j))
  | .LtE, .int i, .int j => some (decide (i ≤ j))
  | .Gt, .int i, .int j => some (decide (j < i))
  | .GtE, .int i, .int j => some (decide (j ≤ i))
  | .Lt, .tuple xs, .tuple ys => if PySem.W.alikeAll xs ys && cmpOk (.tuple xs) (.tuple ys) then some (PySem.W.dataLt (.tuple xs) (.tuple ys)) else none
  | .Eq, x, y => if cmpOk x y then some (PyData.eqv x y) else none
  | .NotEq, x, y => if cmpOk x y then some (!PyData.eqv x y) else none
  | .In, x, .tuple ys => if cmpOk x (.tuple ys) then some (ys.any fun y => PyData.eqv y x) else none
  | .In, x, .list ys => if cmpOk x (.list ys) then some (ys.any fun y => PyData.eqv y x) else none
  | .NotIn, x, .tuple ys => if cmpOk x (.tuple ys) then some (!ys.any fun y => PyData.eqv y x) else none
  | .NotIn, x, .list ys => if cmpOk x (.list ys) then some (!ys.any fun y => PyData.eqv y x) else none
  | .Is, x, .none => some (isNon x)
  | .IsNot, x, .none => some (!isNon x)
  | .Is, .bool a, .bool b => some (decide (a = b))
  | .IsNot, .bool a, .bool b => some (!decide (a = b))
  | .In, .str x, .str y => (match x.cps.toList with
    | [c] => some (decide (c ∈ y.cps.toList))
    | _ => none)
  | _, _, _ => none
def tyN : D → Ty
  | .none => .non
  | .bool _ => .bool
  | .int _ => .int
  | .str _ => .str
  | .list _ => .list
  | .tuple _ => .tuple
  | .dict _ => .dict
def Ty.sub : Ty → Ty → Bool
  | .bool, .int => true
  | a, b => decide (a = b)
def isD (d : D) (cs : List Ty) : Bool := cs.any (Ty.sub (tyN d))
def idxD : D → D → Option D
  | .list xs, .int i => atI xs i
  | .tuple xs, .int i => atI xs i
  | _, _ => none
def cut {α : Type} (xs : List α) (lo hi : Option Int) : List α := (xs.drop (HT.sIx xs.length 0 lo)).take (HT.sIx xs.length xs.length hi - HT.sIx xs.length 0 lo)
def slcD : D → Option Int → Option Int → Option RV
  | .list xs, lo, hi => some (.o (cut xs lo hi))
  | .tuple xs, lo, hi => some (.v (.tuple (cut xs lo hi)))
  | _, _, _ => none
def intsOf : List D → Option (List Int)
  | [] => some []
  | .int i :: r => (intsOf r).map (i :: ·)
  | _ => none
def boolsOf : List D → Option (List Bool)
  | [] => some []
  | .bool b :: r => (boolsOf r).map (b :: ·)
  | _ => none
def itemsOf : D → Option (List D)
  | .list xs => some xs
  | .tuple xs => some xs
  | _ => none
def addNew (acc : List D) (d : D) : List D := if acc.any (fun x => PyData.eqv x d) then acc else acc ++ [d]
def dedup (xs : List D) : List D := xs.foldl addNew []
def maxI : List Int → Int
  | [] => 0
  | x :: r => r.foldl max x
def minI : List Int → Int
  | [] => 0
  | x :: r => r.foldl min x
def dedI (is : List Int) : List Int := is.foldl (fun acc n => if acc.any (· == n) then acc else acc ++ [n]) []
def rowsI : List D → Option (List (List Int))
  | [] => some []
  | .tuple xs :: r => match intsOf xs, rowsI r with
    | some is, some rs => some (is :: rs)
    | _, _ => none
  | _ => none
def rowD (r : List Int) : D := .tuple (r.map .int)
def ltL : List Int → List Int → Bool
  | x :: r, y :: s => decide (x < y) || (decide (x = y) && ltL r s)
  | _, _ => false
def insU (x : List Int) : List (List Int) → List (List Int)
  | [] => [x]
  | y :: r => if x = y then y :: r else if ltL x y = true then x :: y :: r else y :: insU x r
def sortU (rs : List (List Int)) : List (List Int) := rs.foldl (fun acc x => insU x acc) []
def evenRows (rs : List (List Int)) : Bool := match rs with
  | [] => true
  | r :: _ => decide (1 ≤ r.length) && rs.all fun q => decide (q.length = r.length) && q.all fun n => decide (0 ≤ n)
/-- sorted as the program's own data are -/
def sortD (xs : List D) : List D := xs.mergeSort (PySem.W.dataLe false id)
def alikeB (xs : List D) : Bool := xs.all fun x => !isNon x && xs.all fun y => PySem.W.alike x y
def tupsB (xs : List D) : Bool := xs.all fun x => match x with
  | .tuple (_ :: _) => decide (x.depth ≤ 100)
  | _ => false
def strF (s : Str) : List D := s.cps.toList.map fun c => .str ⟨#[c]⟩
def lenSetD : D → Option Int
  | .list xs => (intsOf xs).bind fun is => if is.length ≤ 4000 then some (dedI is).length else none
  | _ => none
def sortSetD (x : D) : Option (List D) := (itemsOf x).bind fun xs => (rowsI xs).bind fun rs => if rs.length < 64 ∧ evenRows rs = true then some ((sortU rs).map rowD) else none
def primD : Prim → List D → Option RV
  | .len, [.list xs] => some (.v (.int xs.length))
  | .len, [.tuple xs] => some (.v (.int xs.length))
  | .len, [.str s] => if s.length ≤ LINE then some (.v (.int s.length)) else none
  | .abs, [.int i] => some (.v (.int (if i < 0 then -i else i)))
  | .int, [.int i] => some (.v (.int i))
  | .int, [.bool b] => some (.v (.int (if b then 1 else 0)))
  | .tuple, [.list xs] => some (.v (.tuple xs))
  | .tuple, [.tuple xs] => some (.v (.tuple xs))
  | .list, [.list xs] => some (.o xs)
  | .list, [.tuple xs] => some (.o xs)
  | .sum, [x] => (itemsOf x).bind fun xs => (intsOf xs).map fun is => .v (.int is.sum)
  | .all, [.list xs] => (boolsOf xs).map fun bs => .v (.bool (bs.all id))
  | .any, [.list xs] => (boolsOf xs).map fun bs => .v (.bool (bs.any id))
  | .max1, [x] => (itemsOf x).bind fun xs => (intsOf xs).bind fun is => if is = [] then none else some (.v (.int (maxI is)))
  | .min1, [x] => (itemsOf x).bind fun xs => (intsOf xs).bind fun is => if is = [] then none else some (.v (.int (minI is)))
  | .max2, [.int i, .int j] => some (.v (.int (if j > i then j else i)))
  | .min2, [.int i, .int j] => some (.v (.int (if j < i then j else i)))
  | .sorted, [x] => (itemsOf x).bind fun xs => if alikeB xs && tupsB xs && decide (xs.length ≤ LINE) then some (.o (sortD xs)) else none
  | _, _ => none

/-! ### outcomes read -/
def rd (r : RV) (e : Fm) : Option D := match r with
  | .v d => some d
  | .o ds => some (.list ds)
  | .b i => match e[i]? with
    | some (.own _ ds) => some (.list ds)
    | some (.val d) => some d
    | _ => none
def rds : List RV → Fm → Option (List D)
  | [], _ => some []
  | r :: rs, e => match rd r e, rds rs e with
    | some d, some ds => some (d :: ds)
    | _, _ => none
/-- a value to be kept: a slot's own list is its own no more -/
def fz (r : RV) (e : Fm) : Option (D × Fm) := match r with
  | .v d => some (d, e)
  | .o ds => some (.list ds, e)
  | .b i => match e[i]? with
    | some (.own false ds) => some (.list ds, e.set i (.val (.list ds)))
    | some (.val d) => some (d, e)
    | _ => none
def fzs : List RV → Fm → Option (List D × Fm)
  | [], e => some ([], e)
  | r :: rs, e => match fz r e with
    | some (d, e1) => match fzs rs e1 with
      | some (ds, e2) => some (d :: ds, e2)
      | none => none
    | none => none
def keepS (r : RV) (e : Fm) : Option (Slot × Fm) := match r with
  | .o ds => some (.own false ds, e)
  | _ => match fz r e with
    | some (d, e1) => some (.val d, e1)
    | none => none
def storable : Option Slot → Bool
  | some (.own true _) => false
  | none => false
  | _ => true
def nrm : RV → RV
  | .o ds => .v (.list ds)
  | r => r
mutual
def nolist : D → Bool
  | .none => true
  | .bool _ => true
  | .int _ => true
  | .str _ => true
  | .list _ => false
  | .tuple xs => nolists xs
  | .dict _ => false
def nolists : List D → Bool
  | [] => true
  | x :: r => nolist x && nolists r
end
def nolistR : RV → Bool
  | .v d => nolist d
  | .o ds => nolists ds
  | .b _ => false

/-! ### calls -/
inductive Arg where
  | d (d : D)
  | io (ds : List D)
inductive CR where
  | ok (r : RV) (outs : List (List D))
  | rz (x : Xc) (outs : List (List D))
  | bad
abbrev CF := Str → List Arg → CR
def isOwnS : Option Slot → Bool
  | some (.own _ _) => true
  | _ => false
def lent (r : RV) (e : Fm) (bs : List Nat) : List Nat := match r with
  | .b i => if isOwnS e[i]? then i :: bs else bs
  | _ => bs
/-- arguments, the slots handed in to be changed, the slots lent -/
def mkArgs : List Bool → List RV → Fm → Option (List Arg × List Nat × List Nat)
  | [], [], _ => some ([], [], [])
  | true :: fl, .b i :: rs, e => match e[i]?, mkArgs fl rs e with
    | some (.own _ ds), some (as, is, bs) => some (.io ds :: as, i :: is, bs)
    | _, _ => none
  | false :: fl, r :: rs, e => match rd r e, mkArgs fl rs e with
    | some d, some (as, is, bs) => some (.d d :: as, is, lent r e bs)
    | _, _ => none
  | _, _, _ => none
def putOuts : List Nat → List (List D) → Fm → Fm
  | i :: is, ds :: outs, e => putOuts is outs (match e[i]? with
    | some (.own io _) => e.set i (.own io ds)
    | _ => e)
  | _, _, e => e
def noDup : List Nat → Bool
  | [] => true
  | i :: r => !r.contains i && noDup r
def doCall (cf : CF) (f : Str) (fl : List Bool) (rs : List RV) (e : Fm) : R Val := match mkArgs fl rs e with
  | some (as, is, bs) =>
    if noDup is && bs.all (fun b => !is.contains b) then
      match cf f as with
      | .ok r outs => if (bs.isEmpty || (nolistR r && outs.all nolists)) && outs.length == is.length then .ok (.rv r) (putOuts is outs e) else .bad
      | .rz x outs => if (bs.isEmpty || (nolists x.args && outs.all nolists)) && outs.length == is.length then .rz x (putOuts is outs e) else .bad
      | .bad => .bad
    else .bad
  | none => .bad

/-! ### targets, loops -/
mutual
def bindT : T → D → Fm → Option Fm
  | .tN i, d, e => match e[i]? with
    | some (.own true _) => none
    | some _ => some (e.set i (.val d))
    | none => none
  | .tT es, .tuple ds, e => bindTs es ds e
  | .tT es, .list ds, e => bindTs es ds e
  | _, _, _ => none
def bindTs : T → List D → Fm → Option Fm
  | .nil, [], e => some e
  | .cons t r, d :: ds, e => match bindT t d e with
    | some e1 => bindTs r ds e1
    | none => none
  | _, _, _ => none
end
def wipeS : List Nat → Fm → Fm
  | [], e => e
  | i :: r, e => (wipeS r e).set i .no
def backS (e0 : Fm) : List Nat → Fm → Fm
  | [], e => e
  | i :: r, e => (backS e0 r e).set i (e0.getD i .no)
/-- a comprehension's loop: the list so far; what a turn puts behind it -/
def cLoop (step : D → Fm → List D → R (List D)) : List D → Fm → List D → R (List D)
  | [], e, acc => .ok acc e
  | d :: ds, e, acc => match step d e acc with
    | .ok acc1 e1 => cLoop step ds e1 acc1
    | _ => .bad
def fLoop (step : D → Fm → R Val) : List D → Fm → R Val
  | [], e => .ok (.fl .nx) e
  | d :: ds, e => match step d e with
    | .ok (.fl .nx) e1 => fLoop step ds e1
    | .ok (.fl .cont) e1 => fLoop step ds e1
    | .ok (.fl .brk) e1 => .ok (.fl .nx) e1
    | .ok (.fl (.ret r)) e1 => .ok (.fl (.ret r)) e1
    | .rz x e1 => .rz x e1
    | _ => .bad
def wLoop (c : Fm → R Bool) (body : Fm → R Val) : Nat → Fm → R Val
  | 0, _ => .bad
  | n + 1, e => match c e with
    | .ok true e1 => (match body e1 with
      | .ok (.fl .nx) e2 => wLoop c body n e2
      | .ok (.fl .cont) e2 => wLoop c body n e2
      | .ok (.fl .brk) e2 => .ok (.fl .nx) e2
      | .ok (.fl (.ret r)) e2 => .ok (.fl (.ret r)) e2
      | .rz x e2 => .rz x e2
      | _ => .bad)
    | .ok false e1 => .ok (.fl .nx) e1
    | .rz x e1 => .rz x e1
    | .bad => .bad
def testR (m : R Val) : R Bool := m.rv fun r e => match rd r e with
  | some d => (match tru d with
    | some k => .ok k e
    | none => .bad)
  | none => .bad
def optR (o : Option RV) (e : Fm) : R Val := match o with
  | some r => .ok (.rv r) e
  | none => .bad
def partR (m : R Val) : R (Option Int) := m.rv fun r e => match rd r e with
  | some (.int i) => .ok (some i) e
  | _ => .bad
def iota (lo : Int) : Nat → List D
  | 0 => []
  | n + 1 => .int lo :: iota (lo + 1) n
def enumF (k : Int) : List D → List D
  | [] => []
  | d :: r => .tuple [.int k, d] :: enumF (k + 1) r
def zipF : List D → List D → List D
  | x :: r, y :: s => .tuple [x, y] :: zipF r s
  | _, _ => []
def WF : Nat := 1000000
/-- the element of a comprehension, put behind the list so far -/
def pushE (acc : List D) (m : R Val) : R (List D) := m.rv fun r e => match fz r e with
  | some (d, e1) => if acc.length < LINE then .ok (acc ++ [d]) e1 else .bad
  | none => .bad

def ev (cf : CF) : T → Fm → R Val
  | .var i, e => (match e[i]? with
    | some (.val d) => .ok (.rv (.v d)) e
    | some (.own _ _) => .ok (.rv (.b i)) e
    | _ => .bad)
  | .glo _ d, e => .ok (.rv (.v d)) e
  | .const d, e => .ok (.rv (.v d)) e
  | .bin op a b, e => (ev cf a e).rv fun ra e1 => (ev cf b e1).rv fun rb e2 => (match rd ra e2, rd rb e2 with
    | some x, some y => optR (binD op x y) e2
    | _, _ => .bad)
  | .neg a, e => (ev cf a e).rv fun ra e1 => (match rd ra e1 with
    | some (.int i) => .ok (.rv (.v (.int (-i)))) e1
    | _ => .bad)
  | .notT a, e => (testR (ev cf a e)).bnd fun k e1 => .ok (.rv (.v (.bool (!k)))) e1
  | .cmp op a b, e => (ev cf a e).rv fun ra e1 => (ev cf b e1).rv fun rb e2 => (match rd ra e2, rd rb e2 with
    | some x, some y => (match cmpD op x y with
      | some k => .ok (.rv (.v (.bool k))) e2
      | none => .bad)
    | _, _ => .bad)
  | .chain op op' a b c, e => (ev cf a e).rv fun ra e1 => (ev cf b e1).rv fun rb e2 => (match rd ra e2, rd rb e2 with
    | some x, some y => (match cmpD op x y with
      | some true => (ev cf c e2).rv fun rc e3 => (match rd rb e3, rd rc e3 with
        | some y', some z => (match cmpD op' y' z with
          | some k => .ok (.rv (.v (.bool k))) e3
          | none => .bad)
        | _, _ => .bad)
      | some false => .ok (.rv (.v (.bool false))) e2
      | none => .bad)
    | _, _ => .bad)
  | .one a, e => ev cf a e
  | .and a b, e => (ev cf a e).rv fun ra e1 => (match (rd ra e1).bind tru with
    | some true => ev cf b e1
    | some false => .ok (.rv ra) e1
    | none => .bad)
  | .or a b, e => (ev cf a e).rv fun ra e1 => (match (rd ra e1).bind tru with
    | some true => .ok (.rv ra) e1
    | some false => ev cf b e1
    | none => .bad)
  | .ite c a b, e => (testR (ev cf c e)).bnd fun k e1 => if k = true then ev cf a e1 else ev cf b e1
  | .call f fl as, e => (ev cf as e).rvs fun rs e1 => doCall cf f fl rs e1
  | .prim p as, e => (ev cf as e).rvs fun rs e1 => (match rds rs e1 with
    | some ds => optR (primD p ds) e1
    | none => .bad)
  | .isi a cs, e => (ev cf a e).rv fun ra e1 => (match rd ra e1 with
    | some d => .ok (.rv (.v (.bool (isD d cs)))) e1
    | none => .bad)
  | .lenSet a, e => (ev cf a e).rv fun ra e1 => (match (rd ra e1).bind lenSetD with
    | some n => .ok (.rv (.v (.int n))) e1
    | none => .bad)
  | .sortSet a, e => (ev cf a e).rv fun ra e1 => (match (rd ra e1).bind sortSetD with
    | some ds => .ok (.rv (.o ds)) e1
    | none => .bad)
  | .tup es, e => (ev cf es e).rvs fun rs e1 => (match fzs rs e1 with
    | some (ds, e2) => if ds.length ≤ LINE then .ok (.rv (.v (.tuple ds))) e2 else .bad
    | none => .bad)
  | .lst es, e => (ev cf es e).rvs fun rs e1 => (match fzs rs e1 with
    | some (ds, e2) => if ds.length ≤ LINE then .ok (.rv (.o ds)) e2 else .bad
    | none => .bad)
  | .lrep es b, e => (ev cf es e).rvs fun rs e1 => (match fzs rs e1 with
    | some (ds, e2) => if ds.length ≤ LINE then (ev cf b e2).rv fun rb e3 => (match rd rb e3 with
      | some (.int k) => if -(2 ^ 63) ≤ k ∧ k < 2 ^ 63 ∧ ds.length * k.toNat ≤ LINE then .ok (.rv (.o (List.replicate k.toNat ds).flatten)) e3 else .bad
      | _ => .bad) else .bad
    | none => .bad)
  | .idx a b, e => (ev cf a e).rv fun ra e1 => (ev cf b e1).rv fun rb e2 => (match rd ra e2, rd rb e2 with
    | some x, some y => (match idxD x y with
      | some d => .ok (.rv (.v d)) e2
      | none => .bad)
    | _, _ => .bad)
  | .slc a lo hi, e => (ev cf a e).rv fun ra e1 => (match lo with
    | .absent => .ok none e1
    | _ => partR (ev cf lo e1) : R (Option Int)).bnd fun i e2 => (match hi with
    | .absent => .ok none e2
    | _ => partR (ev cf hi e2) : R (Option Int)).bnd fun j e3 => (match rd ra e3 with
    | some x => optR (slcD x i j) e3
    | none => .bad)
  | .comp elt tg src cond own, e => (ev cf src e).dsk fun items e1 =>
    if own.any (fun i => isOwnS e1[i]?) then .bad else
    (match cLoop (fun d e2 acc => match bindT tg d (wipeS own e2) with
      | none => .bad
      | some e3 => ((match cond with
        | .absent => .ok true e3
        | _ => testR (ev cf cond e3)) : R Bool).bnd fun k e4 => if k = true then pushE acc (ev cf elt e4) else .ok acc e4) items e1 [] with
    | .ok acc e5 => .ok (.rv (.o acc)) (backS e1 own e5)
    | _ => .bad)
  | .comp2 elt tg src cond tg2 src2 cond2 own own2, e => (ev cf src e).dsk fun items e1 =>
    if own.any (fun i => isOwnS e1[i]?) then .bad else
    (match cLoop (fun d e2 acc => match bindT tg d (wipeS own e2) with
      | none => .bad
      | some e3 => ((match cond with
        | .absent => .ok true e3
        | _ => testR (ev cf cond e3)) : R Bool).bnd fun k e4 => if k = true then (ev cf src2 e4).dsk fun items2 e5 =>
            cLoop (fun d e6 acc => match bindT tg2 d (wipeS own2 e6) with
              | none => .bad
              | some e7 => ((match cond2 with
                | .absent => .ok true e7
                | _ => testR (ev cf cond2 e7)) : R Bool).bnd fun k e8 => if k = true then pushE acc (ev cf elt e8) else .ok acc e8) items2 e5 acc
          else .ok acc e4) items e1 [] with
    | .ok acc e5 => .ok (.rv (.o acc)) (backS e1 own e5)
    | _ => .bad)
  | .absent, _ => .bad
  | .nil, e => .ok (.rvs []) e
  | .cons a r, e => (ev cf a e).rv fun ra e1 => (ev cf r e1).rvs fun rs e2 => .ok (.rvs (nrm ra :: rs)) e2
  | .sSeq a, e => (ev cf a e).rv fun ra e1 => (match fz ra e1 with
    | some (.list xs, e2) => .ok (.ds xs) e2
    | some (.tuple xs, e2) => .ok (.ds xs) e2
    | _ => .bad)
  | .sR1 a, e => (ev cf a e).rv fun ra e1 => (match rd ra e1 with
    | some (.int n) => if -(2 ^ 62) ≤ n ∧ n < 2 ^ 62 then .ok (.ds (iota 0 n.toNat)) e1 else .bad
    | _ => .bad)
  | .sR2 a b, e => (ev cf a e).rv fun ra e1 => (ev cf b e1).rv fun rb e2 => (match rd ra e2, rd rb e2 with
    | some (.int m), some (.int n) => if -(2 ^ 62) ≤ m ∧ m < 2 ^ 62 ∧ -(2 ^ 62) ≤ n ∧ n < 2 ^ 62 then .ok (.ds (iota m (n - m).toNat)) e2 else .bad
    | _, _ => .bad)
  | .sZip a b, e => (ev cf a e).rv fun ra e1 => (ev cf b e1).rv fun rb e2 => (match fz ra e2 with
    | some (x, e3) => (match fz rb e3 with
      | some (y, e4) => (match itemsOf x, itemsOf y with
        | some xs, some ys => .ok (.ds (zipF xs ys)) e4
        | _, _ => .bad)
      | none => .bad)
    | none => .bad)
  | .sEnum a, e => (ev cf a e).rv fun ra e1 => (match fz ra e1 with
    | some (x, e2) => (match itemsOf x with
      | some xs => .ok (.ds (enumF 0 xs)) e2
      | none => .bad)
    | none => .bad)
  | .sStr a, e => (ev cf a e).rv fun ra e1 => (match rd ra e1 with
    | some (.str s) => .ok (.ds (strF s)) e1
    | _ => .bad)
  | .tN _, _ => .bad
  | .tT _, _ => .bad
  | .asg (.tN i) x, e => (ev cf x e).rv fun r e1 => (match e1[i]? with
    | some (.own true _) => .bad
    | none => .bad
    | some _ => (match r with
      | .o ds => .ok (.fl .nx) (e1.set i (.own false ds))
      | _ => (match fz r e1 with
        | some (d, e2) => .ok (.fl .nx) (e2.set i (.val d))
        | none => .bad)))
  | .asg tg x, e => (ev cf x e).rv fun r e1 => (match fz r e1 with
    | some (d, e2) => (match bindT tg d e2 with
      | some e3 => .ok (.fl .nx) e3
      | none => .bad)
    | none => .bad)
  | .par i j a b, e => (ev cf a e).rv fun ra e1 => (ev cf b e1).rv fun rb e2 => (match keepS ra e2 with
    | some (sa, e3) => (match keepS rb e3 with
      | some (sb, e4) => if storable e4[i]? && storable e4[j]? then .ok (.fl .nx) ((e4.set i sa).set j sb) else .bad
      | none => .bad)
    | none => .bad)
  | .par3 i j l a b c, e => (ev cf a e).rv fun ra e1 => (ev cf b e1).rv fun rb e2 => (ev cf c e2).rv fun rc e3 => (match ra, rb, rc with
    | .o x, .o y, .o z => if storable e3[i]? && storable e3[j]? && storable e3[l]? then .ok (.fl .nx) (((e3.set i (.own false x)).set j (.own false y)).set l (.own false z)) else .bad
    | _, _, _ => .bad)
  | .popE tk fd c i j r, e => (testR (ev cf c e)).bnd fun q e1 => (match e1[(if q = true then i else j)]?, e1[fd]? with
    | some (.own io (x :: xs)), some (.own io2 acc) => if storable e1[tk]? && decide (acc.length < LINE) then ev cf r (((e1.set tk .no).set (if q = true then i else j) (.own io xs)).set fd (.own io2 (acc ++ [x]))) else .bad
    | _, _ => .bad)
  | .ifS c a b, e => (testR (ev cf c e)).bnd fun k e1 => if k = true then ev cf a e1 else ev cf b e1
  | .forS tg src body, e => (ev cf src e).dsk fun items e1 => fLoop (fun d e2 => match bindT tg d e2 with
    | some e3 => ev cf body e3
    | none => .bad) items e1
  | .whileS c body, e => wLoop (fun e1 => testR (ev cf c e1)) (fun e1 => ev cf body e1) WF e
  | .ret x, e => (ev cf x e).rv fun r e1 => (match r with
    | .b i => (match e1[i]? with
      | some (.own false ds) => .ok (.fl (.ret (.o ds))) (e1.set i .no)
      | some (.val d) => .ok (.fl (.ret (.v d))) e1
      | _ => .bad)
    | _ => .ok (.fl (.ret r)) e1)
  | .expr x, e => (ev cf x e).rv fun _ e1 => .ok (.fl .nx) e1
  | .app i x, e => if isOwnS e[i]? then (ev cf x e).rv fun r e1 => (match fz r e1 with
    | some (d, e2) => (match e2[i]? with
      | some (.own io ds) => if ds.length < LINE then .ok (.fl .nx) (e2.set i (.own io (ds ++ [d]))) else .bad
      | _ => .bad)
    | none => .bad) else .bad
  | .ext i x, e => if isOwnS e[i]? then (ev cf x e).rv fun r e1 => (match r, e1[i]? with
    | .o es, some (.own io ds) => if ds.length + es.length ≤ LINE then .ok (.fl .nx) (e1.set i (.own io (ds ++ es))) else .bad
    | _, _ => .bad) else .bad
  | .setIx i ix x, e => (ev cf x e).rv fun r e1 => (match fz r e1 with
    | some (d, e2) => if isOwnS e2[i]? then (ev cf ix e2).rv fun ri e3 => (match rd ri e3, e3[i]? with
      | some (.int n), some (.own io ds) => (match ixN ds.length n with
        | some j => .ok (.fl .nx) (e3.set i (.own io (ds.set j d)))
        | none => .bad)
      | _, _ => .bad) else .bad
    | none => .bad)
  | .pop i a, e => if isOwnS e[i]? then (ev cf a e).rv fun r e1 => (match rd r e1, e1[i]? with
    | some (.int n), some (.own io ds) => (match ixN ds.length n with
      | some j => (match ds[j]? with
        | some d => if -(2 ^ 63) ≤ n ∧ n < 2 ^ 63 then .ok (.rv (.v d)) (e1.set i (.own io (ds.eraseIdx j))) else .bad
        | none => .bad)
      | none => .bad)
    | _, _ => .bad) else .bad
  | .never, _ => .bad
  | .brk, e => .ok (.fl .brk) e
  | .cont, e => .ok (.fl .cont) e
  | .pass, e => .ok (.fl .nx) e
  | .done, e => .ok (.fl .nx) e
  | .seq a b, e => (match ev cf a e with
    | .ok (.fl .nx) e1 => ev cf b e1
    | r => r)

/-! ### a table of functions -/
structure Fn where
  name : Str
  ns : List Str
  np : Nat
  fl : List Bool
  body : T
def startF (n : Nat) (as : List Arg) : Fm := as.map (fun a => match a with
  | .d d => Slot.val d
  | .io ds => Slot.own true ds) ++ List.replicate (n - as.length) Slot.no
/-- what stands in the slots handed in, behind the body -/
def outsF : List Bool → Nat → Fm → Option (List (List D))
  | [], _, _ => some []
  | true :: fl, i, e => match e[i]?, outsF fl (i + 1) e with
    | some (.own true ds), some r => some (ds :: r)
    | _, _ => none
  | false :: fl, i, e => outsF fl (i + 1) e
def argsFit : List Bool → List Arg → Bool
  | [], [] => true
  | true :: fl, .io _ :: as => argsFit fl as
  | false :: fl, .d _ :: as => argsFit fl as
  | _, _ => false
/-- a body's outcome, as the caller sees it -/
def endF (fl : List Bool) : R Val → CR
  | .ok (.fl (.ret (.v d))) e1 => (match outsF fl 0 e1 with
    | some outs => .ok (.v d) outs
    | none => .bad)
  | .ok (.fl (.ret (.o ds))) e1 => (match outsF fl 0 e1 with
    | some outs => .ok (.o ds) outs
    | none => .bad)
  | .ok (.fl .nx) e1 => (match outsF fl 0 e1 with
    | some outs => .ok (.v .none) outs
    | none => .bad)
  | .rz x e1 => (match outsF fl 0 e1 with
    | some outs => .rz x outs
    | none => .bad)
  | _ => .bad
def runF (tb : List Fn) : Nat → CF
  | 0, _, _ => .bad
  | k + 1, f, as => match tb.find? (fun fn => decide (fn.name = f)) with
    | none => .bad
    | some fn => if argsFit fn.fl as then endF fn.fl (ev (runF tb k) fn.body (startF fn.ns.length as)) else .bad
end L2.Mp
set_option Elab.async false
set_option linter.all false
set_option maxRecDepth 100000
set_option maxHeartbeats 4000000
namespace L2.Mp
open PySem PySem.Spec PyProof.Rows L2

/-! ### the kernel computes ev -/
example (cf : CF) (e : Fm) : ev cf (.bin .Add (.const (.int 2)) (.const (.int 3))) e = .ok (.rv (.v (.int 5))) e := rfl
/-! ### data read off a part of the abstract heap -/
theorem Rd.same {G G' : Hp} (s : Same G G') {a : Addr} {u : HO} (h : Rd G a u) : Rd G' a u := by
  rcases h with h | ⟨o, h⟩
  · exact .inl (s _ _ h)
  · exact .inr ⟨o, s _ _ h⟩
theorem SqL.same {K : PySem.W.Frag} {G G' : Hp} (s : Same G G') {a : Addr} {xs : List V} (h : SqL K G a xs) : SqL K G' a xs := by
  rcases h with h | h
  · exact .inl (Rd.same s h)
  · exact .inr h
theorem SqT.same {K : PySem.W.Frag} {G G' : Hp} (s : Same G G') {a : Addr} {xs : List V} (h : SqT K G a xs) : SqT K G' a xs := by
  rcases h with h | h
  · exact .inl (Rd.same s h)
  · exact .inr h
mutual
theorem Dp.same {K : PySem.W.Frag} {G G' : Hp} (s : Same G G') : ∀ (d : D) (v : V), Dp K G v d → Dp K G' v d
  | .none, _, h => by cases h; exact .non
  | .bool b, _, h => by cases h; exact .bl b
  | .int i, _, h => by cases h; exact .int i
  | .str x, _, h => by cases h; exact .str x
  | .list ds, _, h => by
    cases h with
    | lst hs ha => exact .lst (SqL.same s hs) (Dp.sameAll s ds _ ha)
  | .tuple ds, _, h => by
    cases h with
    | tup hs ha => exact .tup (SqT.same s hs) (Dp.sameAll s ds _ ha)
  | .dict _, _, h => by cases h
theorem Dp.sameAll {K : PySem.W.Frag} {G G' : Hp} (s : Same G G') : ∀ (ds : List D) (vs : List V), DpAll K G vs ds → DpAll K G' vs ds
  | [], _, h => by cases h; exact .nil
  | d :: ds, _, h => by
    cases h with
    | cons h1 h2 => exact .cons (Dp.same s d _ h1) (Dp.sameAll s ds _ h2)
end
theorem DpAll.length {K : PySem.W.Frag} {G : Hp} : ∀ {vs : List V} {ds : List D}, DpAll K G vs ds → vs.length = ds.length
  | _, _, .nil => rfl
  | _, _, .cons _ h => congrArg (· + 1) (DpAll.length h)
theorem DpAll.get {K : PySem.W.Frag} {G : Hp} : ∀ {vs : List V} {ds : List D} {i : Nat} {d : D}, DpAll K G vs ds → ds[i]? = some d → ∃ v, vs[i]? = some v ∧ Dp K G v d
  | v :: _, _ :: _, 0, d, .cons h _, e => by
    cases (Option.some.inj (show some _ = some d from e))
    exact ⟨v, rfl, h⟩
  | _ :: _, _ :: _, i + 1, d, .cons _ h, e => DpAll.get (i := i) h e
  | [], [], _, _, _, e => by simp at e
theorem DpAll.append {K : PySem.W.Frag} {G : Hp} : ∀ {vs us : List V} {ds es : List D}, DpAll K G vs ds → DpAll K G us es → DpAll K G (vs ++ us) (ds ++ es)
  | [], _, [], _, _, h => h
  | _ :: _, _, _ :: _, _, .cons h1 h2, h => .cons h1 (DpAll.append h2 h)
theorem DpAll.take {K : PySem.W.Frag} {G : Hp} : ∀ {vs : List V} {ds : List D} (n : Nat), DpAll K G vs ds → DpAll K G (vs.take n) (ds.take n)
  | _, _, 0, _ => .nil
  | [], [], _ + 1, _ => .nil
  | _ :: _, _ :: _, n + 1, .cons h1 h2 => .cons h1 (DpAll.take n h2)
theorem DpAll.drop {K : PySem.W.Frag} {G : Hp} : ∀ {vs : List V} {ds : List D} (n : Nat), DpAll K G vs ds → DpAll K G (vs.drop n) (ds.drop n)
  | _, _, 0, h => h
  | [], [], _ + 1, _ => .nil
  | _ :: _, _ :: _, n + 1, .cons h1 h2 => DpAll.drop n h2
theorem DpAll.set {K : PySem.W.Frag} {G : Hp} {v : V} {d : D} (hd : Dp K G v d) : ∀ {vs : List V} {ds : List D} (i : Nat), DpAll K G vs ds → DpAll K G (vs.set i v) (ds.set i d)
  | [], [], _, _ => .nil
  | _ :: _, _ :: _, 0, .cons h1 h2 => .cons hd h2
  | _ :: _, _ :: _, i + 1, .cons h1 h2 => .cons h1 (DpAll.set hd i h2)
theorem DpAll.rep {K : PySem.W.Frag} {G : Hp} {vs : List V} {ds : List D} (h : DpAll K G vs ds) : ∀ k : Nat, DpAll K G (List.replicate k vs).flatten (List.replicate k ds).flatten
  | 0 => .nil
  | k + 1 => by
    rw [List.replicate_succ, List.replicate_succ, List.flatten_cons, List.flatten_cons]
    exact DpAll.append h (DpAll.rep h k)
/-- without what is taken out (lists) nothing is lacking to data without lists -/
theorem Rd.less {G G' : Hp} (s : ∀ b o, G b = some o → G' b = some o ∨ ∃ xs, G b = some (.lst xs)) {a : Addr} {xs : List V} (h : Rd G a (.tup xs)) : Rd G' a (.tup xs) := by
  rcases h with h | ⟨o, h⟩
  · rcases s _ _ h with e | ⟨_, e⟩
    · exact .inl e
    · rw [h] at e; cases e
  · rcases s _ _ h with e | ⟨_, e⟩
    · exact .inr ⟨o, e⟩
    · rw [h] at e; cases e
mutual
theorem Dp.less {K : PySem.W.Frag} {G G' : Hp} (s : ∀ b o, G b = some o → G' b = some o ∨ ∃ xs, G b = some (.lst xs)) : ∀ (d : D) (v : V), nolist d = true → Dp K G v d → Dp K G' v d
  | .none, _, _, h => by cases h; exact .non
  | .bool b, _, _, h => by cases h; exact .bl b
  | .int i, _, _, h => by cases h; exact .int i
  | .str x, _, _, h => by cases h; exact .str x
  | .list ds, _, z, h => by simp [nolist] at z
  | .tuple ds, _, z, h => by
    cases h with
    | tup hs ha =>
      refine .tup ?_ (Dp.lessAll s ds _ (by simpa [nolist] using z) ha)
      rcases hs with hs | hs
      · exact .inl (Rd.less s hs)
      · exact .inr hs
  | .dict _, _, _, h => by cases h
theorem Dp.lessAll {K : PySem.W.Frag} {G G' : Hp} (s : ∀ b o, G b = some o → G' b = some o ∨ ∃ xs, G b = some (.lst xs)) : ∀ (ds : List D) (vs : List V), nolists ds = true → DpAll K G vs ds → DpAll K G' vs ds
  | [], _, _, h => by cases h; exact .nil
  | d :: ds, _, z, h => by
    cases h with
    | cons h1 h2 =>
      simp only [nolists, Bool.and_eq_true] at z
      exact .cons (Dp.less s d _ z.1 h1) (Dp.lessAll s ds _ z.2 h2)
end

/-! ### the frame and the heap -/
/-- F: foreign, G: told for good, H: the abstract heap; S: the slots at the entry -/
structure Rl (K : PySem.W.Frag) (F G H : Hp) (S σ : St) (e : Fm) : Prop where
  g : Same G H
  f : Same F H
  fg : ∀ b o, G b = some o → F b = none
  len : e.length = σ.length
  val : ∀ (i : Nat) (d : D), e[i]? = some (.val d) → ∃ v, σ[i]? = some (some v) ∧ Dp K G v d
  own : ∀ (i : Nat) (io : Bool) (ds : List D), e[i]? = some (.own io ds) → ∃ (a : Addr) (vs : List V), σ[i]? = some (some (.ref a)) ∧ H a = some (.lst vs) ∧ G a = none ∧ F a = none ∧ DpAll K G vs ds ∧ (io = true → S[i]? = some (some (.ref a)))
  inj : ∀ (i j : Nat) (io jo : Bool) (ds es : List D) (a : Addr), e[i]? = some (.own io ds) → e[j]? = some (.own jo es) → σ[i]? = some (some (.ref a)) → σ[j]? = some (some (.ref a)) → i = j
/-- no slot's own list stands at a -/
def NoOwn (σ : St) (e : Fm) (a : Addr) : Prop := ∀ (i : Nat) (io : Bool) (ds : List D), e[i]? = some (.own io ds) → σ[i]? ≠ some (some (.ref a))
def RvOk (K : PySem.W.Frag) (F G H : Hp) (σ : St) (e : Fm) (v : V) : RV → Prop
  | .v d => Dp K G v d
  | .o ds => ∃ (a : Addr) (vs : List V), v = .ref a ∧ H a = some (.lst vs) ∧ G a = none ∧ F a = none ∧ NoOwn σ e a ∧ DpAll K G vs ds
  | .b i => σ[i]? = some (some v)
theorem smUpd {G H : Hp} {a : Addr} {o : HO} (s : Same G H) (h : H a = some o) : Same (upd G a o) H := fun b u e => by
  by_cases hb : b = a
  · subst hb; rw [upd_same] at e; cases e; exact h
  · rw [upd_ne hb] at e; exact s b u e
theorem smUpdN {G : Hp} {a : Addr} {o : HO} (h : G a = none) : Same G (upd G a o) := fun b u e => by rw [upd_ne (ne_of_none e h)]; exact e
theorem smUpd2 {G H : Hp} {a : Addr} {o : HO} (s : Same G H) : Same (upd G a o) (upd H a o) := fun b u e => by
  by_cases hb : b = a
  · subst hb; rw [upd_same] at e ⊢; exact e
  · rw [upd_ne hb] at e ⊢; exact s b u e
theorem smNone {G H : Hp} (s : Same G H) {a : Addr} (h : H a = none) : G a = none := s.free h
section
variable {K : PySem.W.Frag} {F G H : Hp} {S σ : St} {e : Fm}
theorem Rl.ownNe (r : Rl K F G H S σ e) {p : Addr} (hp : H p = none) : NoOwn σ e p := fun i io ds he hs => by
  obtain ⟨a, vs, h1, h2, _⟩ := r.own i io ds he
  rw [hs] at h1
  cases h1
  rw [hp] at h2
  cases h2
/-- a new object, told for good -/
theorem Rl.newG (r : Rl K F G H S σ e) {p : Addr} {o : HO} (hp : H p = none) : Rl K F (upd G p o) (upd H p o) S σ e where
  g := smUpd2 r.g
  f := r.f.trans (smUpdN hp)
  fg := fun b u h => by
    by_cases hb : b = p
    · subst hb; exact smNone r.f hp
    · rw [upd_ne hb] at h; exact r.fg b u h
  len := r.len
  val := fun i d h => by
    obtain ⟨v, h1, h2⟩ := r.val i d h
    exact ⟨v, h1, Dp.same (smUpdN (smNone r.g hp)) _ _ h2⟩
  own := fun i io ds h => by
    obtain ⟨a, vs, h1, h2, h3, h4, h5, h6⟩ := r.own i io ds h
    have ne : a ≠ p := ne_of_none h2 hp
    exact ⟨a, vs, h1, by rw [upd_ne ne]; exact h2, by rw [upd_ne ne]; exact h3, h4, Dp.sameAll (smUpdN (smNone r.g hp)) _ _ h5, h6⟩
  inj := r.inj
/-- a new object, not told of -/
theorem Rl.newH (r : Rl K F G H S σ e) {p : Addr} {o : HO} (hp : H p = none) : Rl K F G (upd H p o) S σ e where
  g := r.g.trans (smUpdN hp)
  f := r.f.trans (smUpdN hp)
  fg := r.fg
  len := r.len
  val := r.val
  own := fun i io ds h => by
    obtain ⟨a, vs, h1, h2, h3, h4, h5, h6⟩ := r.own i io ds h
    exact ⟨a, vs, h1, by rw [upd_ne (ne_of_none h2 hp)]; exact h2, h3, h4, h5, h6⟩
  inj := r.inj
/-- a thing that nobody else knows is told for good -/
theorem Rl.tell (r : Rl K F G H S σ e) {a : Addr} {o : HO} (ha : H a = some o) (hg : G a = none) (hf : F a = none) (no : NoOwn σ e a) : Rl K F (upd G a o) H S σ e where
  g := smUpd r.g ha
  f := r.f
  fg := fun b u h => by
    by_cases hb : b = a
    · subst hb; exact hf
    · rw [upd_ne hb] at h; exact r.fg b u h
  len := r.len
  val := fun i d h => by
    obtain ⟨v, h1, h2⟩ := r.val i d h
    exact ⟨v, h1, Dp.same (smUpdN hg) _ _ h2⟩
  own := fun i io ds h => by
    obtain ⟨b, vs, h1, h2, h3, h4, h5, h6⟩ := r.own i io ds h
    have ne : b ≠ a := fun z => no i io ds h (by rw [← z]; exact h1)
    exact ⟨b, vs, h1, h2, by rw [upd_ne ne]; exact h3, h4, Dp.sameAll (smUpdN hg) _ _ h5, h6⟩
  inj := r.inj
/-- .. is held as foreign for a while -/
theorem Rl.hold (r : Rl K F G H S σ e) {a : Addr} {o : HO} (ha : H a = some o) (hg : G a = none) (no : NoOwn σ e a) : Rl K (upd F a o) G H S σ e where
  g := r.g
  f := smUpd r.f ha
  fg := fun b u h => by
    by_cases hb : b = a
    · subst hb; rw [hg] at h; cases h
    · rw [upd_ne hb]; exact r.fg b u h
  len := r.len
  val := r.val
  own := fun i io ds h => by
    obtain ⟨b, vs, h1, h2, h3, h4, h5, h6⟩ := r.own i io ds h
    have ne : b ≠ a := fun z => no i io ds h (by rw [← z]; exact h1)
    exact ⟨b, vs, h1, h2, h3, by rw [upd_ne ne]; exact h4, h5, h6⟩
  inj := r.inj
theorem Rl.drop (r : Rl K (upd F a o) G H S σ e) (hf : F a = none) : Rl K F G H S σ e ∧ H a = some o ∧ G a = none ∧ NoOwn σ e a := by
  refine ⟨⟨r.g, fun b u h => r.f b u (by rw [upd_ne (ne_of_none h hf)]; exact h), fun b u h => ?_, r.len, r.val, fun i io ds h => ?_, r.inj⟩, r.f a o upd_same, ?_, fun i io ds h hs => ?_⟩
  · have q := r.fg b u h
    by_cases hb : b = a
    · subst hb; exact hf
    · rw [upd_ne hb] at q; exact q
  · obtain ⟨b, vs, h1, h2, h3, h4, h5, h6⟩ := r.own i io ds h
    refine ⟨b, vs, h1, h2, h3, ?_, h5, h6⟩
    by_cases hb : b = a
    · subst hb; exact hf
    · rw [upd_ne hb] at h4; exact h4
  · cases q : G a with
    | none => rfl
    | some u =>
      have z := r.fg a u q
      rw [upd_same] at z
      cases z
  · obtain ⟨b, vs, h1, h2, h3, h4, h5, h6⟩ := r.own i io ds h
    rw [hs] at h1
    cases h1
    rw [upd_same] at h4
    cases h4
theorem get_set {α : Type} {l : List α} {i j : Nat} {x y : α} (h : (l.set i x)[j]? = some y) : (j = i ∧ y = x ∧ i < l.length) ∨ (j ≠ i ∧ l[j]? = some y) := by
  by_cases hj : i = j
  · subst hj
    by_cases hl : i < l.length
    · rw [List.getElem?_set_self hl] at h
      cases h
      exact .inl ⟨rfl, rfl, hl⟩
    · rw [List.getElem?_eq_none (by rw [List.length_set]; omega)] at h
      cases h
  · rw [List.getElem?_set_ne hj] at h
    exact .inr ⟨fun z => hj z.symm, h⟩
/-- a slot's own list is told for good -/
theorem Rl.freeze (r : Rl K F G H S σ e) {i : Nat} {io : Bool} {ds : List D} (h : e[i]? = some (.own io ds)) : ∃ a vs, σ[i]? = some (some (.ref a)) ∧ G a = none ∧ Rl K F (upd G a (.lst vs)) H S σ (e.set i (.val (.list ds))) ∧ Dp K (upd G a (.lst vs)) (.ref a) (.list ds) := by
  obtain ⟨a, vs, h1, h2, h3, h4, h5, h6⟩ := r.own i io ds h
  have hd : Dp K (upd G a (.lst vs)) (.ref a) (.list ds) := .lst (.inl (.inl upd_same)) (Dp.sameAll (smUpdN h3) _ _ h5)
  refine ⟨a, vs, h1, h3, ⟨smUpd r.g h2, r.f, fun b u q => ?_, by rw [List.length_set]; exact r.len, fun j d q => ?_, fun j jo es q => ?_, fun j k jo ko es fs b q1 q2 => ?_⟩, hd⟩
  · by_cases hb : b = a
    · subst hb; exact h4
    · rw [upd_ne hb] at q; exact r.fg b u q
  · rcases get_set q with ⟨rfl, z, _⟩ | ⟨_, q⟩
    · cases z
      exact ⟨_, h1, hd⟩
    · obtain ⟨v, q1, q2⟩ := r.val j d q
      exact ⟨v, q1, Dp.same (smUpdN h3) _ _ q2⟩
  · rcases get_set q with ⟨rfl, z, _⟩ | ⟨hj, q⟩
    · cases z
    · obtain ⟨b, us, q1, q2, q3, q4, q5, q6⟩ := r.own j jo es q
      have ne : b ≠ a := fun z => by
        subst z
        exact hj (r.inj j i jo io es ds b q h q1 h1)
      exact ⟨b, us, q1, q2, by rw [upd_ne ne]; exact q3, q4, Dp.sameAll (smUpdN h3) _ _ q5, q6⟩
  · rcases get_set q1 with ⟨rfl, z, _⟩ | ⟨_, q1⟩
    · cases z
    · rcases get_set q2 with ⟨rfl, z, _⟩ | ⟨_, q2⟩
      · cases z
      · exact r.inj j k jo ko es fs b q1 q2
/-- a value is stored -/
theorem Rl.setVal (r : Rl K F G H S σ e) {i : Nat} {v : V} {d : D} (hd : Dp K G v d) : Rl K F G H S (σ.set i (some v)) (e.set i (.val d)) where
  g := r.g
  f := r.f
  fg := r.fg
  len := by rw [List.length_set, List.length_set]; exact r.len
  val := fun j x h => by
    rcases get_set h with ⟨rfl, z, hl⟩ | ⟨hj, h⟩
    · cases z
      exact ⟨v, by rw [List.getElem?_set_self (by rw [← r.len]; exact hl)], hd⟩
    · rw [List.getElem?_set_ne (Ne.symm hj)]
      exact r.val j x h
  own := fun j jo es h => by
    rcases get_set h with ⟨rfl, z, hl⟩ | ⟨hj, h⟩
    · cases z
    · rw [List.getElem?_set_ne (Ne.symm hj)]
      exact r.own j jo es h
  inj := fun j k jo ko es fs b q1 q2 h1 h2 => by
    rcases get_set q1 with ⟨rfl, z, _⟩ | ⟨hj, q1⟩
    · cases z
    · rcases get_set q2 with ⟨rfl, z, _⟩ | ⟨hk, q2⟩
      · cases z
      · rw [List.getElem?_set_ne (Ne.symm hj)] at h1
        rw [List.getElem?_set_ne (Ne.symm hk)] at h2
        exact r.inj j k jo ko es fs b q1 q2 h1 h2
/-- a fresh list becomes a slot's own -/
theorem Rl.setOwn (r : Rl K F G H S σ e) {i : Nat} {a : Addr} {vs : List V} {ds : List D} (ha : H a = some (.lst vs)) (hg : G a = none) (hf : F a = none) (no : NoOwn σ e a) (hd : DpAll K G vs ds) :
    Rl K F G H S (σ.set i (some (.ref a))) (e.set i (.own false ds)) where
  g := r.g
  f := r.f
  fg := r.fg
  len := by rw [List.length_set, List.length_set]; exact r.len
  val := fun j x h => by
    rcases get_set h with ⟨rfl, z, hl⟩ | ⟨hj, h⟩
    · cases z
    · rw [List.getElem?_set_ne (Ne.symm hj)]
      exact r.val j x h
  own := fun j jo es h => by
    rcases get_set h with ⟨rfl, z, hl⟩ | ⟨hj, h⟩
    · cases z
      exact ⟨a, vs, by rw [List.getElem?_set_self (by rw [← r.len]; exact hl)], ha, hg, hf, hd, fun z => by cases z⟩
    · rw [List.getElem?_set_ne (Ne.symm hj)]
      exact r.own j jo es h
  inj := fun j k jo ko es fs b q1 q2 h1 h2 => by
    rcases get_set q1 with ⟨rfl, z, hl⟩ | ⟨hj, q1'⟩
    · rcases get_set q2 with ⟨rfl, z, _⟩ | ⟨hk, q2⟩
      · rfl
      · rw [List.getElem?_set_self (by rw [← r.len]; exact hl)] at h1
        cases h1
        rw [List.getElem?_set_ne (Ne.symm hk)] at h2
        exact absurd h2 (no k ko fs q2)
    · rw [List.getElem?_set_ne (Ne.symm hj)] at h1
      rcases get_set q2 with ⟨rfl, z, hl⟩ | ⟨hk, q2⟩
      · rw [List.getElem?_set_self (by rw [← r.len]; exact hl)] at h2
        cases h2
        exact absurd h1 (no j jo es q1')
      · rw [List.getElem?_set_ne (Ne.symm hk)] at h2
        exact r.inj j k jo ko es fs b q1' q2 h1 h2
/-- a slot's own list is changed -/
theorem Rl.putOwn (r : Rl K F G H S σ e) {i : Nat} {io : Bool} {a : Addr} {vs' : List V} {ds ds' : List D} (h : e[i]? = some (.own io ds)) (hs : σ[i]? = some (some (.ref a))) (hd : DpAll K G vs' ds') :
    Rl K F G (upd H a (.lst vs')) S σ (e.set i (.own io ds')) := by
  obtain ⟨a', vs, h1, h2, h3, h4, h5, h6⟩ := r.own i io ds h
  rw [hs] at h1
  cases h1
  refine ⟨fun b u q => ?_, fun b u q => ?_, r.fg, by rw [List.length_set]; exact r.len, fun j d q => ?_, fun j jo es q => ?_, fun j k jo ko es fs b q1 q2 => ?_⟩
  · rw [upd_ne (ne_of_none q h3)]; exact r.g b u q
  · rw [upd_ne (ne_of_none q h4)]; exact r.f b u q
  · rcases get_set q with ⟨rfl, z, _⟩ | ⟨_, q⟩
    · cases z
    · exact r.val j d q
  · rcases get_set q with ⟨rfl, z, _⟩ | ⟨hj, q⟩
    · cases z
      exact ⟨a, vs', hs, upd_same, h3, h4, hd, h6⟩
    · obtain ⟨b, us, q1, q2, q3, q4, q5, q6⟩ := r.own j jo es q
      have ne : b ≠ a := fun z => by
        subst z
        exact hj (r.inj j i jo io es ds b q h q1 hs)
      exact ⟨b, us, q1, by rw [upd_ne ne]; exact q2, q3, q4, q5, q6⟩
  · have key : ∀ {j : Nat} {jo : Bool} {es : List D}, (e.set i (.own io ds'))[j]? = some (.own jo es) → ∃ jo' es', e[j]? = some (.own jo' es') := fun {j jo es} q => by
      rcases get_set q with ⟨rfl, z, _⟩ | ⟨_, q⟩
      · exact ⟨_, _, h⟩
      · exact ⟨_, _, q⟩
    obtain ⟨_, _, p1⟩ := key q1
    obtain ⟨_, _, p2⟩ := key q2
    exact r.inj j k _ _ _ _ b p1 p2
/-- a slot forgotten -/
theorem Rl.forget (r : Rl K F G H S σ e) (i : Nat) : Rl K F G H S σ (e.set i .no) where
  g := r.g
  f := r.f
  fg := r.fg
  len := by rw [List.length_set]; exact r.len
  val := fun j x h => by
    rcases get_set h with ⟨rfl, z, hl⟩ | ⟨hj, h⟩
    · cases z
    · exact r.val j x h
  own := fun j jo es h => by
    rcases get_set h with ⟨rfl, z, hl⟩ | ⟨hj, h⟩
    · cases z
    · exact r.own j jo es h
  inj := fun j k jo ko es fs b q1 q2 h1 h2 => by
    rcases get_set q1 with ⟨rfl, z, _⟩ | ⟨hj, q1⟩
    · cases z
    · rcases get_set q2 with ⟨rfl, z, _⟩ | ⟨hk, q2⟩
      · cases z
      · exact r.inj j k jo ko es fs b q1 q2 h1 h2
end

/-! ### outcomes -/
/-- data read off the heap as it stands, its items off what is told for good -/
def Dq (K : PySem.W.Frag) (G H : Hp) (v : V) (d : D) : Prop := Dp K G v d ∨ ∃ (a : Addr) (vs : List V) (ds : List D), v = .ref a ∧ d = .list ds ∧ H a = some (.lst vs) ∧ DpAll K G vs ds
theorem Dq.dp {K : PySem.W.Frag} {G H : Hp} {v : V} {d : D} (h : Dq K G H v d) (s : Same G H) : Dp K H v d := by
  rcases h with h | ⟨a, vs, ds, rfl, rfl, h1, h2⟩
  · exact Dp.same s _ _ h
  · exact .lst (.inl (.inl h1)) (Dp.sameAll s _ _ h2)
section
variable {K : PySem.W.Frag} {F G H : Hp} {S σ : St} {e : Fm} {v : V} {r : RV}
theorem RvOk.nrm (h : RvOk K F G H σ e v r) (l : Rl K F G H S σ e) : ∃ G', Same G G' ∧ Rl K F G' H S σ e ∧ RvOk K F G' H σ e v (nrm r) := by
  cases r with
  | v d => exact ⟨G, Same.refl G, l, h⟩
  | b i => exact ⟨G, Same.refl G, l, h⟩
  | o ds =>
    obtain ⟨a, vs, rfl, h1, h2, h3, h4, h5⟩ := h
    exact ⟨upd G a (.lst vs), smUpdN h2, l.tell h1 h2 h3 h4, .lst (.inl (.inl upd_same)) (Dp.sameAll (smUpdN h2) _ _ h5)⟩
/-- a kept outcome, later on -/
theorem RvOk.later {G' H' : Hp} {e' : Fm} (h : RvOk K F G H σ e v (L2.Mp.nrm r)) (s : Same G G') : RvOk K F G' H' σ e' v (L2.Mp.nrm r) := by
  cases r with
  | v d => exact Dp.same s _ _ h
  | b i => exact h
  | o ds => exact Dp.same s _ _ h
theorem rd_nrm (r : RV) (e : Fm) : rd (nrm r) e = rd r e := by cases r <;> rfl
theorem RvOk.rd (h : RvOk K F G H σ e v (L2.Mp.nrm r)) (l : Rl K F G H S σ e) {d : D} (hr : L2.Mp.rd r e = some d) : Dq K G H v d := by
  cases r with
  | v x => cases hr; exact .inl h
  | o ds => cases hr; exact .inl h
  | b i =>
    have h : σ[i]? = some (some v) := h
    have hr : (match e[i]? with
      | some (.own _ ds) => some (.list ds)
      | some (.val d) => some d
      | _ => none) = some d := hr
    cases q : e[i]? with
    | none => rw [q] at hr; cases hr
    | some z =>
      rw [q] at hr
      cases z with
      | no => cases hr
      | val x =>
        cases hr
        obtain ⟨u, h1, h2⟩ := l.val i d q
        rw [h] at h1
        cases h1
        exact .inl h2
      | own io ds =>
        cases hr
        obtain ⟨a, vs, h1, h2, _, _, h5, _⟩ := l.own i io ds q
        rw [h] at h1
        cases h1
        exact .inr ⟨a, vs, ds, rfl, rfl, h2, h5⟩
theorem RvOk.fz (h : RvOk K F G H σ e v r) (l : Rl K F G H S σ e) {d : D} {e' : Fm} (hr : fz r e = some (d, e')) : ∃ G', Same G G' ∧ Rl K F G' H S σ e' ∧ Dp K G' v d := by
  cases r with
  | v x => cases hr; exact ⟨G, Same.refl G, l, h⟩
  | o ds =>
    cases hr
    obtain ⟨a, vs, rfl, h1, h2, h3, h4, h5⟩ := h
    exact ⟨upd G a (.lst vs), smUpdN h2, l.tell h1 h2 h3 h4, .lst (.inl (.inl upd_same)) (Dp.sameAll (smUpdN h2) _ _ h5)⟩
  | b i =>
    have h : σ[i]? = some (some v) := h
    have hr : (match e[i]? with
      | some (.own false ds) => some (PyData.list ds, e.set i (.val (.list ds)))
      | some (.val d) => some (d, e)
      | _ => none) = some (d, e') := hr
    cases q : e[i]? with
    | none => rw [q] at hr; cases hr
    | some z =>
      rw [q] at hr
      cases z with
      | no => cases hr
      | val x =>
        cases hr
        obtain ⟨u, h1, h2⟩ := l.val i d q
        rw [h] at h1
        cases h1
        exact ⟨G, Same.refl G, l, h2⟩
      | own io ds =>
        cases io with
        | true => cases hr
        | false =>
          cases hr
          obtain ⟨a, vs, h1, h2, h3, h4⟩ := l.freeze q
          rw [h] at h1
          cases h1
          exact ⟨_, smUpdN h2, h3, h4⟩
theorem fz_nrm (r : RV) (e : Fm) : fz (nrm r) e = fz r e := by cases r <;> rfl
end
def RvsOk (K : PySem.W.Frag) (F G H : Hp) (σ : St) (e : Fm) : List V → List RV → Prop
  | [], [] => True
  | v :: vs, r :: rs => RvOk K F G H σ e v (nrm r) ∧ RvsOk K F G H σ e vs rs
  | _, _ => False
theorem RvsOk.later {K : PySem.W.Frag} {F G H G' H' : Hp} {σ : St} {e e' : Fm} (s : Same G G') : ∀ {vs : List V} {rs : List RV}, RvsOk K F G H σ e vs rs → RvsOk K F G' H' σ e' vs rs
  | [], [], _ => trivial
  | _ :: _, _ :: _, ⟨h1, h2⟩ => ⟨h1.later s, RvsOk.later s h2⟩
def DqAll (K : PySem.W.Frag) (G H : Hp) : List V → List D → Prop
  | [], [] => True
  | v :: vs, d :: ds => Dq K G H v d ∧ DqAll K G H vs ds
  | _, _ => False
theorem RvsOk.rds {K : PySem.W.Frag} {F G H : Hp} {S σ : St} {e : Fm} (l : Rl K F G H S σ e) : ∀ {vs : List V} {rs : List RV} {ds : List D}, RvsOk K F G H σ e vs rs → rds rs e = some ds → DqAll K G H vs ds
  | [], [], ds, _, h => by cases h; trivial
  | v :: vs, r :: rs, ds, ⟨h1, h2⟩, h => by
    have h : (match rd r e, L2.Mp.rds rs e with
      | some d, some ds => some (d :: ds)
      | _, _ => none) = some ds := h
    cases q : rd r e with
    | none => rw [q] at h; cases h
    | some d =>
      cases q2 : L2.Mp.rds rs e with
      | none => rw [q, q2] at h; cases h
      | some ds' =>
        rw [q, q2] at h
        cases h
        exact ⟨h1.rd l q, RvsOk.rds l h2 q2⟩
  | [], _ :: _, _, h, _ => h.elim
  | _ :: _, [], _, h, _ => h.elim
theorem RvsOk.fzs {K : PySem.W.Frag} {F : Hp} {S σ : St} : ∀ {G H : Hp} {e e' : Fm} {vs : List V} {rs : List RV} {ds : List D}, Rl K F G H S σ e → RvsOk K F G H σ e vs rs → fzs rs e = some (ds, e') → ∃ G', Same G G' ∧ Rl K F G' H S σ e' ∧ DpAll K G' vs ds
  | G, H, e, e', [], [], ds, l, _, h => by cases h; exact ⟨G, Same.refl G, l, .nil⟩
  | G, H, e, e', v :: vs, r :: rs, ds, l, ⟨h1, h2⟩, h => by
    have h : (match fz r e with
      | some (d, e1) => (match L2.Mp.fzs rs e1 with
        | some (ds, e2) => some (d :: ds, e2)
        | none => none)
      | none => none) = some (ds, e') := h
    cases q : fz r e with
    | none => rw [q] at h; cases h
    | some p =>
      obtain ⟨d, e1⟩ := p
      rw [q] at h
      dsimp only at h
      cases q2 : L2.Mp.fzs rs e1 with
      | none => rw [q2] at h; cases h
      | some p2 =>
        obtain ⟨ds', e2⟩ := p2
        rw [q2] at h
        cases h
        obtain ⟨G1, s1, l1, d1⟩ := h1.fz l (by rw [fz_nrm]; exact q)
        obtain ⟨G2, s2, l2, d2⟩ := RvsOk.fzs l1 (RvsOk.later s1 h2) q2
        exact ⟨G2, s1.trans s2, l2, .cons (Dp.same s2 _ _ d1) d2⟩
  | _, _, _, _, [], _ :: _, _, _, h, _ => h.elim
  | _, _, _, _, _ :: _, [], _, _, h, _ => h.elim
end L2.Mp
set_option Elab.async false
set_option linter.all false
set_option maxRecDepth 100000
set_option maxHeartbeats 4000000
namespace L2.Mp
open PySem PySem.Spec PyProof.Rows L2

/-! ### the weakest readings -/
abbrev wxE (X : Cx) (x : Expr) : TE := fun σ H Q => ∀ pins s, Inv X pins σ H s → wpAny (model X.prog X.w) X.A (eval x X.env) (EP X pins σ Q) X.xe s
abbrev wxT (X : Cx) (x : Expr) : TT := fun σ H Q => ∀ pins s, Inv X pins σ H s → wpAny (model X.prog X.w) X.A (isTrue x X.env (eval x X.env)) (TP X pins σ Q) X.xe s
abbrev wxW (X : Cx) (x : Expr) : TT := fun σ H Q => ∀ (wh : Sem Value) pins s, Inv X pins σ H s → wpAny (model X.prog X.w) X.A (isTrue x X.env wh) (TP X pins σ Q) X.xe s
abbrev wxA (X : Cx) (es : List Expr) : TA := fun σ H Q => ∀ (pos : Pos) pins s, Inv X pins σ H s → wpAny (model X.prog X.w) X.A (spliced (backTo pos (starEach es X.env))) (AP X pins σ Q) X.xe s
abbrev wxI (X : Cx) (tg iter : Expr) : TI := fun σ H R => ∀ pins s, Inv X pins σ H s → wpAny (model X.prog X.w) X.A (eval iter X.env) (fun v s1 => wpAny (model X.prog X.w) X.A (pyIter v) (PIE X pins σ tg R) X.xe s1) X.xe s
abbrev wxS (X : Cx) (st : Stmt) : TS := fun D σ H => ∀ pins s, Inv X pins σ H s → wpAny (model X.prog X.w) X.A (exec st X.env) (SP X pins D) X.xe s
abbrev wxB (X : Cx) (st : List Stmt) : TS := fun D σ H => ∀ pins s, Inv X pins σ H s → wpAny (model X.prog X.w) X.A (execs st X.env) (SP X pins D) X.xe s
abbrev wxG (X : Cx) (tg : Expr) : TG := fun v σ H Q => ∀ pins s u, Inv X pins σ H s → RelV v u → wpAny (model X.prog X.w) X.A (assign tg X.env u) (fun _ s' => ∃ σ' H', Inv X pins σ' H' s' ∧ Q σ' H') X.xe s
abbrev wxGs (X : Cx) (ts : List Expr) : TGs := fun vs σ H Q => ∀ pins s us, Inv X pins σ H s → Vals vs us → wpAny (model X.prog X.w) X.A (assignInOrder ((assignEach ts X.env).map (·.2)) us) (fun _ s' => ∃ σ' H', Inv X pins σ' H' s' ∧ Q σ' H') X.xe s
section
variable {X : Cx} {x tg : Expr} {es : List Expr} {st : Stmt} {sts : List Stmt} {σ : St} {H : Hp}
theorem pe_w : PE X x (wxE X x) := ⟨fun pins s σ H Q I h => h pins s I⟩
theorem pt_w : PT X x (wxT X x) := ⟨fun pins s σ H Q I h => h pins s I⟩
theorem pw_w : PW X x (wxW X x) := ⟨fun wh pins s σ H Q I h => h wh pins s I⟩
theorem pa_w : PA X es (wxA X es) := ⟨fun pos pins s σ H Q I h => h pos pins s I⟩
theorem pi_w : PI X tg x (wxI X tg x) := ⟨fun pins s σ H Q I h => h pins s I⟩
theorem ps_w : PS X st (wxS X st) := ⟨fun pins s σ H Q I h => h pins s I⟩
theorem pss_w : PSs X sts (wxB X sts) := ⟨fun pins s σ H Q I h => h pins s I⟩
theorem pg_w : PG X tg (wxG X tg) := ⟨fun pins s σ H v u Q I r h => h pins s u I r⟩
theorem pgs_w : PGs X es (wxGs X es) := ⟨fun pins s σ H v u Q I r h => h pins s u I r⟩
theorem ofE {t : TE} {Q : VK} (h : PE X x t) (q : t σ H Q) : wxE X x σ H Q := fun pins s I => h.run pins s σ H Q I q
theorem ofT {t : TT} {Q : Bool → Hp → Prop} (h : PT X x t) (q : t σ H Q) : wxT X x σ H Q := fun pins s I => h.run pins s σ H Q I q
theorem ofW {t : TT} {Q : Bool → Hp → Prop} (h : PW X x t) (q : t σ H Q) : wxW X x σ H Q := fun wh pins s I => h.run wh pins s σ H Q I q
theorem ofA {t : TA} {Q : List V → Hp → Prop} (h : PA X es t) (q : t σ H Q) : wxA X es σ H Q := fun pos pins s I => h.run pos pins s σ H Q I q
theorem ofI {t : TI} {Q : It → Hp → Prop} (h : PI X tg x t) (q : t σ H Q) : wxI X tg x σ H Q := fun pins s I => h.run pins s σ H Q I q
theorem ofS {t : TS} {Q : Ends} (h : PS X st t) (q : t Q σ H) : wxS X st Q σ H := fun pins s I => h.run pins s σ H Q I q
theorem ofB {t : TS} {Q : Ends} (h : PSs X sts t) (q : t Q σ H) : wxB X sts Q σ H := fun pins s I => h.run pins s σ H Q I q
theorem ofG {t : TG} {v : V} {Q : St → Hp → Prop} (h : PG X tg t) (q : t v σ H Q) : wxG X tg v σ H Q := fun pins s u I r => h.run pins s σ H v u Q I r q
theorem ofGs {t : TGs} {v : List V} {Q : St → Hp → Prop} (h : PGs X es t) (q : t v σ H Q) : wxGs X es v σ H Q := fun pins s u I r => h.run pins s σ H v u Q I r q
end

/-- nothing of the module's own data is read as a list or a tuple -/
abbrev KZ : PySem.W.Frag := []
/-! ### what the functions promise -/
def ArgOk (K : PySem.W.Frag) (F G H : Hp) (v : V) : Arg → Prop
  | .d d => Dp K G v d
  | .io ds => ∃ (a : Addr) (vs : List V), v = .ref a ∧ H a = some (.lst vs) ∧ G a = none ∧ F a = none ∧ DpAll K G vs ds
def OutsOk (K : PySem.W.Frag) (G H : Hp) : List V → List Arg → List (List D) → Prop
  | v :: vs, .io _ :: as, ds :: outs => (∃ (a : Addr) (us : List V), v = .ref a ∧ H a = some (.lst us) ∧ G a = none ∧ DpAll K G us ds) ∧ OutsOk K G H vs as outs
  | _ :: vs, .d _ :: as, outs => OutsOk K G H vs as outs
  | [], [], [] => True
  | _, _, _ => False
/-- a is not among the lists handed in -/
def NotIo (vs : List V) (as : List Arg) (a : Addr) : Prop := ∀ (i : Nat) (ds : List D), as[i]? = some (.io ds) → vs[i]? ≠ some (.ref a)
def ResOk (K : PySem.W.Frag) (F G H : Hp) (vs : List V) (as : List Arg) (v : V) : RV → Prop
  | .v d => Dp K G v d
  | .o ds => ∃ (a : Addr) (us : List V), v = .ref a ∧ H a = some (.lst us) ∧ G a = none ∧ F a = none ∧ NotIo vs as a ∧ DpAll K G us ds
  | .b _ => False
def XcOk (mg : Str → Option Value) (K : PySem.W.Frag) (G H : Hp) (x : Xc) (cls : Value) (dd : Option Addr) : Prop :=
  ∃ C, mg x.cls = some (.ref C) ∧ cls = .ref C ∧ ∃ fs : List (Str × V), ((dd = none ∧ fs = []) ∨ ∃ dx, dd = some dx ∧ H dx = some (.xd fs)) ∧ DpAll K G (fs.map (·.2)) x.args
def CPost (mg : Str → Option Value) (K : PySem.W.Frag) (F G : Hp) (vs : List V) (as : List Arg) (Q : VK) (E : XK) : CR → Prop
  | .ok r outs => ∀ v H' G', Same G G' → Same G' H' → Same F H' → (∀ b o, G' b = some o → F b = none) → ResOk K F G' H' vs as v r → OutsOk K G' H' vs as outs → Q v H'
  | .rz x outs => ∀ cls dd H' G', Same G G' → Same G' H' → Same F H' → (∀ b o, G' b = some o → F b = none) → XcOk mg K G' H' x cls dd → OutsOk K G' H' vs as outs → E cls dd H'
  | .bad => False
def spF (mg : Str → Option Value) (K : PySem.W.Frag) (cf : CF) (f : Str) (np : Nat) : Sp := fun vs H Q E => vs.length = np ∧ ∃ (F G : Hp) (as : List Arg), Same G H ∧ Same F H ∧ (∀ b o, G b = some o → F b = none) ∧ Paired (ArgOk K F G H) vs as ∧
  (∀ (i j : Nat) (a : Addr) (ds es : List D), as[i]? = some (.io ds) → as[j]? = some (.io es) → vs[i]? = some (.ref a) → vs[j]? = some (.ref a) → i = j) ∧ CPost mg K F G vs as Q E (cf f as)
structure GbOk (P : Program) (w : World) (K : PySem.W.Frag) (mg : Str → Option Value) (base : Heap) (cf : CF) (k : Nat) (fns : List (Str × Nat)) (gl : List (Str × D)) (fr : List Str) : Prop where
  fn : ∀ f n, (f, n) ∈ fns → ∃ (a : Addr) (fd : FuncData) (ps : List Str), ps.length = n ∧ mg f = some (.ref a) ∧ PySem.W.keepIn K (.ref a) = true ∧ Binds K fd ps [] ∧ FnOk P w K mg base (L2.CX P w) k a fd ps (spF mg KZ cf f n)
  gl : ∀ x d, gl.lookup x = some d → ∃ v u, mg x = some u ∧ RelV v u ∧ ∀ G, Dp KZ G v d
  fr : ∀ x, x ∈ fr → mg x = none

/-! ### where one stands -/
structure Ct where
  fns : List (Str × Nat)
  gl : List (Str × D)
  fr : List Str
  N : List Str
  sc : Scope
structure XOk (c : Ct) (cf : CF) (k : Nat) (X : Cx) : Prop where
  N : X.N = c.N
  nd : c.N.Nodup
  calm : X.calm = true
  room : Room k X.A
  kind : X.env.scope.kind = .function
  sc : ∀ x q, c.sc.names.lookup x = some q → (q ≠ .free → X.env.scope.names.lookup x = some q) ∧ (q = .free → X.env.scope.names.lookup x = some .cell ∨ X.env.scope.names.lookup x = some .free)
  fnc : ∀ x, c.sc.names.lookup x = some .cell → X.fn x = true
  gb : GbOk X.prog X.w X.K X.mg X.base cf k c.fns c.gl c.fr
def visB (sc : Scope) (x : Str) : Bool := match sc.names.lookup x with
  | some .local => true
  | some .cell => true
  | some .free => true
  | _ => false
def locB (sc : Scope) (x : Str) : Bool := match sc.names.lookup x with
  | some .local => true
  | some .cell => true
  | _ => false
def gloB (sc : Scope) (x : Str) : Bool := match sc.names.lookup x with
  | some .globalImplicit => true
  | _ => false
section
variable {c : Ct} {cf : CF} {k : Nat} {X : Cx} {x : Str}
theorem XOk.vis (ok : XOk c cf k X) (h : visB c.sc x = true) : Vis X.env.scope x := by
  unfold visB at h
  cases q : c.sc.names.lookup x with
  | none => rw [q] at h; cases h
  | some z =>
    rw [q] at h
    obtain ⟨h1, h2⟩ := ok.sc x z q
    cases z with
    | «local» => exact .inl (h1 (by decide))
    | cell => exact .inr (.inl (h1 (by decide)))
    | free => exact .inr (h2 rfl)
    | _ => cases h
theorem XOk.loc (ok : XOk c cf k X) (h : locB c.sc x = true) : Loc X.env.scope x ∧ (X.fn x = true ∨ X.env.scope.names.lookup x = some .local) := by
  unfold locB at h
  cases q : c.sc.names.lookup x with
  | none => rw [q] at h; cases h
  | some z =>
    rw [q] at h
    obtain ⟨h1, h2⟩ := ok.sc x z q
    cases z with
    | «local» => exact ⟨.inl (h1 (by decide)), .inr (h1 (by decide))⟩
    | cell => exact ⟨.inr (h1 (by decide)), .inl (ok.fnc x q)⟩
    | _ => cases h
theorem XOk.glo (ok : XOk c cf k X) (h : gloB c.sc x = true) : Gl X x := by
  unfold gloB at h
  cases q : c.sc.names.lookup x with
  | none => rw [q] at h; cases h
  | some z =>
    rw [q] at h
    cases z with
    | globalImplicit => exact (ok.sc x _ q).1 (by decide)
    | _ => cases h
theorem XOk.at (ok : XOk c cf k X) {i : Nat} (h : c.N[i]? = some x) : X.N[i]? = some x := by rw [ok.N]; exact h
theorem XOk.nd' (ok : XOk c cf k X) : X.N.Nodup := by rw [ok.N]; exact ok.nd
end

/-! ### what is asked of an outcome -/
structure Pp (β : Type) where
  ok : Hp → β → Fm → Prop
  mono : ∀ {G G' : Hp} {b : β} {e : Fm}, Same G G' → ok G b e → ok G' b e
def Po (X : Cx) (F : Hp) (S : St) (W : WX) {β : Type} (p : Pp β) (G : Hp) : R β → Prop
  | .ok b e => p.ok G b e
  | .rz x e => ∀ cls dd σ H' G', Same G G' → Rl KZ F G' H' S σ e → XcOk X.mg KZ G' H' x cls dd → W cls dd σ H'
  | .bad => False
section
variable {X : Cx} {F G G' H : Hp} {S σ : St} {W : WX} {β : Type} {p : Pp β} {r : R β}
theorem Po.mono (s : Same G G') (h : Po X F S W p G r) : Po X F S W p G' r := by
  cases r with
  | ok b e => exact p.mono s h
  | rz x e => exact fun cls dd σ H' G2 s2 => h cls dd σ H' G2 (s.trans s2)
  | bad => exact h
end
def pE (X : Cx) (F : Hp) (S σ : St) (Q : VK) : Pp Val where
  ok := fun G v e => match v with
    | .rv r => ∀ u H' G', Same G G' → Rl KZ F G' H' S σ e → RvOk KZ F G' H' σ e u r → Q u H'
    | _ => False
  mono := fun {G G' v e} s h => by
    cases v with
    | rv r => exact fun u H' G2 s2 => h u H' G2 (s.trans s2)
    | _ => exact h
def pA (X : Cx) (F : Hp) (S σ : St) (Q : List V → Hp → Prop) : Pp Val where
  ok := fun G v e => match v with
    | .rvs r => ∀ u H' G', Same G G' → Rl KZ F G' H' S σ e → RvsOk KZ F G' H' σ e u r → Q u H'
    | _ => False
  mono := fun {G G' v e} s h => by
    cases v with
    | rvs r => exact fun u H' G2 s2 => h u H' G2 (s.trans s2)
    | _ => exact h
def pT (X : Cx) (F : Hp) (S σ : St) {α : Type} (Q : α → Hp → Prop) : Pp α where
  ok := fun G b e => ∀ H' G', Same G G' → Rl KZ F G' H' S σ e → Q b H'
  mono := fun {G G' v e} s h H' G2 s2 => h H' G2 (s.trans s2)
/-- an iterator that yields these data -/
def ItD (K : PySem.W.Frag) (G : Hp) (J : It) (items : List D) : Prop := ∀ G1 H1, Same G G1 → Same G1 H1 → (∀ i, i < items.length → J.go i H1) ∧ J.stop items.length H1 ∧
  ∀ (i : Nat) d x H2, items[i]? = some d → J.yld i H1 x H2 → (H2 = H1 ∧ Dp K G1 x d) ∨ ∃ (T : Addr) (xs : List V) (ds : List D), x = .ref T ∧ d = .tuple ds ∧ H1 T = none ∧ H2 = upd H1 T (.tup xs) ∧ DpAll K G1 xs ds
def pI (X : Cx) (F : Hp) (S σ : St) (Q : It → Hp → Prop) : Pp Val where
  ok := fun G v e => match v with
    | .ds items => ∀ J H' G', Same G G' → Rl KZ F G' H' S σ e → ItD KZ G' J items → Q J H'
    | _ => False
  mono := fun {G G' v e} s h => by
    cases v with
    | ds r => exact fun u H' G2 s2 => h u H' G2 (s.trans s2)
    | _ => exact h
def pS (X : Cx) (F : Hp) (S : St) (E : Ends) : Pp Val where
  ok := fun G v e => match v with
    | .fl .nx => ∀ σ H' G', Same G G' → Rl KZ F G' H' S σ e → E.nx σ H'
    | .fl .brk => ∀ σ H' G', Same G G' → Rl KZ F G' H' S σ e → E.bk σ H'
    | .fl .cont => ∀ σ H' G', Same G G' → Rl KZ F G' H' S σ e → E.ct σ H'
    | .fl (.ret r) => ∀ σ u H' G', Same G G' → Rl KZ F G' H' S σ e → RvOk KZ F G' H' σ e u r → E.rt u H'
    | _ => False
  mono := fun {G G' v e} s h => by
    cases v with
    | fl f => cases f with
      | ret r => exact fun σ u H' G2 s2 => h σ u H' G2 (s.trans s2)
      | _ => exact fun σ H' G2 s2 => h σ H' G2 (s.trans s2)
    | _ => exact h

/-! ### good pieces -/
def GoodE (c : Ct) (cf : CF) (k : Nat) (t : T) (x : Expr) : Prop := ∀ X, XOk c cf k X → ∀ F G H S σ e Q W, Takes X W → Rl KZ F G H S σ e → Po X F S W (pE X F S σ Q) G (ev cf t e) → wxE X x σ H Q
def GoodT (c : Ct) (cf : CF) (k : Nat) (t : T) (x : Expr) : Prop := ∀ X, XOk c cf k X → ∀ F G H S σ e Q W, Takes X W → Rl KZ F G H S σ e → Po X F S W (pT X F S σ Q) G (testR (ev cf t e)) → wxT X x σ H Q
def GoodW (c : Ct) (cf : CF) (k : Nat) (t : T) (x : Expr) : Prop := ∀ X, XOk c cf k X → ∀ F G H S σ e Q W, Takes X W → Rl KZ F G H S σ e → Po X F S W (pT X F S σ Q) G (testR (ev cf t e)) → wxW X x σ H Q
def GoodL (c : Ct) (cf : CF) (k : Nat) (t : T) (xs : List Expr) : Prop := ∀ X, XOk c cf k X → ∀ F G H S σ e Q W, Takes X W → Rl KZ F G H S σ e → Po X F S W (pA X F S σ Q) G (ev cf t e) → wxA X xs σ H Q
def GoodI (c : Ct) (cf : CF) (k : Nat) (t : T) (tg x : Expr) : Prop := ∀ X, XOk c cf k X → ∀ F G H S σ e Q W, Takes X W → Rl KZ F G H S σ e → Po X F S W (pI X F S σ Q) G (ev cf t e) → wxI X tg x σ H Q
/-- statements: exceptions are noted by the frame -/
def GoodS (c : Ct) (cf : CF) (k : Nat) (t : T) (st : Stmt) : Prop := ∀ X, XOk c cf k X → PassesOwn (model X.prog X.w) X.A X.env X.xe → ∀ F G H S σ e E W, Takes X W → Rl KZ F G H S σ e → Po X F S W (pS X F S E) G (ev cf t e) → wxS X st E σ H
def GoodB (c : Ct) (cf : CF) (k : Nat) (t : T) (st : List Stmt) : Prop := ∀ X, XOk c cf k X → PassesOwn (model X.prog X.w) X.A X.env X.xe → ∀ F G H S σ e E W, Takes X W → Rl KZ F G H S σ e → Po X F S W (pS X F S E) G (ev cf t e) → wxB X st E σ H
/-- the names that a target stores -/
def idxs : T → List Nat
  | .tN i => [i]
  | .tT es => idxs es
  | .cons a r => idxs a ++ idxs r
  | _ => []
def Apart (vs : List Nat) (σ σ' : St) : Prop := σ'.length = σ.length ∧ ∀ i, i ∉ vs → σ'[i]? = σ[i]?
def GoodG (c : Ct) (cf : CF) (k : Nat) (t : T) (tg : Expr) : Prop := ∀ X, XOk c cf k X → ∀ F G H S σ e v d e' (Q : St → Hp → Prop), Rl KZ F G H S σ e → Dp KZ G v d → bindT t d e = some e' → (∀ σ', Apart (idxs t) σ σ' → Rl KZ F G H S σ' e' → Q σ' H) → wxG X tg v σ H Q
def GoodGs (c : Ct) (cf : CF) (k : Nat) (t : T) (tgs : List Expr) : Prop := ∀ X, XOk c cf k X → ∀ F G H S σ e vs ds e' (Q : St → Hp → Prop), Rl KZ F G H S σ e → DpAll KZ G vs ds → bindTs t ds e = some e' → (∀ σ', Apart (idxs t) σ σ' → Rl KZ F G H S σ' e' → Q σ' H) → wxGs X tgs vs σ H Q

section
variable {c : Ct} {cf : CF} {k : Nat} {t a b : T} {x y : Expr} {X : Cx} {F G H : Hp} {S σ : St} {e : Fm} {W : WX} {β : Type} {p : Pp β}
theorem rvE (h : GoodE c cf k t x) (ok : XOk c cf k X) (tk : Takes X W) (l : Rl KZ F G H S σ e) {kk : RV → Fm → R β} (hp : Po X F S W p G ((ev cf t e).rv kk)) {Q : VK}
    (hk : ∀ r e1 v H1 G1, Same G G1 → Rl KZ F G1 H1 S σ e1 → RvOk KZ F G1 H1 σ e1 v r → Po X F S W p G1 (kk r e1) → Q v H1) : wxE X x σ H Q := by
  refine h X ok F G H S σ e Q W tk l ?_
  cases q : ev cf t e with
  | bad => rw [q] at hp; exact hp
  | rz z e1 => rw [q] at hp; exact hp
  | ok v e1 =>
    rw [q] at hp
    cases v with
    | rv r => exact fun u H' G' s l' r' => hk r e1 u H' G' s l' r' (Po.mono s hp)
    | _ => exact hp
theorem bndT (h : GoodT c cf k t x) (ok : XOk c cf k X) (tk : Takes X W) (l : Rl KZ F G H S σ e) {kk : Bool → Fm → R β} (hp : Po X F S W p G ((testR (ev cf t e)).bnd kk)) {Q : Bool → Hp → Prop}
    (hk : ∀ r e1 H1 G1, Same G G1 → Rl KZ F G1 H1 S σ e1 → Po X F S W p G1 (kk r e1) → Q r H1) : wxT X x σ H Q := by
  refine h X ok F G H S σ e Q W tk l ?_
  cases q : testR (ev cf t e) with
  | bad => rw [q] at hp; exact hp
  | rz z e1 => rw [q] at hp; exact hp
  | ok r e1 =>
    rw [q] at hp
    exact fun H' G' s l' => hk r e1 H' G' s l' (Po.mono s hp)
theorem rvsL {xs : List Expr} (h : GoodL c cf k t xs) (ok : XOk c cf k X) (tk : Takes X W) (l : Rl KZ F G H S σ e) {kk : List RV → Fm → R β} (hp : Po X F S W p G ((ev cf t e).rvs kk)) {Q : List V → Hp → Prop}
    (hk : ∀ r e1 v H1 G1, Same G G1 → Rl KZ F G1 H1 S σ e1 → RvsOk KZ F G1 H1 σ e1 v r → Po X F S W p G1 (kk r e1) → Q v H1) : wxA X xs σ H Q := by
  refine h X ok F G H S σ e Q W tk l ?_
  cases q : ev cf t e with
  | bad => rw [q] at hp; exact hp
  | rz z e1 => rw [q] at hp; exact hp
  | ok v e1 =>
    rw [q] at hp
    cases v with
    | rvs r => exact fun u H' G' s l' r' => hk r e1 u H' G' s l' r' (Po.mono s hp)
    | _ => exact hp
theorem dsI {tg : Expr} (h : GoodI c cf k t tg x) (ok : XOk c cf k X) (tk : Takes X W) (l : Rl KZ F G H S σ e) {kk : List D → Fm → R β} (hp : Po X F S W p G ((ev cf t e).dsk kk)) {Q : It → Hp → Prop}
    (hk : ∀ r e1 J H1 G1, Same G G1 → Rl KZ F G1 H1 S σ e1 → ItD KZ G1 J r → Po X F S W p G1 (kk r e1) → Q J H1) : wxI X tg x σ H Q := by
  refine h X ok F G H S σ e Q W tk l ?_
  cases q : ev cf t e with
  | bad => rw [q] at hp; exact hp
  | rz z e1 => rw [q] at hp; exact hp
  | ok v e1 =>
    rw [q] at hp
    cases v with
    | ds r => exact fun u H' G' s l' r' => hk r e1 u H' G' s l' r' (Po.mono s hp)
    | _ => exact hp
/-- two in a row -/
theorem rvE2 (ha : GoodE c cf k a x) (hb : GoodE c cf k b y) (ok : XOk c cf k X) (tk : Takes X W) (l : Rl KZ F G H S σ e) {kk : RV → RV → Fm → R β}
    (hp : Po X F S W p G ((ev cf a e).rv fun ra e1 => (ev cf b e1).rv fun rb e2 => kk ra rb e2)) {Q : V → V → Hp → Prop}
    (hk : ∀ ra rb e2 v u H2 G2, Same G G2 → Rl KZ F G2 H2 S σ e2 → RvOk KZ F G2 H2 σ e2 v (nrm ra) → RvOk KZ F G2 H2 σ e2 u (nrm rb) → Po X F S W p G2 (kk ra rb e2) → Q v u H2) :
    wxE X x σ H fun v H1 => wxE X y σ H1 fun u H2 => Q v u H2 := by
  refine rvE ha ok tk l hp fun ra e1 v H1 G1 s1 l1 r1 hp1 => ?_
  obtain ⟨G1', s1', l1', r1'⟩ := r1.nrm l1
  refine rvE hb ok tk l1' (Po.mono s1' hp1) fun rb e2 u H2 G2 s2 l2 r2 hp2 => ?_
  obtain ⟨G2', s2', l2', r2'⟩ := r2.nrm l2
  exact hk ra rb e2 v u H2 G2' (s1.trans (s1'.trans (s2.trans s2'))) l2' (r1'.later (s2.trans s2')) r2' (Po.mono s2' hp2)
end
end L2.Mp
set_option Elab.async false
set_option linter.all false
set_option maxRecDepth 100000
set_option maxHeartbeats 4000000
namespace L2.Mp
open PySem PySem.Spec PyProof.Rows L2

theorem line_eq : LINE = sizeLine := sizeLine_eq.symm
theorem rd_of {H : Hp} {a : Addr} {xs : List V} (h : SqL KZ H a xs) : Rd H a (.lst xs) := by
  rcases h with h | ⟨o, its, n, h, _⟩
  · exact h
  · cases h
theorem rt_of {H : Hp} {a : Addr} {xs : List V} (h : SqT KZ H a xs) : Rd H a (.tup xs) := by
  rcases h with h | ⟨o, its, n, h, _⟩
  · exact h
  · cases h
mutual
theorem toK {K : PySem.W.Frag} {H : Hp} : ∀ (d : D) (v : V), Dp KZ H v d → Dp K H v d
  | .none, _, h => by cases h; exact .non
  | .bool b, _, h => by cases h; exact .bl b
  | .int i, _, h => by cases h; exact .int i
  | .str x, _, h => by cases h; exact .str x
  | .list ds, _, h => by
    cases h with
    | lst hs ha => exact .lst (.inl (rd_of hs)) (toKs ds _ ha)
  | .tuple ds, _, h => by
    cases h with
    | tup hs ha => exact .tup (.inl (rt_of hs)) (toKs ds _ ha)
  | .dict _, _, h => by cases h
theorem toKs {K : PySem.W.Frag} {H : Hp} : ∀ (ds : List D) (vs : List V), DpAll KZ H vs ds → DpAll K H vs ds
  | [], _, h => by cases h; exact .nil
  | d :: ds, _, h => by
    cases h with
    | cons h1 h2 => exact .cons (toK d _ h1) (toKs ds _ h2)
end
mutual
theorem plain_dp {K : PySem.W.Frag} {H : Hp} : ∀ (d : D) (v : V), Dp K H v d → d.plain = true
  | .none, _, h => rfl
  | .bool b, _, h => rfl
  | .int i, _, h => rfl
  | .str x, _, h => rfl
  | .list ds, _, h => by
    cases h with
    | lst hs ha => exact plain_dps ds _ ha
  | .tuple ds, _, h => by
    cases h with
    | tup hs ha => exact plain_dps ds _ ha
  | .dict _, _, h => by cases h
theorem plain_dps {K : PySem.W.Frag} {H : Hp} : ∀ (ds : List D) (vs : List V), DpAll K H vs ds → PyData.plainAll ds = true
  | [], _, h => rfl
  | d :: ds, _, h => by
    cases h with
    | cons h1 h2 =>
      show (d.plain && PyData.plainAll ds) = true
      rw [plain_dp d _ h1, plain_dps ds _ h2]
      rfl
end
section
variable {G H : Hp} {v : V}
theorem Dq.int {i : Int} (h : Dq KZ G H v (.int i)) : v = .int i := by
  rcases h with h | ⟨_, _, _, _, e, _⟩
  · cases h; rfl
  · cases e
theorem Dq.bl {b : Bool} (h : Dq KZ G H v (.bool b)) : v = .bl b := by
  rcases h with h | ⟨_, _, _, _, e, _⟩
  · cases h; rfl
  · cases e
theorem Dq.str {x : Str} (h : Dq KZ G H v (.str x)) : v = .str x := by
  rcases h with h | ⟨_, _, _, _, e, _⟩
  · cases h; rfl
  · cases e
theorem Dq.non (h : Dq KZ G H v .none) : v = .non := by
  rcases h with h | ⟨_, _, _, _, e, _⟩
  · cases h; rfl
  · cases e
theorem Dq.tup {ds : List D} (h : Dq KZ G H v (.tuple ds)) : ∃ a vs, v = .ref a ∧ Rd G a (.tup vs) ∧ DpAll KZ G vs ds := by
  rcases h with h | ⟨_, _, _, _, e, _⟩
  · cases h with
    | tup h1 h2 => exact ⟨_, _, rfl, rt_of h1, h2⟩
  · cases e
theorem Dq.lst {ds : List D} (h : Dq KZ G H v (.list ds)) (s : Same G H) : ∃ a vs, v = .ref a ∧ Rd H a (.lst vs) ∧ DpAll KZ G vs ds := by
  rcases h with h | ⟨a, vs, es, e0, e, h1, h2⟩
  · cases h with
    | lst h1 h2 => exact ⟨_, _, rfl, Rd.same s (rd_of h1), h2⟩
  · cases e
    exact ⟨a, vs, e0, .inl h1, h2⟩
end

/-! ### operators by values -/
def oOp (X : Cx) (f : Value → Value → Sem Value) : R2 := fun x y H Q => ∀ pins s σ v u, Inv X pins σ H s → RelV x v → RelV y u → wpAny (model X.prog X.w) X.A (f v u) (EP X pins σ Q) X.xe s
theorem oOp_ok {X : Cx} {f : Value → Value → Sem Value} : OpR X f (oOp X f) := fun pins s σ H x y v u Q I rx ry h => h pins s σ v u I rx ry
theorem oOp_of {X : Cx} {f : Value → Value → Sem Value} {r : R2} (h : OpR X f r) {x y : V} {H : Hp} {Q : VK} (q : r x y H Q) : oOp X f x y H Q := fun pins s σ v u I rx ry => h pins s σ H x y v u Q I rx ry q
theorem rd_lst {P : Program} {w : World} {H : Hp} {h : Heap} {a : Addr} {xs : List V} (r : Rd H a (.lst xs)) (x : HOk P w H h) : xs.length ≤ sizeLine ∧ ∃ (its : List Value) (n : Nat), Vals xs its ∧ h.get? a = some { cls := .type "list", data := .seq its.toArray n } := r.ok x
/-- two lists, one behind the other -/
theorem op_catR {X : Cx} : OpR X (binaryOp .Add) (fun x y H Q => ∃ a b xs ys, x = .ref a ∧ y = .ref b ∧ Rd H a (.lst xs) ∧ Rd H b (.lst ys) ∧ xs.length + ys.length ≤ sizeLine ∧ ∀ p, H p = none → Q (.ref p) (upd H p (.lst (xs ++ ys)))) := by
  intro pins s σ H x y v u Q I rx ry h
  obtain ⟨a, b, xs, ys, rfl, rfl, ha, hb, hz, q⟩ := h
  cases rx
  cases ry
  obtain ⟨_, i1, n1, r1, e1⟩ := rd_lst ha I.hok
  obtain ⟨_, i2, n2, r2, e2⟩ := rd_lst hb I.hok
  have l1 := r1.length
  have l2 := r2.length
  refine PySem.P.add_list e1 e2 ?_ (by simp only [List.size_toArray]; omega)
  rw [List.append_toArray]
  exact ⟨.ref _, _, I.lnew (t' := s.toks) (Vals.append r1 r2) (by simpa using hz), rfl, q _ I.fresh⟩
/-! ### a tuple so many times -/
theorem tuple_mul1 (l : Addr) (items : Array Value) (n : Nat) (dd : Option Addr) (sl : Array (Option Value)) (u : Tok) :
    Meets (Builtin.«tuple.__mul__» ⟨[.ref l, .int 1 u], []⟩) (fun _ R s => s.heap.get? l = some { cls := .type "tuple", dict := dd, data := .seq items n, slots := sl } ∧ R (.ok (.ret (Value.ref l))) s) :=
  .of_wp fun prog w A R s h => by
    obtain ⟨hp, g, d, tk, os⟩ := s
    obtain ⟨hl, h⟩ := h
    have f1 := AutoSeq1.idx_int
    have c1 : (items.isEmpty || (1 : Int) == 1) = true := by simp
    wp_walk using wpAny_loadPart' hl
    exact ⟨_, rfl, h⟩
theorem tuple_mul0 (l : Addr) (items : Array Value) (n : Nat) (dd : Option Addr) (sl : Array (Option Value)) (x : Int) (u : Tok) (c0 : (decide (x < -(2 ^ 63)) || decide (x ≥ 2 ^ 63)) = false) (c1 : (items.isEmpty || x == 1) = false) (c2 : (decide (x ≤ 0) || items.isEmpty) = true) :
    Meets (Builtin.«tuple.__mul__» ⟨[.ref l, .int x u], []⟩) (fun _ R s => s.heap.get? l = some { cls := .type "tuple", dict := dd, data := .seq items n, slots := sl } ∧
      R (.ok (.ret (Value.ref s.heap.objs.size))) { s with heap := s.heap.push { cls := Value.type "tuple", data := Data.seq #[] }, toks := s.toks }) :=
  .of_wp fun prog w A R s h => by
    obtain ⟨hp, g, d, tk, os⟩ := s
    obtain ⟨hl, h⟩ := h
    have f1 := AutoSeq1.idx_int
    wp_walk using wpAny_loadPart' hl
    repeat (first
      | (refine wpAny_ite_false (decide_eq_false (by rw [c0]; exact Bool.false_ne_true)) ?_; wp_walk using wpAny_loadPart' hl)
      | (refine wpAny_ite_false (decide_eq_false (by rw [c1]; exact Bool.false_ne_true)) ?_; wp_walk using wpAny_loadPart' hl)
      | (refine wpAny_ite_true (decide_eq_true c2) ?_; wp_walk using wpAny_loadPart' hl))
    exact ⟨_, rfl, h⟩
theorem op_repA {X : Cx} : OpR X (binaryOp .Mult) (fun x y H Q => ∃ l k xs, x = .ref l ∧ y = .int k ∧ Rd H l (.tup xs) ∧ xs ≠ [] ∧ 0 ≤ k ∧ k ≤ 1000 ∧ xs.length ≤ 1000 ∧ (k = 1 → Q (.ref l) H) ∧ (k ≠ 1 → ∀ p, H p = none → Q (.ref p) (upd H p (.tup (List.replicate k.toNat xs).flatten)))) := by
  intro pins s σ H x y v u Q I rx ry h
  obtain ⟨l, k, xs, rfl, rfl, hT, hne, h1, h2, hz, q1, qn⟩ := h
  by_cases k2 : 2 ≤ k
  · exact op_repT pins s σ H _ _ v u Q I rx ry ⟨l, k, xs, rfl, rfl, .inl hT, hne, k2, h2, hz, qn (by omega)⟩
  · cases rx
    obtain ⟨t, rfl⟩ := ry
    obtain ⟨its, r, ⟨⟨cls, dd, data, sl⟩, ho, hc, n, hd⟩, hs⟩ := I.tuple (.inl hT)
    simp only at hc hd
    subst hc hd
    have hle : its.length = xs.length := r.length.symm
    have hn : its ≠ [] := fun e => hne (by
      rw [e] at hle
      exact List.eq_nil_of_length_eq_zero hle.symm)
    have hi : its.toArray.isEmpty = false := by
      cases its with
      | nil => exact absurd rfl hn
      | cons a b => rfl
    rcases (show k = 0 ∨ k = 1 by omega) with rfl | rfl
    · refine wpAny_binaryOp_repeat_ref (T := "tuple") (U := "int") (by decide) ⟨_, ho, rfl⟩ (fun s' => typeIs_int s' 0 t) noFill_tuple_mul F.fills_int_mul F.slot_int_rmul repeat_tuple F.slot_int_index.lookup
        (call_meets F.slot_int_rmul (typeIs_int s 0 t) F.entry_int_rmul (F.args_int_rmul_2 _ _) (int_rmul_tuple 0 t l its.toArray n dd sl)
          ⟨ho, rfl, ⟨_, ho, rfl⟩, call_meets F.slot_tuple_mul ⟨_, ho, rfl⟩ F.entry_tuple_mul (F.args_tuple_mul_2 _ _) (tuple_mul0 l its.toArray n dd sl 0 t (by decide) (by rw [hi]; rfl) (by simp)) ⟨ho, ?_⟩⟩)
      refine ⟨.ref s.heap.objs.size, _, I.laid (t' := s.toks) (o := .tup []) (fun b ob q => Heap.get?_push_of_some _ q) (Nat.le_refl _) ?_, rfl, qn (by omega) _ (I.hok.fresh (Nat.le_refl _))⟩
      exact ⟨Nat.zero_le _, [], .nil, IsTup.new _ _⟩
    · exact wpAny_binaryOp_repeat_ref (T := "tuple") (U := "int") (by decide) ⟨_, ho, rfl⟩ (fun s' => typeIs_int s' 1 t) noFill_tuple_mul F.fills_int_mul F.slot_int_rmul repeat_tuple F.slot_int_index.lookup
        (call_meets F.slot_int_rmul (typeIs_int s 1 t) F.entry_int_rmul (F.args_int_rmul_2 _ _) (int_rmul_tuple 1 t l its.toArray n dd sl)
          ⟨ho, rfl, ⟨_, ho, rfl⟩, call_meets F.slot_tuple_mul ⟨_, ho, rfl⟩ F.entry_tuple_mul (F.args_tuple_mul_2 _ _) (tuple_mul1 l its.toArray n dd sl t) ⟨ho, ⟨.ref l, H, I, rfl, q1 rfl⟩⟩⟩)
section
variable {X : Cx} {F G H : Hp} {S σ : St} {e : Fm} {v u : V} {x y : D}
/-- a result that is one value -/
theorem fin_v (l : Rl KZ F G H S σ e) {w : V} {d : D} {Q : VK} (h : Dp KZ G w d) (q : ∀ z H' G', Same G G' → Rl KZ F G' H' S σ e → RvOk KZ F G' H' σ e z (.v d) → Q z H') : Q w H := q w H G (Same.refl G) l h
/-- a new tuple -/
theorem fin_t (l : Rl KZ F G H S σ e) {p : Addr} (hp : H p = none) {vs : List V} {ds : List D} {Q : VK} (h : DpAll KZ G vs ds) (q : ∀ z H' G', Same G G' → Rl KZ F G' H' S σ e → RvOk KZ F G' H' σ e z (.v (.tuple ds)) → Q z H') : Q (.ref p) (upd H p (.tup vs)) :=
  q _ _ (upd G p (.tup vs)) (smUpdN (smNone l.g hp)) (l.newG hp) (.tup (.inl (.inl upd_same)) (Dp.sameAll (smUpdN (smNone l.g hp)) _ _ h))
/-- a new list -/
theorem fin_l (l : Rl KZ F G H S σ e) {p : Addr} (hp : H p = none) {vs : List V} {ds : List D} {Q : VK} (h : DpAll KZ G vs ds) (q : ∀ z H' G', Same G G' → Rl KZ F G' H' S σ e → RvOk KZ F G' H' σ e z (.o ds) → Q z H') : Q (.ref p) (upd H p (.lst vs)) :=
  q _ _ G (Same.refl G) (l.newH hp) ⟨p, vs, rfl, upd_same, smNone l.g hp, smNone l.f hp, l.ownNe hp, h⟩
theorem binOk {op : Operator} {r : RV} {Q : VK} (l : Rl KZ F G H S σ e) (dx : Dq KZ G H v x) (dy : Dq KZ G H u y) (hb : binD op x y = some r) (q : ∀ w H' G', Same G G' → Rl KZ F G' H' S σ e → RvOk KZ F G' H' σ e w r → Q w H') : oOp X (binaryOp op) v u H Q := by
  unfold binD at hb
  split at hb
  · obtain rfl := dx.int; obtain rfl := dy.int; cases hb
    exact oOp_of op_add ⟨_, _, rfl, rfl, fin_v l (.int _) q⟩
  · obtain rfl := dx.int; obtain rfl := dy.int; cases hb
    exact oOp_of op_sub ⟨_, _, rfl, rfl, fin_v l (.int _) q⟩
  · obtain rfl := dx.int; obtain rfl := dy.int
    split at hb
    · rename_i hm
      cases hb
      refine oOp_of op_mul ⟨_, _, rfl, rfl, ?_, fin_v l (.int _) q⟩
      unfold mulOk at hm
      simp only [Bool.or_eq_true, Bool.and_eq_true, decide_eq_true_eq] at hm
      exact hm
    · cases hb
  · obtain rfl := dx.int; obtain rfl := dy.int
    split at hb
    · rename_i hm
      cases hb
      exact oOp_of op_fdivW ⟨_, _, rfl, rfl, hm, fin_v l (.int _) q⟩
    · cases hb
  · obtain rfl := dx.int; obtain rfl := dy.int
    split at hb
    · rename_i hm
      cases hb
      exact oOp_of op_mod ⟨_, _, rfl, rfl, hm, fin_v l (.int _) q⟩
    · cases hb
  · obtain rfl := dx.int; obtain rfl := dy.int
    split at hb
    · rename_i hm
      cases hb
      exact oOp_of op_pow ⟨_, _, rfl, rfl, hm, fin_v l (.int _) q⟩
    · cases hb
  · obtain rfl := dx.str; obtain rfl := dy.str
    split at hb
    · rename_i hm
      cases hb
      exact oOp_of op_add_str ⟨_, _, rfl, rfl, by rw [← line_eq]; exact hm, fin_v l (.str _) q⟩
    · cases hb
  · obtain ⟨a, vs, rfl, h1, h2⟩ := dx.tup
    obtain ⟨b, us, rfl, k1, k2⟩ := dy.tup
    split at hb
    · rename_i hm
      cases hb
      refine oOp_of op_catA ⟨a, b, vs, us, rfl, rfl, .inl (Rd.same l.g h1), .inl (Rd.same l.g k1), ?_, fun z => ?_, fun z1 z2 => ?_, fun z1 z2 p hp => ?_⟩
      · rw [DpAll.length h2, DpAll.length k2, ← line_eq]; exact hm
      · subst z
        cases h2
        exact fin_v l (.tup (.inl k1) k2) q
      · subst z2
        cases k2
        rw [List.append_nil] at q
        exact fin_v l (.tup (.inl h1) h2) q
      · exact fin_t l hp (DpAll.append h2 k2) q
    · cases hb
  · obtain ⟨a, vs, rfl, h1, h2⟩ := dx.lst l.g
    obtain ⟨b, us, rfl, k1, k2⟩ := dy.lst l.g
    split at hb
    · rename_i hm
      cases hb
      refine oOp_of op_catR ⟨a, b, vs, us, rfl, rfl, h1, k1, ?_, fun p hp => ?_⟩
      · rw [DpAll.length h2, DpAll.length k2, ← line_eq]; exact hm
      · exact fin_l l hp (DpAll.append h2 k2) q
    · cases hb
  · obtain ⟨a, vs, rfl, h1, h2⟩ := dx.tup
    obtain rfl := dy.int
    split at hb
    · rename_i hm
      cases hb
      obtain ⟨m1, m2, m3, m4⟩ := hm
      refine oOp_of op_repA ⟨a, _, vs, rfl, rfl, Rd.same l.g h1, fun z => ?_, m2, m3, by rw [DpAll.length h2]; exact m4, fun z => ?_, fun _ p hp => fin_t l hp (DpAll.rep h2 _) q⟩
      · subst z
        cases h2
        exact m1 rfl
      · subst z
        have e1 : ∀ ds : List D, (List.replicate (1 : Int).toNat ds).flatten = ds := fun ds => by simp
        rw [e1] at q
        exact fin_v l (.tup (.inl h1) h2) q
    · cases hb
  · cases hb
theorem Dq.reads {pins : List (Addr × Obj)} {s : Shared} {vv : Value} {d : D} (h : Dq KZ G H v d) (sm : Same G H) (I : Inv X pins σ H s) (rv : RelV v vv) : ∃ as, Reads s.heap vv d as := Dp.reads I d v vv (toK d v (h.dp sm)) rv
theorem Dq.plain {d : D} (h : Dq KZ G H v d) (sm : Same G H) : d.plain = true := plain_dp d v (h.dp sm)
theorem room_cmp {k : Nat} (hr : Room k X.A) {n : Nat} (h : n ≤ 190) : X.A.units + n < cLine := by
  have := hr.un
  omega
theorem cmpOk_le {x y : D} (h : cmpOk x y = true) : min x.depth y.depth ≤ 190 := of_decide_eq_true h
theorem cmpGood {k : Nat} (hr : Room k X.A) {op : CmpOp} {b : Bool} {Q : VK} (l : Rl KZ F G H S σ e) (dx : Dq KZ G H v x) (dy : Dq KZ G H u y) (hb : cmpD op x y = some b) (q : Q (.bl b) H) : oOp X (compareOp op) v u H Q := by
  unfold cmpD at hb
  split at hb
  · obtain rfl := dx.int; obtain rfl := dy.int; cases hb
    exact oOp_of op_lt ⟨_, _, rfl, rfl, q⟩
  · obtain rfl := dx.int; obtain rfl := dy.int; cases hb
    exact oOp_of op_le ⟨_, _, rfl, rfl, q⟩
  · obtain rfl := dx.int; obtain rfl := dy.int; cases hb
    exact oOp_of op_gt ⟨_, _, rfl, rfl, q⟩
  · obtain rfl := dx.int; obtain rfl := dy.int; cases hb
    exact oOp_of op_ge ⟨_, _, rfl, rfl, q⟩
  · rename_i xs ys
    split at hb
    · rename_i hm
      cases hb
      simp only [Bool.and_eq_true] at hm
      intro pins s σ' vv uu I rx ry
      obtain ⟨as, r1⟩ := dx.reads l.g I rx
      obtain ⟨bs, r2⟩ := dy.reads l.g I ry
      exact PySem.W.rcLt_alike _ _ X.A s vv uu as bs r1 r2 (by simpa [PySem.W.alike] using hm.1) (by intro z; cases z) (room_cmp hr (cmpOk_le hm.2)) X.prog X.w X.xe _ ⟨.bl _, H, I, rfl, q⟩
    · cases hb
  · split at hb
    · rename_i hm
      cases hb
      intro pins s σ' vv uu I rx ry
      obtain ⟨as, r1⟩ := dx.reads l.g I rx
      obtain ⟨bs, r2⟩ := dy.reads l.g I ry
      exact PySem.SeqAt.eq_plain r1 r2 (dx.plain l.g) (dy.plain l.g) (room_cmp hr (cmpOk_le hm)) ⟨.bl _, H, I, rfl, q⟩
    · cases hb
  · split at hb
    · rename_i hm
      cases hb
      intro pins s σ' vv uu I rx ry
      obtain ⟨as, r1⟩ := dx.reads l.g I rx
      obtain ⟨bs, r2⟩ := dy.reads l.g I ry
      exact PySem.SeqAt.ne_plain r1 r2 (dx.plain l.g) (dy.plain l.g) (room_cmp hr (cmpOk_le hm)) ⟨.bl _, H, I, rfl, q⟩
    · cases hb
  · rename_i ys
    split at hb
    · rename_i hm
      cases hb
      intro pins s σ' vv uu I rx ry
      obtain ⟨as, r1⟩ := dx.reads l.g I rx
      obtain ⟨bs, r2⟩ := dy.reads l.g I ry
      have hp : PyData.plainAll ys = true := dy.plain l.g
      refine PySem.SeqAt.in_tuple_data r2 r1 hp (dx.plain l.g) ?_ ⟨.bl _, H, I, rfl, q⟩
      have h1 := cmpOk_le hm
      have h2 : (PyData.tuple ys).depth = PyData.depthAll ys + 1 := rfl
      have h3 := hr.un
      omega
    · cases hb
  · rename_i ys
    split at hb
    · rename_i hm
      cases hb
      intro pins s σ' vv uu I rx ry
      obtain ⟨as, r1⟩ := dx.reads l.g I rx
      obtain ⟨bs, r2⟩ := dy.reads l.g I ry
      have hp : PyData.plainAll ys = true := dy.plain l.g
      refine PySem.SeqAt.in_list_data r2 r1 hp (dx.plain l.g) ?_ ⟨.bl _, H, I, rfl, q⟩
      have h1 := cmpOk_le hm
      have h2 : (PyData.list ys).depth = PyData.depthAll ys + 1 := rfl
      have h3 := hr.un
      omega
    · cases hb
  · rename_i ys
    split at hb
    · rename_i hm
      cases hb
      intro pins s σ' vv uu I rx ry
      obtain ⟨as, r1⟩ := dx.reads l.g I rx
      obtain ⟨bs, r2⟩ := dy.reads l.g I ry
      have hp : PyData.plainAll ys = true := dy.plain l.g
      refine PySem.SeqAt.notIn_tuple_data r2 r1 hp (dx.plain l.g) ?_ ⟨.bl _, H, I, rfl, q⟩
      have h1 := cmpOk_le hm
      have h2 : (PyData.tuple ys).depth = PyData.depthAll ys + 1 := rfl
      have h3 := hr.un
      omega
    · cases hb
  · rename_i ys
    split at hb
    · rename_i hm
      cases hb
      intro pins s σ' vv uu I rx ry
      obtain ⟨as, r1⟩ := dx.reads l.g I rx
      obtain ⟨bs, r2⟩ := dy.reads l.g I ry
      have hp : PyData.plainAll ys = true := dy.plain l.g
      refine PySem.SeqAt.notIn_list_data r2 r1 hp (dx.plain l.g) ?_ ⟨.bl _, H, I, rfl, q⟩
      have h1 := cmpOk_le hm
      have h2 : (PyData.list ys).depth = PyData.depthAll ys + 1 := rfl
      have h3 := hr.un
      omega
    · cases hb
  · obtain rfl := dy.non
    cases hb
    refine oOp_of op_isN ⟨rfl, ?_⟩
    have e : decide (v = .non) = isNon x := by
      rcases dx with h | ⟨_, _, _, rfl, rfl, _⟩
      · cases h <;> simp [isNon]
      · simp [isNon]
    rw [e]
    exact q
  · obtain rfl := dy.non
    cases hb
    refine oOp_of op_notN ⟨rfl, ?_⟩
    have e : (!decide (v = .non)) = !isNon x := by
      rcases dx with h | ⟨_, _, _, rfl, rfl, _⟩
      · cases h <;> simp [isNon]
      · simp [isNon]
    rw [e]
    exact q
  · obtain rfl := dx.bl; obtain rfl := dy.bl; cases hb
    exact oOp_of op_is_bl ⟨_, _, rfl, rfl, q⟩
  · obtain rfl := dx.bl; obtain rfl := dy.bl; cases hb
    exact oOp_of op_isnot_bl ⟨_, _, rfl, rfl, q⟩
  · obtain rfl := dx.str; obtain rfl := dy.str
    split at hb
    · rename_i x y _ c hc
      cases hb
      have ex : x = ⟨#[c]⟩ := Str.ext' (Array.toList_inj.mp hc)
      subst ex
      exact oOp_of op_inS ⟨c, y, rfl, rfl, q⟩
    · cases hb
  · cases hb
end
end L2.Mp
set_option Elab.async false
set_option linter.all false
set_option maxRecDepth 100000
set_option maxHeartbeats 4000000
namespace L2.Mp
open PySem PySem.Spec PyProof.Rows L2
section
variable {c : Ct} {cf : CF} {k : Nat} {a b d lo hi : T} {x y z : Expr} {pos : Pos}

/-! ### truth -/
theorem truOk {K : PySem.W.Frag} {G H : Hp} {v : V} {x : D} {q : Bool} (h : Dq KZ G H v x) (s : Same G H) (e : tru x = some q) : TruV K v H q := by
  cases x with
  | none => obtain rfl := h.non; cases e; rfl
  | bool b => obtain rfl := h.bl; cases e; rfl
  | int i => obtain rfl := h.int; cases e; rfl
  | str t =>
    obtain rfl := h.str
    have e : (if t.length ≤ LINE then some ((t.length : Int) != 0) else none) = some q := e
    split at e
    · rename_i hm
      cases e
      exact ⟨by rw [← line_eq]; exact hm, rfl⟩
    · cases e
  | list ds =>
    cases e
    obtain ⟨a, vs, rfl, h1, h2⟩ := h.lst s
    refine .inl ⟨vs, .inl h1, ?_⟩
    cases h2 <;> rfl
  | tuple ds =>
    cases e
    obtain ⟨a, vs, rfl, h1, h2⟩ := h.tup
    refine .inr (.inl ⟨vs, .inl (Rd.same s h1), ?_⟩)
    cases h2 <;> rfl
  | dict _ => cases e
def Plainly (x : Expr) : Prop := ∀ (env : Env) (wh : Sem Value), isTrue x env wh = (do let v ← wh; standAt x.pos; holding [v] (truthy v))
theorem goodT_of (h : GoodE c cf k a x) (hp : Plainly x) : GoodT c cf k a x := by
  intro X ok F G H S σ e Q W tk l hq
  refine ofT (pt_truth pe_w (hp X.env)) ?_
  refine rvE h ok tk l hq fun r e1 v H1 G1 s1 l1 r1 hp1 => ?_
  obtain ⟨G2, s2, l2, r2⟩ := r1.nrm l1
  cases q : rd r e1 with
  | none => rw [q] at hp1; exact hp1.elim
  | some w =>
    rw [q] at hp1
    dsimp only at hp1
    cases q2 : tru w with
    | none => rw [q2] at hp1; exact hp1.elim
    | some t =>
      rw [q2] at hp1
      exact ⟨t, truOk (r2.rd l2 q) l2.g q2, (Po.mono s2 hp1) H1 G2 (Same.refl G2) l2⟩

/-! ### names, constants -/
theorem good_var {i : Nat} {n : Str} (hN : c.N[i]? = some n) (hv : visB c.sc n = true) (hd : (n == ("__debug__" : Str)) = false) (hcd : (n == ("__classdict__" : Str)) = false) : GoodE c cf k (.var i) (.Name n pos) := by
  intro X ok F G H S σ e Q W tk l hq
  refine ofE (pe_var (ok.at hN) (ok.vis hv) hd hcd) ?_
  have hq : Po X F S W (pE X F S σ Q) G (match e[i]? with
    | some (.val d) => .ok (.rv (.v d)) e
    | some (.own _ _) => .ok (.rv (.b i)) e
    | _ => .bad) := hq
  cases q : e[i]? with
  | none => rw [q] at hq; exact hq.elim
  | some w =>
    rw [q] at hq
    cases w with
    | no => exact hq.elim
    | val d =>
      obtain ⟨v, h1, h2⟩ := l.val i d q
      exact ⟨v, h1, hq v H G (Same.refl G) l h2⟩
    | own io ds =>
      obtain ⟨p, vs, h1, h2, _⟩ := l.own i io ds q
      exact ⟨_, h1, hq _ H G (Same.refl G) l h1⟩
theorem good_glo {n : Str} {d : D} (hg : gloB c.sc n = true) (hl : c.gl.lookup n = some d) (hd : (n == ("__debug__" : Str)) = false) : GoodE c cf k (.glo n d) (.Name n pos) := by
  intro X ok F G H S σ e Q W tk l hq
  obtain ⟨v, u, h1, h2, h3⟩ := ok.gb.gl n d hl
  exact ofE (pe_glob (ok.glo hg) h1 h2 hd) (hq v H G (Same.refl G) l (h3 G))
theorem good_int {i : Int} {j : Nat} : GoodE c cf k (.const (.int i)) (.Constant (.int i) j pos) := fun X ok F G H S σ e Q W tk l hq => ofE pe_int (hq (.int i) H G (Same.refl G) l (.int i))
theorem good_bl {i : Bool} {j : Nat} : GoodE c cf k (.const (.bool i)) (.Constant (.bool i) j pos) := fun X ok F G H S σ e Q W tk l hq => ofE pe_bl (hq (.bl i) H G (Same.refl G) l (.bl i))
theorem good_non {j : Nat} : GoodE c cf k (.const .none) (.Constant .none j pos) := fun X ok F G H S σ e Q W tk l hq => ofE pe_non (hq .non H G (Same.refl G) l .non)
theorem good_str {i : Str} {j : Nat} : GoodE c cf k (.const (.str i)) (.Constant (.str i) j pos) := fun X ok F G H S σ e Q W tk l hq => ofE pe_str (hq (.str i) H G (Same.refl G) l (.str i))

/-! ### operators -/
theorem good_bin {op : Operator} (ha : GoodE c cf k a x) (hb : GoodE c cf k b y) : GoodE c cf k (.bin op a b) (.BinOp x op y pos) := by
  intro X ok F G H S σ e Q W tk l hq
  refine ofE (pe_op (oOp_ok (X := X)) pe_w pe_w) ?_
  refine rvE2 ha hb ok tk l hq fun ra rb e2 v u H2 G2 s2 l2 r1 r2 hp => ?_
  cases q1 : rd ra e2 with
  | none => rw [q1] at hp; exact hp.elim
  | some p =>
    cases q2 : rd rb e2 with
    | none => rw [q1, q2] at hp; exact hp.elim
    | some q =>
      rw [q1, q2] at hp
      dsimp only [optR] at hp
      cases q3 : binD op p q with
      | none => rw [q3] at hp; exact hp.elim
      | some r =>
        rw [q3] at hp
        exact binOk l2 (r1.rd l2 q1) (r2.rd l2 q2) q3 fun w H' G' s' l' r' => hp w H' G' s' l' r'
theorem good_neg (ha : GoodE c cf k a x) : GoodE c cf k (.neg a) (.UnaryOp .USub x pos) := by
  intro X ok F G H S σ e Q W tk l hq
  refine ofE (pe_un un_neg pe_w) ?_
  refine rvE ha ok tk l hq fun ra e1 v H1 G1 s1 l1 r1 hp => ?_
  obtain ⟨G2, s2, l2, r2⟩ := r1.nrm l1
  cases q1 : rd ra e1 with
  | none => rw [q1] at hp; exact hp.elim
  | some p =>
    rw [q1] at hp
    cases p with
    | int i =>
      obtain rfl := (r2.rd l2 q1).int
      exact ⟨i, rfl, (Po.mono s2 hp) _ H1 G2 (Same.refl G2) l2 (.int _)⟩
    | _ => exact hp.elim
theorem testR_bnd {β : Type} (m : R Val) (f : Bool → Fm → R β) : (testR m).bnd f = m.rv fun r e => match rd r e with
    | some d => (match tru d with
      | some q => f q e
      | none => .bad)
    | none => .bad := by
  unfold testR R.bnd R.rv
  cases m with
  | ok v e =>
    cases v with
    | rv r =>
      dsimp only
      cases rd r e with
      | none => rfl
      | some d =>
        dsimp only
        cases tru d <;> rfl
    | _ => rfl
  | _ => rfl
theorem good_not (ha : GoodE c cf k a x) : GoodE c cf k (.notT a) (.UnaryOp .Not x pos) := by
  intro X ok F G H S σ e Q W tk l hq
  refine ofE (pe_notT pe_w) ?_
  have hq : Po X F S W (pE X F S σ Q) G ((testR (ev cf a e)).bnd fun k e1 => .ok (.rv (.v (.bool (!k)))) e1) := hq
  rw [testR_bnd] at hq
  refine rvE ha ok tk l hq fun ra e1 v H1 G1 s1 l1 r1 hp => ?_
  obtain ⟨G2, s2, l2, r2⟩ := r1.nrm l1
  cases q1 : rd ra e1 with
  | none => rw [q1] at hp; exact hp.elim
  | some p =>
    rw [q1] at hp
    dsimp only at hp
    cases q2 : tru p with
    | none => rw [q2] at hp; exact hp.elim
    | some t =>
      rw [q2] at hp
      exact ⟨t, truOk (r2.rd l2 q1) l2.g q2, (Po.mono s2 hp) _ H1 G2 (Same.refl G2) l2 (.bl _)⟩
theorem test_val (m : R Val) (f : Bool → Bool) : testR ((testR m).bnd fun q e1 => .ok (.rv (.v (.bool (f q)))) e1) = (testR m).bnd fun q e1 => .ok (f q) e1 := by
  cases h : testR m <;> rfl
theorem goodT_not (ha : GoodT c cf k a x) : GoodT c cf k (.notT a) (.UnaryOp .Not x pos) := by
  intro X ok F G H S σ e Q W tk l hq
  refine ofT (pt_not pt_w) ?_
  have hq : Po X F S W (pT X F S σ Q) G (testR ((testR (ev cf a e)).bnd fun k e1 => .ok (.rv (.v (.bool (!k)))) e1)) := hq
  rw [test_val] at hq
  exact bndT ha ok tk l hq fun r e1 H1 G1 s1 l1 hp => hp H1 G1 (Same.refl G1) l1
theorem good_cmp {op : CmpOp} (ha : GoodE c cf k a x) (hb : GoodE c cf k b y) (hm : behindInMarks op y = false) : GoodE c cf k (.cmp op a b) (.Compare x [op] [y] pos) := by
  intro X ok F G H S σ e Q W tk l hq
  refine ofE (pe_cmpR (oOp_ok (X := X)) pe_w pe_w hm) ?_
  refine rvE2 ha hb ok tk l hq fun ra rb e2 v u H2 G2 s2 l2 r1 r2 hp => ?_
  cases q1 : rd ra e2 with
  | none => rw [q1] at hp; exact hp.elim
  | some p =>
    cases q2 : rd rb e2 with
    | none => rw [q1, q2] at hp; exact hp.elim
    | some q =>
      rw [q1, q2] at hp
      dsimp only at hp
      cases q3 : cmpD op p q with
      | none => rw [q3] at hp; exact hp.elim
      | some r =>
        rw [q3] at hp
        exact cmpGood ok.room l2 (r1.rd l2 q1) (r2.rd l2 q2) q3 (hp _ H2 G2 (Same.refl G2) l2 (.bl _))
theorem testR_rv (m : R Val) (f : RV → Fm → R Val) : testR (m.rv f) = m.rv fun r e => testR (f r e) := by
  unfold testR R.rv
  cases m with
  | ok v e => cases v <;> rfl
  | _ => rfl
theorem goodT_cmp {op : CmpOp} (ha : GoodE c cf k a x) (hb : GoodE c cf k b y) (hm : behindInMarks op y = false) : GoodT c cf k (.cmp op a b) (.Compare x [op] [y] pos) := by
  intro X ok F G H S σ e Q W tk l hq
  refine ofT (pt_cmpR (oOp_ok (X := X)) pe_w pe_w hm) ?_
  have hq : Po X F S W (pT X F S σ Q) G (testR ((ev cf a e).rv fun ra e1 => (ev cf b e1).rv fun rb e2 => (match rd ra e2, rd rb e2 with
    | some x, some y => (match cmpD op x y with
      | some k => .ok (.rv (.v (.bool k))) e2
      | none => .bad)
    | _, _ => .bad))) := hq
  rw [testR_rv] at hq
  refine rvE ha ok tk l hq fun ra e1 v H1 G1 s1 l1 r1 hp1 => ?_
  obtain ⟨G1', s1', l1', r1'⟩ := r1.nrm l1
  rw [testR_rv] at hp1
  refine rvE hb ok tk l1' (Po.mono s1' hp1) fun rb e2 u H2 G2 s2 l2 r2 hp => ?_
  obtain ⟨G2', s2', l2', r2'⟩ := r2.nrm l2
  cases q1 : rd ra e2 with
  | none => rw [q1] at hp; exact hp.elim
  | some p =>
    cases q2 : rd rb e2 with
    | none => rw [q1, q2] at hp; exact hp.elim
    | some q =>
      rw [q1, q2] at hp
      dsimp only at hp
      cases q3 : cmpD op p q with
      | none => rw [q3] at hp; exact hp.elim
      | some r =>
        rw [q3] at hp
        exact cmpGood ok.room l2' ((r1'.later (s2.trans s2')).rd l2' q1) (r2'.rd l2' q2) q3 ⟨r, rfl, (Po.mono s2' hp) H2 G2' (Same.refl G2') l2'⟩
theorem good_chain0 {op op' : CmpOp} (ha : GoodE c cf k a x) (hb : GoodE c cf k b y) (hd : GoodE c cf k d z) {X : Cx} (ok : XOk c cf k X) {F G H : Hp} {S σ : St} {e : Fm} {W : WX} (tk : Takes X W) (l : Rl KZ F G H S σ e) {β : Type} {p : Pp β} {g : Bool → Fm → R β} {Q : Bool → Hp → Prop}
    (hq : Po X F S W p G ((ev cf a e).rv fun ra e1 => (ev cf b e1).rv fun rb e2 => (match rd ra e2, rd rb e2 with
      | some x, some y => (match cmpD op x y with
        | some true => (ev cf d e2).rv fun rc e3 => (match rd rb e3, rd rc e3 with
          | some y', some z => (match cmpD op' y' z with
            | some k => g k e3
            | none => .bad)
          | _, _ => .bad)
        | some false => g false e2
        | none => .bad)
      | _, _ => .bad))) (hg : ∀ b e' H' G', Same G G' → Rl KZ F G' H' S σ e' → Po X F S W p G' (g b e') → Q b H') :
    tChain (oOp X (compareOp op)) (oOp X (compareOp op')) (wxE X x) (wxE X y) (wxE X z) σ H fun v H' => ∃ b, v = .bl b ∧ Q b H' := by
  refine rvE2 ha hb ok tk l hq fun ra rb e2 v u H2 G2 s2 l2 r1 r2 hp => ?_
  cases q1 : rd ra e2 with
  | none => rw [q1] at hp; exact hp.elim
  | some p1 =>
    cases q2 : rd rb e2 with
    | none => rw [q1, q2] at hp; exact hp.elim
    | some p2 =>
      rw [q1, q2] at hp
      dsimp only at hp
      cases q3 : cmpD op p1 p2 with
      | none => rw [q3] at hp; exact hp.elim
      | some r =>
        rw [q3] at hp
        refine cmpGood ok.room l2 (r1.rd l2 q1) (r2.rd l2 q2) q3 ⟨r, rfl, ?_⟩
        cases r with
        | false =>
          rw [if_neg Bool.false_ne_true]
          exact ⟨false, rfl, hg false e2 H2 G2 s2 l2 hp⟩
        | true =>
          rw [if_pos rfl]
          refine rvE hd ok tk l2 hp fun rc e3 w H3 G3 s3 l3 r3 hp3 => ?_
          obtain ⟨G4, s4, l4, r4⟩ := r3.nrm l3
          cases q4 : rd rb e3 with
          | none => rw [q4] at hp3; exact hp3.elim
          | some p4 =>
            cases q5 : rd rc e3 with
            | none => rw [q4, q5] at hp3; exact hp3.elim
            | some p5 =>
              rw [q4, q5] at hp3
              dsimp only at hp3
              cases q6 : cmpD op' p4 p5 with
              | none => rw [q6] at hp3; exact hp3.elim
              | some r' =>
                rw [q6] at hp3
                have r2' : RvOk KZ F G4 H3 σ e3 u (nrm rb) := by
                  cases rb with
                  | v d => exact Dp.same (s3.trans s4) _ _ r2
                  | o d => exact Dp.same (s3.trans s4) _ _ r2
                  | b i => exact r2
                exact cmpGood ok.room l4 (RvOk.rd (r := rb) (by cases rb <;> exact r2') l4 q4) (r4.rd l4 q5) q6 ⟨r', rfl, hg r' e3 H3 G4 (s2.trans (s3.trans s4)) l4 (Po.mono s4 hp3)⟩
end
end L2.Mp
set_option Elab.async false
set_option linter.all false
set_option maxRecDepth 100000
set_option maxHeartbeats 4000000
namespace L2.Mp
open PySem PySem.Spec PyProof.Rows L2
section
variable {c : Ct} {cf : CF} {k : Nat} {a b d lo hi : T} {x y z : Expr} {pos : Pos}
theorem good_chain {op op' : CmpOp} (ha : GoodE c cf k a x) (hb : GoodE c cf k b y) (hd : GoodE c cf k d z) (hm : lastMarks [op, op'] [y, z] = false) : GoodE c cf k (.chain op op' a b d) (.Compare x [op, op'] [y, z] pos) := by
  intro X ok F G H S σ e Q W tk l hq
  refine fun pins s I => thn ((pe_chain (oOp_ok (X := X)) (oOp_ok (X := X)) (pe_w (x := x)) (pe_w (x := y)) (pe_w (x := z)) hm).run pins s σ H (fun v H' => ∃ b, v = .bl b ∧ Q (.bl b) H') I (good_chain0 ha hb hd ok tk l (β := Val) (p := pE X F S σ Q) (g := fun b e' => R.ok (Val.rv (RV.v (PyData.bool b))) e') hq fun b e' H' G' s' l' hp => hp (.bl b) H' G' (Same.refl G') l' (.bl b))) fun u s' ⟨v, H', I', r', b, e1, q⟩ => ⟨v, H', I', r', by rw [e1]; exact q⟩
theorem test_chain (op op' : CmpOp) (e : Fm) : testR (ev cf (.chain op op' a b d) e) = (ev cf a e).rv fun ra e1 => (ev cf b e1).rv fun rb e2 => (match rd ra e2, rd rb e2 with
      | some x, some y => (match cmpD op x y with
        | some true => (ev cf d e2).rv fun rc e3 => (match rd rb e3, rd rc e3 with
          | some y', some z => (match cmpD op' y' z with
            | some k => .ok k e3
            | none => .bad)
          | _, _ => .bad)
        | some false => .ok false e2
        | none => .bad)
      | _, _ => .bad) := by
  show testR ((ev cf a e).rv _) = _
  rw [testR_rv]
  congr 1
  funext ra e1
  rw [testR_rv]
  congr 1
  funext rb e2
  cases rd ra e2 with
  | none => rfl
  | some p1 =>
    cases rd rb e2 with
    | none => rfl
    | some p2 =>
      dsimp only
      cases cmpD op p1 p2 with
      | none => rfl
      | some t =>
        cases t with
        | false => rfl
        | true =>
          dsimp only
          rw [testR_rv]
          congr 1
          funext rc e3
          cases rd rb e3 with
          | none => rfl
          | some p4 =>
            cases rd rc e3 with
            | none => rfl
            | some p5 =>
              dsimp only
              cases cmpD op' p4 p5 <;> rfl
theorem goodT_chain {op op' : CmpOp} (ha : GoodE c cf k a x) (hb : GoodE c cf k b y) (hd : GoodE c cf k d z) (hm : lastMarks [op, op'] [y, z] = false) : GoodT c cf k (.chain op op' a b d) (.Compare x [op, op'] [y, z] pos) := by
  intro X ok F G H S σ e Q W tk l hq
  rw [test_chain] at hq
  refine ofT (pt_chain (oOp_ok (X := X)) (oOp_ok (X := X)) pe_w pe_w pe_w hm) ?_
  exact good_chain0 ha hb hd ok tk l (β := Bool) (p := pT X F S σ Q) (g := fun b e' => R.ok b e') hq fun b e' H' G' s' l' hp => hp H' G' (Same.refl G') l'

/-! ### and, or -/
theorem good_one {op : BoolOp} (ha : GoodE c cf k a x) : GoodE c cf k (.one a) (.BoolOp op [x] pos) := fun X ok F G H S σ e Q W tk l hq => ofE (pe_one pe_w) (ha X ok F G H S σ e Q W tk l hq)
theorem goodW_one {op : BoolOp} (ha : GoodT c cf k a x) : GoodW c cf k (.one a) (.BoolOp op [x] pos) := fun X ok F G H S σ e Q W tk l hq => by
  have q := ha X ok F G H S σ e Q W tk l hq
  cases op with
  | And => exact ofW (pw_and1 pt_w) q
  | Or => exact ofW (pw_or1 pt_w) q
theorem goodT_of_W (ha : GoodW c cf k a x) : GoodT c cf k a x := fun X ok F G H S σ e Q W tk l hq pins s I => ha X ok F G H S σ e Q W tk l hq _ pins s I
theorem good_and {rest : List Expr} (ha : GoodE c cf k a x) (hb : GoodE c cf k b (.BoolOp .And (y :: rest) pos)) : GoodE c cf k (.and a b) (.BoolOp .And (x :: y :: rest) pos) := by
  intro X ok F G H S σ e Q W tk l hq
  refine ofE (pe_andT pe_w (pe_w (x := .BoolOp .And (y :: rest) pos))) ?_
  refine rvE ha ok tk l hq fun ra e1 v H1 G1 s1 l1 r1 hp => ?_
  cases q1 : rd ra e1 with
  | none => rw [q1] at hp; exact hp.elim
  | some p =>
    rw [q1] at hp
    dsimp only [Option.bind] at hp
    cases q2 : tru p with
    | none => rw [q2] at hp; exact hp.elim
    | some t =>
      rw [q2] at hp
      obtain ⟨G2, s2, l2, r2⟩ := r1.nrm l1
      refine ⟨t, truOk (r2.rd l2 q1) l2.g q2, ?_⟩
      cases t with
      | true =>
        rw [if_pos rfl]
        exact hb X ok F G2 H1 S σ e1 Q W tk l2 (Po.mono s2 hp)
      | false =>
        rw [if_neg Bool.false_ne_true]
        exact hp v H1 G1 (Same.refl G1) l1 r1
theorem good_or {rest : List Expr} (ha : GoodE c cf k a x) (hb : GoodE c cf k b (.BoolOp .Or (y :: rest) pos)) : GoodE c cf k (.or a b) (.BoolOp .Or (x :: y :: rest) pos) := by
  intro X ok F G H S σ e Q W tk l hq
  refine ofE (pe_orT pe_w (pe_w (x := .BoolOp .Or (y :: rest) pos))) ?_
  refine rvE ha ok tk l hq fun ra e1 v H1 G1 s1 l1 r1 hp => ?_
  cases q1 : rd ra e1 with
  | none => rw [q1] at hp; exact hp.elim
  | some p =>
    rw [q1] at hp
    dsimp only [Option.bind] at hp
    cases q2 : tru p with
    | none => rw [q2] at hp; exact hp.elim
    | some t =>
      rw [q2] at hp
      obtain ⟨G2, s2, l2, r2⟩ := r1.nrm l1
      refine ⟨t, truOk (r2.rd l2 q1) l2.g q2, ?_⟩
      cases t with
      | false =>
        rw [if_neg Bool.false_ne_true]
        exact hb X ok F G2 H1 S σ e1 Q W tk l2 (Po.mono s2 hp)
      | true =>
        rw [if_pos rfl]
        exact hp v H1 G1 (Same.refl G1) l1 r1
theorem test_and (e : Fm) : testR (ev cf (.and a b) e) = (testR (ev cf a e)).bnd fun q e1 => if q = true then testR (ev cf b e1) else .ok false e1 := by
  rw [testR_bnd]
  show testR ((ev cf a e).rv _) = _
  rw [testR_rv]
  congr 1
  funext r e1
  cases q : rd r e1 with
  | none => rfl
  | some p =>
    dsimp only [Option.bind]
    cases q2 : tru p with
    | none => rfl
    | some t =>
      cases t with
      | true => rfl
      | false =>
        dsimp only
        unfold testR R.rv
        dsimp only
        rw [q]
        dsimp only
        rw [q2]
        rfl
theorem test_or (e : Fm) : testR (ev cf (.or a b) e) = (testR (ev cf a e)).bnd fun q e1 => if q = true then .ok true e1 else testR (ev cf b e1) := by
  rw [testR_bnd]
  show testR ((ev cf a e).rv _) = _
  rw [testR_rv]
  congr 1
  funext r e1
  cases q : rd r e1 with
  | none => rfl
  | some p =>
    dsimp only [Option.bind]
    cases q2 : tru p with
    | none => rfl
    | some t =>
      cases t with
      | false => rfl
      | true =>
        dsimp only
        unfold testR R.rv
        dsimp only
        rw [q]
        dsimp only
        rw [q2]
        rfl
theorem goodW_and {rest : List Expr} (ha : GoodT c cf k a x) (hb : GoodW c cf k b (.BoolOp .And (y :: rest) pos)) : GoodW c cf k (.and a b) (.BoolOp .And (x :: y :: rest) pos) := by
  intro X ok F G H S σ e Q W tk l hq
  rw [test_and] at hq
  refine ofW (pw_and pt_w (pw_w (x := .BoolOp .And (y :: rest) pos))) ?_
  refine bndT ha ok tk l hq fun t e1 H1 G1 s1 l1 hp => ?_
  cases t with
  | true =>
    rw [if_pos rfl] at hp ⊢
    exact hb X ok F G1 H1 S σ e1 Q W tk l1 hp
  | false =>
    rw [if_neg Bool.false_ne_true] at hp ⊢
    exact hp H1 G1 (Same.refl G1) l1
theorem goodW_or {rest : List Expr} (ha : GoodT c cf k a x) (hb : GoodW c cf k b (.BoolOp .Or (y :: rest) pos)) : GoodW c cf k (.or a b) (.BoolOp .Or (x :: y :: rest) pos) := by
  intro X ok F G H S σ e Q W tk l hq
  rw [test_or] at hq
  refine ofW (pw_or pt_w (pw_w (x := .BoolOp .Or (y :: rest) pos))) ?_
  refine bndT ha ok tk l hq fun t e1 H1 G1 s1 l1 hp => ?_
  cases t with
  | false =>
    rw [if_neg Bool.false_ne_true] at hp ⊢
    exact hb X ok F G1 H1 S σ e1 Q W tk l1 hp
  | true =>
    rw [if_pos rfl] at hp ⊢
    exact hp H1 G1 (Same.refl G1) l1

/-! ### a if c else b -/
theorem good_ite (hd : GoodT c cf k d z) (ha : GoodE c cf k a x) (hb : GoodE c cf k b y) : GoodE c cf k (.ite d a b) (.IfExp z x y pos) := by
  intro X ok F G H S σ e Q W tk l hq
  refine ofE (pe_ifExp pt_w pe_w pe_w) ?_
  refine bndT hd ok tk l hq fun t e1 H1 G1 s1 l1 hp => ?_
  cases t with
  | true =>
    rw [if_pos rfl] at hp ⊢
    exact ha X ok F G1 H1 S σ e1 Q W tk l1 hp
  | false =>
    rw [if_neg Bool.false_ne_true] at hp ⊢
    exact hb X ok F G1 H1 S σ e1 Q W tk l1 hp
theorem test_bnd_ite (m : R Bool) (f g : Fm → R Val) : testR (m.bnd fun q e1 => if q = true then f e1 else g e1) = m.bnd fun q e1 => if q = true then testR (f e1) else testR (g e1) := by
  cases m with
  | ok t e => cases t <;> rfl
  | _ => rfl
theorem goodT_ite (hd : GoodT c cf k d z) (ha : GoodT c cf k a x) (hb : GoodT c cf k b y) : GoodT c cf k (.ite d a b) (.IfExp z x y pos) := by
  intro X ok F G H S σ e Q W tk l hq
  have hq : Po X F S W (pT X F S σ Q) G (testR ((testR (ev cf d e)).bnd fun q e1 => if q = true then ev cf a e1 else ev cf b e1)) := hq
  rw [test_bnd_ite] at hq
  intro pins s I
  refine isTrue_IfExp (thn ((bndT hd ok tk l hq (Q := fun t H' => if t = true then wxT X x σ H' Q else wxT X y σ H' Q) fun t e1 H1 G1 s1 l1 hp => ?_) pins s I) fun t s1 ⟨H1, I1, q1⟩ => ?_)
  · cases t with
    | true =>
      rw [if_pos rfl] at hp ⊢
      exact ha X ok F G1 H1 S σ e1 Q W tk l1 hp
    | false =>
      rw [if_neg Bool.false_ne_true] at hp ⊢
      exact hb X ok F G1 H1 S σ e1 Q W tk l1 hp
  · cases t with
    | true =>
      rw [if_pos rfl] at q1 ⊢
      exact q1 pins s1 I1
    | false =>
      rw [if_neg Bool.false_ne_true] at q1 ⊢
      exact q1 pins s1 I1

/-! ### displays -/
theorem good_nil : GoodL c cf k .nil [] := fun X ok F G H S σ e Q W tk l hq => ofA pa_nil (hq [] H G (Same.refl G) l True.intro)
def isStar : Expr → Bool
  | .Starred _ _ => true
  | _ => false
theorem star_cons {x : Expr} {xs : List Expr} {env : Env} (h : isStar x = false) : starEach (x :: xs) env = (false, eval x env) :: starEach xs env := by
  cases x <;> first | rfl | cases h
theorem good_cons {xs : List Expr} (ha : GoodE c cf k a x) (hb : GoodL c cf k b xs) (hs : isStar x = false) : GoodL c cf k (.cons a b) (x :: xs) := by
  intro X ok F G H S σ e Q W tk l hq
  refine ofA (pa_cons pe_w pa_w (star_cons hs)) ?_
  refine rvE ha ok tk l hq fun ra e1 v H1 G1 s1 l1 r1 hp => ?_
  obtain ⟨G2, s2, l2, r2⟩ := r1.nrm l1
  refine rvsL hb ok tk l2 (Po.mono s2 hp) fun rs e2 vs H3 G3 s3 l3 r3 hp3 => ?_
  refine hp3 (v :: vs) H3 G3 (Same.refl G3) l3 ⟨?_, r3⟩
  have : nrm (nrm ra) = nrm ra := by cases ra <;> rfl
  rw [this]
  exact r2.later s3
theorem good_tup {xs : List Expr} {j : Nat} (ha : GoodL c cf k a xs) : GoodE c cf k (.tup a) (.Tuple xs j pos) := by
  intro X ok F G H S σ e Q W tk l hq
  refine ofE (pe_tup pa_w) ?_
  refine rvsL ha ok tk l hq fun rs e1 vs H1 G1 s1 l1 r1 hp => ?_
  cases q : fzs rs e1 with
  | none => rw [q] at hp; exact hp.elim
  | some p =>
    obtain ⟨ds, e2⟩ := p
    rw [q] at hp
    dsimp only at hp
    split at hp
    · rename_i hz
      obtain ⟨G2, s2, l2, d2⟩ := RvsOk.fzs l1 r1 q
      refine ⟨by rw [DpAll.length d2, ← line_eq]; exact hz, fun p np => ?_⟩
      exact fin_t l2 np d2 fun z H' G' s' l' r' => (Po.mono s2 hp) z H' G' s' l' r'
    · exact hp.elim
theorem good_lst {xs : List Expr} (ha : GoodL c cf k a xs) : GoodE c cf k (.lst a) (.List xs pos) := by
  intro X ok F G H S σ e Q W tk l hq
  refine ofE (pe_lst pa_w) ?_
  refine rvsL ha ok tk l hq fun rs e1 vs H1 G1 s1 l1 r1 hp => ?_
  cases q : fzs rs e1 with
  | none => rw [q] at hp; exact hp.elim
  | some p =>
    obtain ⟨ds, e2⟩ := p
    rw [q] at hp
    dsimp only at hp
    split at hp
    · rename_i hz
      obtain ⟨G2, s2, l2, d2⟩ := RvsOk.fzs l1 r1 q
      refine ⟨by rw [DpAll.length d2, ← line_eq]; exact hz, fun p np => ?_⟩
      exact fin_l l2 np d2 fun z H' G' s' l' r' => (Po.mono s2 hp) z H' G' s' l' r'
    · exact hp.elim
/-- [..] * n -/
theorem good_lrep {xs : List Expr} {pos' : Pos} (ha : GoodL c cf k a xs) (hb : GoodE c cf k b y) : GoodE c cf k (.lrep a b) (.BinOp (.List xs pos') .Mult y pos) := by
  intro X ok F G H S σ e Q W tk l hq
  refine ofE (pe_op op_rep (pe_lst pa_w) pe_w) ?_
  refine rvsL ha ok tk l hq fun rs e1 vs H1 G1 s1 l1 r1 hp => ?_
  cases q : fzs rs e1 with
  | none => rw [q] at hp; exact hp.elim
  | some p =>
    obtain ⟨ds, e2⟩ := p
    rw [q] at hp
    dsimp only at hp
    split at hp
    · rename_i hz
      obtain ⟨G2, s2, l2, d2⟩ := RvsOk.fzs l1 r1 q
      refine ⟨by rw [DpAll.length d2, ← line_eq]; exact hz, fun p np => ?_⟩
      refine rvE hb ok tk (l2.newG (o := .lst vs) np) (Po.mono (s2.trans (smUpdN (smNone l2.g np))) hp) fun rb e3 u H3 G3 s3 l3 r3 hp3 => ?_
      obtain ⟨G4, s4, l4, r4⟩ := r3.nrm l3
      cases q1 : rd rb e3 with
      | none => rw [q1] at hp3; exact hp3.elim
      | some w =>
        rw [q1] at hp3
        cases w with
        | int i =>
          dsimp only at hp3
          split at hp3
          · rename_i hm
            obtain rfl := (r4.rd l4 q1).int
            refine ⟨p, i, vs, rfl, rfl, l3.g _ _ (s3 _ _ upd_same), hm.1, hm.2.1, ?_, fun p2 np2 => ?_⟩
            · rw [DpAll.length d2, ← line_eq]; exact hm.2.2
            · exact fin_l l4 np2 (DpAll.rep (Dp.sameAll ((smUpdN (smNone l2.g np)).trans (s3.trans s4)) _ _ d2) _) fun z H' G' s' l' r' => (Po.mono s4 hp3) z H' G' s' l' r'
          · exact hp3.elim
        | _ => exact hp3.elim
    · exact hp.elim

/-! ### items, slices -/
def isSlice : Expr → Bool
  | .Slice _ _ _ _ => true
  | _ => false
theorem plainIx {y : Expr} (h : isSlice y = false) : PlainIx y := by
  intro o i
  cases y <;> first | rfl | cases h
theorem atI_vs {K : PySem.W.Frag} {G : Hp} {vs : List V} {ds : List D} {i : Int} {d : D} (h : DpAll K G vs ds) (e : atI ds i = some d) : ∃ v, atI vs i = some v ∧ Dp K G v d := by
  unfold atI at e ⊢
  rw [DpAll.length h]
  cases q : ixN ds.length i with
  | none => rw [q] at e; cases e
  | some j =>
    rw [q] at e
    exact DpAll.get h e
theorem good_idx (ha : GoodE c cf k a x) (hb : GoodE c cf k b y) (hs : isSlice y = false) : GoodE c cf k (.idx a b) (.Subscript x y pos) := by
  intro X ok F G H S σ e Q W tk l hq
  refine ofE (pe_ix (ix_list.or ix_tup) pe_w pe_w (plainIx hs)) ?_
  refine rvE2 ha hb ok tk l hq fun ra rb e2 v u H2 G2 s2 l2 r1 r2 hp => ?_
  cases q1 : rd ra e2 with
  | none => rw [q1] at hp; exact hp.elim
  | some p =>
    cases q2 : rd rb e2 with
    | none => rw [q1, q2] at hp; exact hp.elim
    | some q =>
      rw [q1, q2] at hp
      dsimp only at hp
      cases q3 : idxD p q with
      | none => rw [q3] at hp; exact hp.elim
      | some d =>
        rw [q3] at hp
        unfold idxD at q3
        split at q3
        · obtain ⟨a1, vs, rfl, h1, h2⟩ := (r1.rd l2 q1).lst l2.g
          obtain rfl := (r2.rd l2 q2).int
          obtain ⟨w, h3, h4⟩ := atI_vs h2 q3
          exact .inl ⟨a1, vs, _, w, rfl, rfl, .inl h1, h3, hp w H2 G2 (Same.refl G2) l2 h4⟩
        · obtain ⟨a1, vs, rfl, h1, h2⟩ := (r1.rd l2 q1).tup
          obtain rfl := (r2.rd l2 q2).int
          obtain ⟨w, h3, h4⟩ := atI_vs h2 q3
          exact .inr ⟨a1, vs, _, w, rfl, rfl, .inl (Rd.same l2.g h1), h3, hp w H2 G2 (Same.refl G2) l2 h4⟩
        · cases q3
/-- a slice's part -/
abbrev wxO (X : Cx) (o : Option Expr) : TO := fun σ H Q => ∀ pins s, Inv X pins σ H s → wpAny (model X.prog X.w) X.A (evalPart o X.env) (fun u s' => ∃ o H', Inv X pins σ H' s' ∧ IsPart u o ∧ Q o H') X.xe s
theorem po_w {X : Cx} {o : Option Expr} : PO X o (wxO X o) := ⟨fun pins s σ H Q I h => h pins s I⟩
theorem ofO {X : Cx} {o : Option Expr} {t : TO} {σ : St} {H : Hp} {Q : Option Int → Hp → Prop} (h : PO X o t) (q : t σ H Q) : wxO X o σ H Q := fun pins s I => h.run pins s σ H Q I q
def evO (cf : CF) (t : T) (e : Fm) : R (Option Int) := match t with
  | .absent => .ok none e
  | _ => partR (ev cf t e)
def GoodO (c : Ct) (cf : CF) (k : Nat) (t : T) (o : Option Expr) : Prop := ∀ X, XOk c cf k X → ∀ F G H S σ e Q W, Takes X W → Rl KZ F G H S σ e → Po X F S W (pT X F S σ Q) G (evO cf t e) → wxO X o σ H Q
theorem good_absent : GoodO c cf k .absent none := fun X ok F G H S σ e Q W tk l hq => ofO po_none (hq H G (Same.refl G) l)
theorem good_part (ha : GoodE c cf k a x) (hn : ∀ e, evO cf a e = partR (ev cf a e)) : GoodO c cf k a (some x) := by
  intro X ok F G H S σ e Q W tk l hq
  rw [hn] at hq
  refine ofO (po_some pe_w) ?_
  refine rvE ha ok tk l hq fun ra e1 v H1 G1 s1 l1 r1 hp => ?_
  obtain ⟨G2, s2, l2, r2⟩ := r1.nrm l1
  cases q1 : rd ra e1 with
  | none => rw [q1] at hp; exact hp.elim
  | some w =>
    rw [q1] at hp
    cases w with
    | int i =>
      obtain rfl := (r2.rd l2 q1).int
      exact ⟨i, rfl, (Po.mono s2 hp) H1 G2 (Same.refl G2) l2⟩
    | _ => exact hp.elim
theorem bndO {o : Option Expr} {X : Cx} {F G H : Hp} {S σ : St} {e : Fm} {W : WX} {β : Type} {p : Pp β} (h : GoodO c cf k a o) (ok : XOk c cf k X) (tk : Takes X W) (l : Rl KZ F G H S σ e) {kk : Option Int → Fm → R β} (hp : Po X F S W p G ((evO cf a e).bnd kk)) {Q : Option Int → Hp → Prop}
    (hk : ∀ r e1 H1 G1, Same G G1 → Rl KZ F G1 H1 S σ e1 → Po X F S W p G1 (kk r e1) → Q r H1) : wxO X o σ H Q := by
  refine h X ok F G H S σ e Q W tk l ?_
  cases q : evO cf a e with
  | bad => rw [q] at hp; exact hp
  | rz z e1 => rw [q] at hp; exact hp
  | ok r e1 =>
    rw [q] at hp
    exact fun H' G' s l' => hk r e1 H' G' s l' (Po.mono s hp)
theorem DpAll.cut {K : PySem.W.Frag} {G : Hp} {vs : List V} {ds : List D} (h : DpAll K G vs ds) (lo hi : Option Int) : DpAll K G (cutV vs lo hi) (cut ds lo hi) := by
  unfold cutV L2.Mp.cut
  rw [DpAll.length h]
  exact DpAll.take _ (DpAll.drop _ h)
def oSl (X : Cx) : V → Option Int → Option Int → Hp → VK → Prop := fun x lo hi H Q => ∀ pins s σ v vl vu sl, Inv X pins σ H s → RelV x v → s.heap.IsSliceOf sl vl vu .none → IsPart vl lo → IsPart vu hi →
    ∃ T id, typeLookup (.type T) "__getitem__" = pure (some (.builtin id)) ∧ s.TypeIs v T ∧ wpAny (model X.prog X.w) X.A (getItem v (.ref sl)) (EP X pins σ Q) X.xe s
theorem oSl_ok {X : Cx} : SlR X (oSl X) := fun pins s σ H x v vl vu lo hi sl Q I rx hs pl pu h => h pins s σ v vl vu sl I rx hs pl pu
theorem oSl_of {X : Cx} {r : V → Option Int → Option Int → Hp → VK → Prop} (h : SlR X r) {x : V} {lo hi : Option Int} {H : Hp} {Q : VK} (q : r x lo hi H Q) : oSl X x lo hi H Q := fun pins s σ v vl vu sl I rx hs pl pu => h pins s σ H x v vl vu lo hi sl Q I rx hs pl pu q
theorem slcOk {X : Cx} {F G H : Hp} {S σ : St} {e : Fm} {v : V} {x : D} {lo hi : Option Int} {r : RV} {Q : VK} (l : Rl KZ F G H S σ e) (dx : Dq KZ G H v x) (hb : slcD x lo hi = some r) (q : ∀ w H' G', Same G G' → Rl KZ F G' H' S σ e → RvOk KZ F G' H' σ e w r → Q w H') : oSl X v lo hi H Q := by
  unfold slcD at hb
  split at hb
  · cases hb
    obtain ⟨a1, vs, rfl, h1, h2⟩ := dx.lst l.g
    exact oSl_of sl_list ⟨a1, vs, rfl, .inl h1, fun p np => fin_l l np (DpAll.cut h2 lo hi) q⟩
  · cases hb
    obtain ⟨a1, vs, rfl, h1, h2⟩ := dx.tup
    refine oSl_of sl_tupA ⟨a1, vs, rfl, .inl (Rd.same l.g h1), fun hw => ?_, fun _ p np => fin_t l np (DpAll.cut h2 lo hi) q⟩
    refine fin_v l (.tup (.inl h1) ?_) q
    have hc := DpAll.cut h2 lo hi
    have e1 : cutV vs lo hi = vs := by
      unfold cutV
      rw [hw.1, hw.2, List.drop_zero, Nat.sub_zero, List.take_length]
    rw [e1] at hc
    exact hc
  · cases hb
theorem ev_slc (e : Fm) : ev cf (.slc a lo hi) e = (ev cf a e).rv fun ra e1 => (evO cf lo e1).bnd fun i e2 => (evO cf hi e2).bnd fun j e3 => (match rd ra e3 with
    | some x => optR (slcD x i j) e3
    | none => .bad) := rfl
theorem good_slc {olo ohi : Option Expr} {pos' : Pos} (ha : GoodE c cf k a x) (hl : GoodO c cf k lo olo) (hh : GoodO c cf k hi ohi) : GoodE c cf k (.slc a lo hi) (.Subscript x (.Slice olo ohi none pos') pos) := by
  intro X ok F G H S σ e Q W tk l hq
  rw [ev_slc] at hq
  refine ofE (pe_slice oSl_ok pe_w po_w po_w) ?_
  refine rvE ha ok tk l hq fun ra e1 v H1 G1 s1 l1 r1 hp => ?_
  obtain ⟨G2, s2, l2, r2⟩ := r1.nrm l1
  refine bndO hl ok tk l2 (Po.mono s2 hp) fun i e3 H3 G3 s3 l3 hp3 => ?_
  refine bndO hh ok tk l3 hp3 fun j e4 H4 G4 s4 l4 hp4 => ?_
  cases q1 : rd ra e4 with
  | none => rw [q1] at hp4; exact hp4.elim
  | some w =>
    rw [q1] at hp4
    dsimp only [optR] at hp4
    cases q2 : slcD w i j with
    | none => rw [q2] at hp4; exact hp4.elim
    | some r =>
      rw [q2] at hp4
      exact slcOk l4 ((r2.later (s3.trans s4)).rd l4 q1) q2 fun z H' G' s' l' r' => hp4 z H' G' s' l' r'
end
end L2.Mp
set_option Elab.async false
set_option linter.all false
set_option maxRecDepth 100000
set_option maxHeartbeats 4000000
namespace L2.Mp
open PySem PySem.Spec PyProof.Rows L2

/-! ### a call's arguments -/
inductive MA (e : Fm) : List RV → List Arg → List Nat → List Nat → Prop
  | nil : MA e [] [] [] []
  | io {i : Nat} {q : Bool} {ds : List D} {rs : List RV} {as : List Arg} {is bs : List Nat} : e[i]? = some (.own q ds) → MA e rs as is bs → MA e (.b i :: rs) (.io ds :: as) (i :: is) bs
  | own {i : Nat} {q : Bool} {ds : List D} {rs : List RV} {as : List Arg} {is bs : List Nat} : e[i]? = some (.own q ds) → MA e rs as is bs → MA e (.b i :: rs) (.d (.list ds) :: as) is (i :: bs)
  | val {r : RV} {d : D} {rs : List RV} {as : List Arg} {is bs : List Nat} : rd r e = some d → (∀ i, r = .b i → e[i]? = some (.val d)) → MA e rs as is bs → MA e (r :: rs) (.d d :: as) is bs
theorem ma_of {e : Fm} : ∀ {fl : List Bool} {rs : List RV} {as : List Arg} {is bs : List Nat}, mkArgs fl rs e = some (as, is, bs) → MA e rs as is bs
  | [], [], _, _, _, h => by cases h; exact .nil
  | true :: fl, .b i :: rs, as, is, bs, h => by
    have h : (match e[i]?, mkArgs fl rs e with
      | some (.own _ ds), some (as, is, bs) => some (.io ds :: as, i :: is, bs)
      | _, _ => none) = some (as, is, bs) := h
    cases q1 : e[i]? with
    | none => rw [q1] at h; cases h
    | some w =>
      cases w with
      | no => rw [q1] at h; cases h
      | val d => rw [q1] at h; cases h
      | own q ds =>
        cases q2 : mkArgs fl rs e with
        | none => rw [q1, q2] at h; cases h
        | some p =>
          obtain ⟨a1, i1, b1⟩ := p
          rw [q1, q2] at h
          cases h
          exact .io q1 (ma_of q2)
  | false :: fl, r :: rs, as, is, bs, h => by
    have h : (match rd r e, mkArgs fl rs e with
      | some d, some (as, is, bs) => some (.d d :: as, is, lent r e bs)
      | _, _ => none) = some (as, is, bs) := h
    cases q1 : rd r e with
    | none => rw [q1] at h; cases h
    | some d =>
      cases q2 : mkArgs fl rs e with
      | none => rw [q1, q2] at h; cases h
      | some p =>
        obtain ⟨a1, i1, b1⟩ := p
        rw [q1, q2] at h
        cases r with
        | v d' => cases h; exact .val q1 (fun i z => by cases z) (ma_of q2)
        | o d' => cases h; exact .val q1 (fun i z => by cases z) (ma_of q2)
        | b i =>
          have q1' : (match e[i]? with
            | some (.own _ ds) => some (PyData.list ds)
            | some (.val d) => some d
            | _ => none) = some d := q1
          have h : some (Arg.d d :: a1, i1, if isOwnS e[i]? then i :: b1 else b1) = some (as, is, bs) := h
          cases q3 : e[i]? with
          | none => rw [q3] at q1'; cases q1'
          | some w =>
            cases w with
            | no => rw [q3] at q1'; cases q1'
            | val d' =>
              rw [q3] at h q1'
              cases q1'
              cases h
              exact .val q1 (fun j z => by cases z; exact q3) (ma_of q2)
            | own q ds =>
              rw [q3] at h q1'
              cases q1'
              cases h
              exact .own q3 (ma_of q2)
  | true :: _, .v _ :: _, _, _, _, h => by cases h
  | true :: _, .o _ :: _, _, _, _, h => by cases h
  | [], _ :: _, _, _, _, h => by cases h
  | true :: _, [], _, _, _, h => by cases h
  | false :: _, [], _, _, _, h => by cases h
theorem MA.ios {e : Fm} {rs : List RV} {as : List Arg} {is bs : List Nat} (h : MA e rs as is bs) : ∀ i ∈ is, ∃ q ds, e[i]? = some (.own q ds) := by
  induction h with
  | nil => intro i z; cases z
  | io h1 _ ih =>
    intro i z
    rcases List.mem_cons.mp z with rfl | z
    · exact ⟨_, _, h1⟩
    · exact ih i z
  | own h1 _ ih => exact ih
  | val h1 _ _ ih => exact ih
theorem MA.bos {e : Fm} {rs : List RV} {as : List Arg} {is bs : List Nat} (h : MA e rs as is bs) : ∀ i ∈ bs, ∃ q ds, e[i]? = some (.own q ds) := by
  induction h with
  | nil => intro i z; cases z
  | io h1 _ ih => exact ih
  | own h1 _ ih =>
    intro i z
    rcases List.mem_cons.mp z with rfl | z
    · exact ⟨_, _, h1⟩
    · exact ih i z
  | val h1 _ _ ih => exact ih
theorem MA.args {F G H : Hp} {S σ : St} {e : Fm} {rs : List RV} {as : List Arg} {is bs : List Nat} (h : MA e rs as is bs) (l : Rl KZ F G H S σ e) {Fc Gc : Hp} (s : Same G Gc)
    (hb : ∀ i a, i ∈ bs → σ[i]? = some (some (.ref a)) → Gc a = H a) (hi : ∀ i a, i ∈ is → σ[i]? = some (some (.ref a)) → Gc a = none ∧ Fc a = none) : ∀ {vs : List V}, RvsOk KZ F G H σ e vs rs → Paired (ArgOk KZ Fc Gc H) vs as := by
  induction h with
  | nil =>
    intro vs r
    cases vs with
    | nil => exact .nil
    | cons _ _ => exact r.elim
  | io h1 _ ih =>
    intro vs r
    cases vs with
    | nil => exact r.elim
    | cons v vs =>
      obtain ⟨r1, r2⟩ := r
      obtain ⟨a, us, q1, q2, q3, q4, q5, _⟩ := l.own _ _ _ h1
      have r1 : σ[_]? = some (some v) := r1
      rw [r1] at q1
      cases q1
      obtain ⟨z1, z2⟩ := hi _ a List.mem_cons_self r1
      exact .cons ⟨a, us, rfl, q2, z1, z2, Dp.sameAll s _ _ q5⟩ (ih hb (fun i a m => hi i a (List.mem_cons_of_mem _ m)) r2)
  | own h1 _ ih =>
    intro vs r
    cases vs with
    | nil => exact r.elim
    | cons v vs =>
      obtain ⟨r1, r2⟩ := r
      obtain ⟨a, us, q1, q2, q3, q4, q5, _⟩ := l.own _ _ _ h1
      have r1 : σ[_]? = some (some v) := r1
      rw [r1] at q1
      cases q1
      refine .cons (.lst (.inl (.inl ?_)) (Dp.sameAll s _ _ q5)) (ih (fun i a m => hb i a (List.mem_cons_of_mem _ m)) hi r2)
      rw [hb _ a List.mem_cons_self r1]
      exact q2
  | @val rr d rs as is bs h1 h2 _ ih =>
    intro vs r
    cases vs with
    | nil => exact r.elim
    | cons v vs =>
      obtain ⟨r1, r2⟩ := r
      refine .cons ?_ (ih hb hi r2)
      refine Dp.same s _ _ ?_
      cases rr with
      | v d' => cases h1; exact r1
      | o d' => cases h1; exact r1
      | b i =>
        obtain ⟨u, z1, z2⟩ := l.val i d (h2 i rfl)
        have r1 : σ[i]? = some (some v) := r1
        rw [r1] at z1
        cases z1
        exact z2
theorem MA.notIo {F G H : Hp} {σ : St} {e : Fm} {rs : List RV} {as : List Arg} {is bs : List Nat} (h : MA e rs as is bs) {a : Addr} : ∀ {vs : List V}, RvsOk KZ F G H σ e vs rs → NotIo vs as a → ∀ i ∈ is, σ[i]? ≠ some (some (.ref a)) := by
  induction h with
  | nil => intro vs _ _ i z; cases z
  | io h1 _ ih =>
    intro vs r n i z
    cases vs with
    | nil => exact r.elim
    | cons v vs =>
      obtain ⟨r1, r2⟩ := r
      rcases List.mem_cons.mp z with rfl | z
      · intro hs
        have r1 : σ[i]? = some (some v) := r1
        rw [hs] at r1
        cases r1
        exact n 0 _ rfl rfl
      · exact ih r2 (fun j ds hj => n (j + 1) ds hj) i z
  | own h1 _ ih =>
    intro vs r n
    cases vs with
    | nil => exact r.elim
    | cons v vs => exact ih r.2 (fun j ds hj => n (j + 1) ds hj)
  | val h1 _ _ ih =>
    intro vs r n
    cases vs with
    | nil => exact r.elim
    | cons v vs => exact ih r.2 (fun j ds hj => n (j + 1) ds hj)
/-- the n-th thing handed in is the slot is[n] -/
theorem MA.ioAt {F G H : Hp} {σ : St} {e : Fm} {rs : List RV} {as : List Arg} {is bs : List Nat} (h : MA e rs as is bs) : ∀ {vs : List V}, RvsOk KZ F G H σ e vs rs → ∀ (i : Nat) (ds : List D) (a : Addr), as[i]? = some (.io ds) → vs[i]? = some (.ref a) →
    ∃ j ∈ is, σ[j]? = some (some (.ref a)) ∧ rs[i]? = some (.b j) := by
  induction h with
  | nil => intro vs _ i ds a z; simp at z
  | io h1 _ ih =>
    intro vs r i ds a z1 z2
    cases vs with
    | nil => exact r.elim
    | cons v vs =>
      cases i with
      | zero =>
        have e1 : v = .ref a := by simpa using z2
        subst e1
        exact ⟨_, List.mem_cons_self, r.1, rfl⟩
      | succ i =>
        obtain ⟨j, hj, q⟩ := ih r.2 i ds a (by simpa using z1) (by simpa using z2)
        exact ⟨j, List.mem_cons_of_mem _ hj, q⟩
  | own h1 _ ih =>
    intro vs r i ds a z1 z2
    cases vs with
    | nil => exact r.elim
    | cons v vs =>
      cases i with
      | zero => simp at z1
      | succ i => exact ih r.2 i ds a (by simpa using z1) (by simpa using z2)
  | val h1 _ _ ih =>
    intro vs r i ds a z1 z2
    cases vs with
    | nil => exact r.elim
    | cons v vs =>
      cases i with
      | zero => simp at z1
      | succ i => exact ih r.2 i ds a (by simpa using z1) (by simpa using z2)
theorem noDup_cons {i : Nat} {r : List Nat} (h : noDup (i :: r) = true) : i ∉ r ∧ noDup r = true := by
  simp only [noDup, Bool.and_eq_true, Bool.not_eq_true', List.contains_eq_mem, decide_eq_false_iff_not] at h
  exact h
theorem MA.once {e : Fm} {rs : List RV} {as : List Arg} {is bs : List Nat} (h : MA e rs as is bs) : noDup is = true → ∀ (i j n : Nat) (ds es : List D), as[i]? = some (.io ds) → as[j]? = some (.io es) → rs[i]? = some (.b n) → rs[j]? = some (.b n) → i = j := by
  have mem : ∀ {rs : List RV} {as : List Arg} {is bs : List Nat}, MA e rs as is bs → ∀ (i n : Nat) (ds : List D), as[i]? = some (.io ds) → rs[i]? = some (.b n) → n ∈ is := by
    intro rs as is bs h
    induction h with
    | nil => intro i n ds z; simp at z
    | io h1 _ ih =>
      intro i n ds z1 z2
      cases i with
      | zero => simp at z2; subst z2; exact List.mem_cons_self
      | succ i => exact List.mem_cons_of_mem _ (ih i n ds (by simpa using z1) (by simpa using z2))
    | own h1 _ ih =>
      intro i n ds z1 z2
      cases i with
      | zero => simp at z1
      | succ i => exact ih i n ds (by simpa using z1) (by simpa using z2)
    | val h1 _ _ ih =>
      intro i n ds z1 z2
      cases i with
      | zero => simp at z1
      | succ i => exact ih i n ds (by simpa using z1) (by simpa using z2)
  induction h with
  | nil => intro _ i j n ds es z; simp at z
  | io h1 h2 ih =>
    intro nd i j n ds es z1 z2 z3 z4
    obtain ⟨d1, d2⟩ := noDup_cons nd
    cases i with
    | zero =>
      simp at z3
      subst z3
      cases j with
      | zero => rfl
      | succ j => exact absurd (mem h2 j _ es (by simpa using z2) (by simpa using z4)) d1
    | succ i =>
      cases j with
      | zero =>
        simp at z4
        subst z4
        exact absurd (mem h2 i _ ds (by simpa using z1) (by simpa using z3)) d1
      | succ j => exact congrArg (· + 1) (ih d2 i j n ds es (by simpa using z1) (by simpa using z2) (by simpa using z3) (by simpa using z4))
  | own h1 _ ih =>
    intro nd i j n ds es z1 z2 z3 z4
    cases i with
    | zero => simp at z1
    | succ i =>
      cases j with
      | zero => simp at z2
      | succ j => exact congrArg (· + 1) (ih nd i j n ds es (by simpa using z1) (by simpa using z2) (by simpa using z3) (by simpa using z4))
  | val h1 _ _ ih =>
    intro nd i j n ds es z1 z2 z3 z4
    cases i with
    | zero => simp at z1
    | succ i =>
      cases j with
      | zero => simp at z2
      | succ j => exact congrArg (· + 1) (ih nd i j n ds es (by simpa using z1) (by simpa using z2) (by simpa using z3) (by simpa using z4))
/-- what came out, by slots -/
def OutAt (G H : Hp) (σ : St) (i : Nat) (ds : List D) : Prop := ∃ (a : Addr) (us : List V), σ[i]? = some (some (.ref a)) ∧ H a = some (.lst us) ∧ G a = none ∧ DpAll KZ G us ds
theorem MA.outs {F G H G' H' : Hp} {σ : St} {e : Fm} {rs : List RV} {as : List Arg} {is bs : List Nat} (h : MA e rs as is bs) : ∀ {vs : List V} {outs : List (List D)}, RvsOk KZ F G H σ e vs rs → OutsOk KZ G' H' vs as outs → ∀ (n i : Nat) (ds : List D), is[n]? = some i → outs[n]? = some ds → OutAt G' H' σ i ds := by
  induction h with
  | nil => intro vs outs _ _ n i ds z; simp at z
  | io h1 _ ih =>
    intro vs outs r o n i ds z1 z2
    cases vs with
    | nil => exact r.elim
    | cons v vs =>
      cases outs with
      | nil => exact o.elim
      | cons ds' outs =>
        obtain ⟨⟨a, us, e1, e2, e3, e4⟩, o2⟩ := o
        cases n with
        | zero =>
          simp at z1 z2
          subst z1 z2 e1
          exact ⟨a, us, r.1, e2, e3, e4⟩
        | succ n => exact ih r.2 o2 n i ds (by simpa using z1) (by simpa using z2)
  | @own i0 q0 ds0 rs0 as0 is0 bs0 h1 _ ih =>
    intro vs outs r o
    cases vs with
    | nil => exact r.elim
    | cons v vs =>
      have o : OutsOk KZ G' H' vs as0 outs := by cases outs <;> exact o
      exact ih r.2 o
  | @val r0 d0 rs0 as0 is0 bs0 h1 _ _ ih =>
    intro vs outs r o
    cases vs with
    | nil => exact r.elim
    | cons v vs =>
      have o : OutsOk KZ G' H' vs as0 outs := by cases outs <;> exact o
      exact ih r.2 o

/-! ### the slots behind a call -/
theorem put_len : ∀ (is : List Nat) (outs : List (List D)) (e : Fm), (putOuts is outs e).length = e.length
  | [], _, _ => by unfold putOuts; rfl
  | _ :: _, [], _ => rfl
  | i :: is, ds :: outs, e => by
    show (putOuts is outs _).length = _
    rw [put_len is outs]
    cases q : e[i]? with
    | none => rfl
    | some w =>
      cases w with
      | own io d => exact List.length_set
      | _ => rfl
theorem put_val {j : Nat} {d : D} : ∀ {is : List Nat} {outs : List (List D)} {e : Fm}, (putOuts is outs e)[j]? = some (.val d) → e[j]? = some (.val d)
  | [], _, _, h => by unfold putOuts at h; exact h
  | _ :: _, [], _, h => h
  | i :: is, ds :: outs, e, h => by
    have h2 := put_val (is := is) (outs := outs) h
    cases q : e[i]? with
    | none => rw [q] at h2; exact h2
    | some w =>
      rw [q] at h2
      cases w with
      | own io d' =>
        rcases get_set h2 with ⟨_, z, _⟩ | ⟨_, z⟩
        · cases z
        · exact z
      | _ => exact h2
theorem put_own {j : Nat} {io : Bool} {ds : List D} : ∀ {is : List Nat} {outs : List (List D)} {e : Fm}, noDup is = true → (∀ i ∈ is, ∃ q d, e[i]? = some (.own q d)) → is.length = outs.length → (putOuts is outs e)[j]? = some (.own io ds) →
    (∃ (n : Nat) (d0 : List D), is[n]? = some j ∧ outs[n]? = some ds ∧ e[j]? = some (.own io d0)) ∨ (j ∉ is ∧ e[j]? = some (.own io ds))
  | [], _, _, _, _, _, h => by unfold putOuts at h; exact .inr ⟨by simp, h⟩
  | _ :: _, [], _, _, _, z, _ => by simp at z
  | i :: is, ds1 :: outs, e, nd, ho, hl, h => by
    obtain ⟨d1, d2⟩ := noDup_cons nd
    obtain ⟨q, d0, hi⟩ := ho i List.mem_cons_self
    have h : (putOuts is outs (match e[i]? with
      | some (.own io _) => e.set i (.own io ds1)
      | _ => e))[j]? = some (.own io ds) := h
    rw [hi] at h
    have hil : i < e.length := (List.getElem?_eq_some_iff.mp hi).1
    have ho' : ∀ i' ∈ is, ∃ q' d', (e.set i (.own q ds1))[i']? = some (.own q' d') := fun i' hm => by
      have ne : i ≠ i' := fun z => d1 (by rw [z]; exact hm)
      rw [List.getElem?_set_ne ne]
      exact ho i' (List.mem_cons_of_mem _ hm)
    rcases put_own d2 ho' (by simpa using hl) h with ⟨n, d', h1, h2, h3⟩ | ⟨h1, h2⟩
    · have ne : i ≠ j := fun z => d1 (by rw [z]; exact List.mem_of_getElem? h1)
      rw [List.getElem?_set_ne ne] at h3
      exact .inl ⟨n + 1, d', by simpa using h1, by simpa using h2, h3⟩
    · rcases get_set h2 with ⟨rfl, z, _⟩ | ⟨ne, z⟩
      · cases z
        exact .inl ⟨0, d0, rfl, rfl, hi⟩
      · exact .inr ⟨by simp [ne, h1], z⟩
/-! ### the call itself -/
theorem callG {X : Cx} {W : WX} {k : Nat} {f : Addr} {fd : FuncData} {ps : List Str} {sp : Sp} {x : Str} {y : Expr} {ys : List Expr} {p pos : Pos} (Fk : FnOk X.prog X.w X.K X.mg X.base (L2.CX X.prog X.w) k f fd ps sp) (hr : Room k X.A) (hg : Gl X x) (hm : X.mg x = some (.ref f)) (hk : PySem.W.keepIn X.K (.ref f) = true)
    (hb : Binds X.K fd ps []) (tk : Takes X W) (hd : (x == ("__debug__" : Str)) = false) (he : starEach (y :: ys) X.env = (false, eval y X.env) :: starEach ys X.env) (hpl : (backTo pos (starEach ys X.env)).any (·.1) = false) {σ : St} {H : Hp} {Q : VK}
    (h : wxA X (y :: ys) σ H fun vs H1 => ∃ E : XK, sp vs H1 Q E ∧ ∀ cls d H', E cls d H' → W cls d σ H') : wxE X (.Call (.Name x p) (y :: ys) [] pos) σ H Q := by
  intro pins s I
  refine wpAny_Call_Name_kw (ld_glob I hg hm (PySem.W.callWith_K (h₀ := X.base) I.ok.mod.kin hk (thn (h pos pins s I) fun us s1 hus => ?_) he hpl) hd)
  obtain ⟨vs, H1, I1, r, E, hs, hE⟩ := hus
  refine ⟨I1.kIn, wpAny_call ?_⟩
  have hl : (us ++ []).length = ps.length := by rw [List.append_nil, ← r.length]; exact Fk.len _ _ _ _ hs
  have hbt := hb s1 us I1.kIn hl
  rw [List.append_nil] at hbt
  refine codeAny_mono (Fk.run X.A X.stack s1 H1 ⟨us, []⟩ us vs Q E hr I1.env0 hbt r hs) fun res s' hq => ?_
  match res, hq with
  | .error u, hq => exact tk _ _ (XE.of_call I1 hE hq)
  | .ok (.ret u), hq => exact I1.after hq
  | .ok .next, hq => exact hq.elim
  | .ok .brk, hq => exact hq.elim
  | .ok .cont, hq => exact hq.elim
theorem nostar_back {env : Env} {pos : Pos} : ∀ {ys : List Expr}, (∀ y ∈ ys, isStar y = false) → (backTo pos (starEach ys env)).any (·.1) = false
  | [], _ => rfl
  | y :: ys, h => by
    rw [star_cons (h y List.mem_cons_self)]
    show (false || (backTo pos (starEach ys env)).any (·.1)) = false
    rw [nostar_back fun z hz => h z (List.mem_cons_of_mem _ hz)]
    rfl
open Classical in
noncomputable def lendG (σ : St) (bs : List Nat) (G H : Hp) : Hp := fun b => if ∃ i ∈ bs, σ[i]? = some (some (.ref b)) then H b else G b
open Classical in
noncomputable def restF (σ : St) (is : List Nat) (Gc H : Hp) : Hp := fun b => if Gc b ≠ none ∨ ∃ i ∈ is, σ[i]? = some (some (.ref b)) then none else H b
open Classical in
noncomputable def takeB (σ : St) (bs : List Nat) (G : Hp) : Hp := fun b => if ∃ i ∈ bs, σ[i]? = some (some (.ref b)) then none else G b
section
variable {c : Ct} {cf : CF} {k : Nat} {a : T} {pos pos' : Pos}
theorem good_call {f : Str} {fl : List Bool} {n : Nat} {y : Expr} {ys : List Expr} (ha : GoodL c cf k a (y :: ys)) (hf : (f, n) ∈ c.fns) (hn : fl.length = n) (hg : gloB c.sc f = true) (hd : (f == ("__debug__" : Str)) = false) (hs : ∀ z ∈ y :: ys, isStar z = false) :
    GoodE c cf k (.call f fl a) (.Call (.Name f pos') (y :: ys) [] pos) := by
  intro X ok F G H S σ e Q W tk l hq
  obtain ⟨fa, fd, ps, hps, hm, hkp, hbd, Fk⟩ := ok.gb.fn f n hf
  refine callG Fk ok.room (ok.glo hg) hm hkp hbd tk hd (star_cons (hs y List.mem_cons_self)) (nostar_back fun z hz => hs z (List.mem_cons_of_mem _ hz)) ?_
  refine rvsL ha ok tk l hq fun rs e1 vs H1 G1 s1 l1 r1 hp => ?_
  unfold doCall at hp
  cases q1 : mkArgs fl rs e1 with
  | none => rw [q1] at hp; exact hp.elim
  | some w =>
    obtain ⟨as, is, bs⟩ := w
    rw [q1] at hp
    dsimp only at hp
    split at hp
    case isFalse => exact hp.elim
    rename_i hcond
    simp only [Bool.and_eq_true, List.all_eq_true, Bool.not_eq_true', List.contains_eq_mem, decide_eq_false_iff_not] at hcond
    obtain ⟨nd, hdis⟩ := hcond
    have ma := ma_of q1
    have ownA : ∀ (i : Nat) (a : Addr), (∃ (q : Bool) (ds : List D), e1[i]? = some (.own q ds)) → σ[i]? = some (some (.ref a)) → (∃ us, H1 a = some (.lst us)) ∧ G1 a = none ∧ F a = none := fun i a ⟨q, ds, hi⟩ hsi => by
      obtain ⟨a', us, z1, z2, z3, z4, _, _⟩ := l1.own i q ds hi
      rw [hsi] at z1
      cases z1
      exact ⟨⟨us, z2⟩, z3, z4⟩
    have bOwn : ∀ b, (∃ i ∈ bs, σ[i]? = some (some (.ref b))) → (∃ us, H1 b = some (.lst us)) ∧ G1 b = none ∧ F b = none := fun b ⟨i, hi, hsi⟩ => ownA i b (ma.bos i hi) hsi
    have iOwn : ∀ b, (∃ i ∈ is, σ[i]? = some (some (.ref b))) → (∃ us, H1 b = some (.lst us)) ∧ G1 b = none ∧ F b = none := fun b ⟨i, hi, hsi⟩ => ownA i b (ma.ios i hi) hsi
    have nboth : ∀ b, (∃ i ∈ bs, σ[i]? = some (some (.ref b))) → ¬ ∃ i ∈ is, σ[i]? = some (some (.ref b)) := fun b ⟨i, hi, hsi⟩ ⟨j, hj, hsj⟩ => by
      obtain ⟨q, ds, z1⟩ := ma.bos i hi
      obtain ⟨q', ds', z2⟩ := ma.ios j hj
      have := l1.inj i j _ _ _ _ b z1 z2 hsi hsj
      subst this
      exact hdis i hi hj
    -- the callee's heaps
    generalize hGc : lendG σ bs G1 H1 = Gc
    generalize hFc : restF σ is Gc H1 = Fc
    have gcB : ∀ b, (∃ i ∈ bs, σ[i]? = some (some (.ref b))) → Gc b = H1 b := fun b hb => by rw [← hGc]; exact if_pos hb
    have gcN : ∀ b, ¬ (∃ i ∈ bs, σ[i]? = some (some (.ref b))) → Gc b = G1 b := fun b hb => by rw [← hGc]; exact if_neg hb
    have fcS : ∀ b, Gc b = none → ¬ (∃ i ∈ is, σ[i]? = some (some (.ref b))) → Fc b = H1 b := fun b h1 h2 => by rw [← hFc]; exact if_neg fun z => z.elim (fun z => z h1) h2
    have fcN : ∀ b, Gc b ≠ none ∨ (∃ i ∈ is, σ[i]? = some (some (.ref b))) → Fc b = none := fun b h1 => by rw [← hFc]; exact if_pos h1
    have sGc : Same G1 Gc := fun b o hb => by
      by_cases z : ∃ i ∈ bs, σ[i]? = some (some (.ref b))
      · rw [(bOwn b z).2.1] at hb; cases hb
      · rw [gcN b z]; exact hb
    have gcH : Same Gc H1 := fun b o hb => by
      by_cases z : ∃ i ∈ bs, σ[i]? = some (some (.ref b))
      · rw [gcB b z] at hb; exact hb
      · rw [gcN b z] at hb; exact l1.g b o hb
    have fcH : Same Fc H1 := fun b o hb => by
      by_cases z : Gc b ≠ none ∨ ∃ i ∈ is, σ[i]? = some (some (.ref b))
      · rw [fcN b z] at hb; cases hb
      · have z1 : Gc b = none := by
          cases q : Gc b with
          | none => rfl
          | some o => exact absurd (.inl (by rw [q]; exact fun z => by cases z)) z
        rw [fcS b z1 fun y => z (.inr y)] at hb
        exact hb
    have dis : ∀ b o, Gc b = some o → Fc b = none := fun b o hb => fcN b (.inl (by rw [hb]; exact fun z => by cases z))
    have gcI : ∀ b, (∃ i ∈ is, σ[i]? = some (some (.ref b))) → Gc b = none := fun b hb => by
      rw [gcN b fun z => nboth b z hb]
      exact (iOwn b hb).2.1
    -- what was foreign is foreign
    have fF : ∀ b o, F b = some o → Fc b = some o := fun b o hb => by
      have nb : ¬ ∃ i ∈ bs, σ[i]? = some (some (.ref b)) := fun z => by rw [(bOwn b z).2.2] at hb; cases hb
      have ni : ¬ ∃ i ∈ is, σ[i]? = some (some (.ref b)) := fun z => by rw [(iOwn b z).2.2] at hb; cases hb
      have g1 : G1 b = none := by
        cases q : G1 b with
        | none => rfl
        | some u => rw [l1.fg b u q] at hb; cases hb
      rw [fcS b (by rw [gcN b nb]; exact g1) ni]
      exact l1.f b o hb
    -- back in the caller
    have back : ∀ {H' G' : Hp} {outs : List (List D)}, Same Gc G' → Same G' H' → Same Fc H' → (∀ b o, G' b = some o → Fc b = none) → OutsOk KZ G' H' vs as outs → outs.length = is.length → (bs = [] ∨ outs.all nolists = true) →
        (∀ b o, G' b = some o → takeB σ bs G' b = some o ∨ ∃ xs, G' b = some (.lst xs)) ∧ (bs = [] → takeB σ bs G' = G') ∧ Same G1 (takeB σ bs G') ∧ Rl KZ F (takeB σ bs G') H' S σ (putOuts is outs e1) := fun {H' G' outs} sg gh fh dj oo hl hn => by
      have tB : ∀ b, (∃ i ∈ bs, σ[i]? = some (some (.ref b))) → takeB σ bs G' b = none := fun b hb => if_pos hb
      have tN : ∀ b, ¬ (∃ i ∈ bs, σ[i]? = some (some (.ref b))) → takeB σ bs G' b = G' b := fun b hb => if_neg hb
      have less : ∀ b o, G' b = some o → takeB σ bs G' b = some o ∨ ∃ xs, G' b = some (.lst xs) := fun b o hb => by
        by_cases z : ∃ i ∈ bs, σ[i]? = some (some (.ref b))
        · obtain ⟨⟨us, hu⟩, _⟩ := bOwn b z
          exact .inr ⟨us, sg b _ (by rw [gcB b z]; exact hu)⟩
        · exact .inl (by rw [tN b z]; exact hb)
      have same0 : bs = [] → takeB σ bs G' = G' := fun hb => funext fun b => tN b fun ⟨i, hi, _⟩ => by rw [hb] at hi; cases hi
      have sG : Same G1 (takeB σ bs G') := fun b o hb => by
        have nb : ¬ ∃ i ∈ bs, σ[i]? = some (some (.ref b)) := fun z => by rw [(bOwn b z).2.1] at hb; cases hb
        rw [tN b nb]
        exact sg b o (sGc b o hb)
      have sT : ∀ b o, takeB σ bs G' b = some o → G' b = some o := fun b o hb => by
        by_cases z : ∃ i ∈ bs, σ[i]? = some (some (.ref b))
        · rw [tB b z] at hb; cases hb
        · rw [tN b z] at hb; exact hb
      refine ⟨less, same0, sG, ⟨fun b o hb => gh b o (sT b o hb), fun b o hb => fh b o (fF b o hb), fun b o hb => ?_, by rw [put_len]; exact l1.len, fun i d hi => ?_, fun i io ds hi => ?_, fun i j io jo ds es a h1 h2 h3 h4 => ?_⟩⟩
      · cases q : F b with
        | none => rfl
        | some u =>
          have z1 := fF b u q
          rw [dj b o (sT b o hb)] at z1
          cases z1
      · obtain ⟨v, h1, h2⟩ := l1.val i d (put_val hi)
        exact ⟨v, h1, Dp.same sG _ _ h2⟩
      · rcases put_own nd ma.ios hl.symm hi with ⟨m, d0, z1, z2, z3⟩ | ⟨z1, z2⟩
        · obtain ⟨a, us, y1, y2, y3, y4⟩ := ma.outs r1 oo m i ds z1 z2
          have hia : ∃ i ∈ is, σ[i]? = some (some (.ref a)) := ⟨i, List.mem_of_getElem? z1, y1⟩
          have nb : ¬ ∃ i ∈ bs, σ[i]? = some (some (.ref a)) := fun z => nboth a z hia
          refine ⟨a, us, y1, y2, by rw [tN a nb]; exact y3, (iOwn a hia).2.2, ?_, ?_⟩
          · rcases hn with hn | hn
            · rw [same0 hn]; exact y4
            · exact Dp.lessAll less _ _ (List.all_eq_true.mp hn ds (List.mem_of_getElem? z2)) y4
          · obtain ⟨a', us', w1, _, _, _, _, w6⟩ := l1.own i io d0 z3
            rw [y1] at w1
            cases w1
            exact w6
        · obtain ⟨a, us, w1, w2, w3, w4, w5, w6⟩ := l1.own i io ds z2
          have ni : ¬ ∃ j ∈ is, σ[j]? = some (some (.ref a)) := fun ⟨j, hj, hsj⟩ => by
            obtain ⟨q, d', y1⟩ := ma.ios j hj
            have := l1.inj i j _ _ _ _ a z2 y1 w1 hsj
            subst this
            exact z1 hj
          by_cases nb : ∃ j ∈ bs, σ[j]? = some (some (.ref a))
          · exact ⟨a, us, w1, gh a _ (sg a _ (by rw [gcB a nb]; exact w2)), tB a nb, w4, Dp.sameAll sG _ _ w5, w6⟩
          · have g0 : Gc a = none := by rw [gcN a nb]; exact w3
            have f0 : Fc a = some (.lst us) := by rw [fcS a g0 ni]; exact w2
            refine ⟨a, us, w1, fh a _ f0, ?_, w4, Dp.sameAll sG _ _ w5, w6⟩
            rw [tN a nb]
            cases q : G' a with
            | none => rfl
            | some u => rw [dj a u q] at f0; cases f0
      · have key : ∀ {i : Nat} {io : Bool} {ds : List D}, (putOuts is outs e1)[i]? = some (.own io ds) → ∃ io' ds', e1[i]? = some (.own io' ds') := fun {i io ds} hi => by
          rcases put_own nd ma.ios hl.symm hi with ⟨_, d0, _, _, z3⟩ | ⟨_, z2⟩
          · exact ⟨_, _, z3⟩
          · exact ⟨_, _, z2⟩
        obtain ⟨_, _, y1⟩ := key h1
        obtain ⟨_, _, y2⟩ := key h2
        exact l1.inj i j _ _ _ _ a y1 y2 h3 h4
    have hvl : vs.length = n := by
      have q2 : ∀ {fl : List Bool} {rs : List RV} {as : List Arg} {is bs : List Nat}, mkArgs fl rs e1 = some (as, is, bs) → fl.length = rs.length := by
        intro fl
        induction fl with
        | nil => intro rs as is bs h; cases rs with
          | nil => rfl
          | cons _ _ => cases h
        | cons q fl ih =>
          intro rs as is bs h
          cases rs with
          | nil => cases q <;> cases h
          | cons r rs =>
            have : ∃ p, mkArgs fl rs e1 = some p := by
              cases q3 : mkArgs fl rs e1 with
              | some p => exact ⟨p, rfl⟩
              | none =>
                exfalso
                cases q with
                | false =>
                  have h : (match rd r e1, mkArgs fl rs e1 with
                    | some d, some (as, is, bs) => some (Arg.d d :: as, is, lent r e1 bs)
                    | _, _ => none) = some (as, is, bs) := h
                  rw [q3] at h
                  cases q4 : rd r e1 <;> rw [q4] at h <;> cases h
                | true =>
                  cases r with
                  | b i =>
                    have h : (match e1[i]?, mkArgs fl rs e1 with
                      | some (.own _ ds), some (as, is, bs) => some (Arg.io ds :: as, i :: is, bs)
                      | _, _ => none) = some (as, is, bs) := h
                    rw [q3] at h
                    cases q4 : e1[i]? with
                    | none => rw [q4] at h; cases h
                    | some w => cases w <;> rw [q4] at h <;> cases h
                  | _ => cases h
            obtain ⟨⟨_, _, _⟩, hp'⟩ := this
            rw [List.length_cons, List.length_cons, ih hp']
      have q3 : ∀ {vs : List V} {rs : List RV}, RvsOk KZ F G1 H1 σ e1 vs rs → vs.length = rs.length := by
        intro vs
        induction vs with
        | nil => intro rs h; cases rs with
          | nil => rfl
          | cons _ _ => exact h.elim
        | cons v vs ih => intro rs h; cases rs with
          | nil => exact h.elim
          | cons r rs => rw [List.length_cons, List.length_cons, ih h.2]
      rw [q3 r1, ← q2 q1, hn]
    refine ⟨fun cls d H' => W cls d σ H', ⟨hvl, Fc, Gc, as, gcH, fcH, dis, ?_, ?_, ?_⟩, fun _ _ _ z => z⟩
    · exact ma.args l1 sGc (fun i a hi hsi => gcB a ⟨i, hi, hsi⟩) (fun i a hi hsi => ⟨gcI a ⟨i, hi, hsi⟩, fcN a (.inr ⟨i, hi, hsi⟩)⟩) r1
    · intro i j a ds es h1 h2 h3 h4
      obtain ⟨n1, m1, o1, p1⟩ := ma.ioAt r1 i ds a h1 h3
      obtain ⟨n2, m2, o2, p2⟩ := ma.ioAt r1 j es a h2 h4
      obtain ⟨q, d', y1⟩ := ma.ios n1 m1
      obtain ⟨q', d'', y2⟩ := ma.ios n2 m2
      have := l1.inj n1 n2 _ _ _ _ a y1 y2 o1 o2
      subst this
      exact ma.once nd i j n1 ds es h1 h2 p1 p2
    · cases q2 : cf f as with
      | bad => rw [q2] at hp; exact hp.elim
      | ok r outs =>
        rw [q2] at hp
        dsimp only at hp
        split at hp
        case isFalse => exact hp.elim
        rename_i hc
        simp only [Bool.and_eq_true, Bool.or_eq_true, List.isEmpty_iff, beq_iff_eq] at hc
        obtain ⟨hc1, hc2⟩ := hc
        intro v H' G' sg gh fh dj ro oo
        obtain ⟨less, same0, sG, l2⟩ := back sg gh fh dj oo hc2 (hc1.elim .inl fun z => .inr z.2)
        refine hp v H' _ sG l2 ?_
        cases r with
        | v d =>
          rcases hc1 with z | z
          · rw [same0 z]; exact ro
          · exact Dp.less less _ _ z.1 ro
        | b i => exact ro.elim
        | o ds =>
          obtain ⟨a, us, rfl, y1, y2, y3, y4, y5⟩ := ro
          have ni := ma.notIo r1 y4
          have nb : ¬ ∃ j ∈ bs, σ[j]? = some (some (.ref a)) := fun z => by
            obtain ⟨⟨us', hu⟩, _⟩ := bOwn a z
            have := sg a _ (show Gc a = some (.lst us') by rw [gcB a z]; exact hu)
            rw [y2] at this
            cases this
          refine ⟨a, us, rfl, y1, ?_, ?_, fun i io ds' hi hsi => ?_, ?_⟩
          · show (if _ then _ else _) = _
            rw [if_neg nb]
            exact y2
          · cases q : F a with
            | none => rfl
            | some u => rw [fF a u q] at y3; cases y3
          · rcases put_own nd ma.ios hc2.symm hi with ⟨m, d0, z1, _, _⟩ | ⟨z1, z2⟩
            · exact ni i (List.mem_of_getElem? z1) hsi
            · obtain ⟨a', us', w1, w2, w3, _⟩ := l1.own i io ds' z2
              rw [hsi] at w1
              cases w1
              have ni2 : ¬ ∃ j ∈ is, σ[j]? = some (some (.ref a)) := fun ⟨j, hj, hsj⟩ => ni j hj hsj
              have := fcS a (by rw [gcN a nb]; exact w3) ni2
              rw [y3, w2] at this
              cases this
          · rcases hc1 with z | z
            · rw [same0 z]; exact y5
            · exact Dp.lessAll less _ _ z.1 y5
      | rz x outs =>
        rw [q2] at hp
        dsimp only at hp
        split at hp
        case isFalse => exact hp.elim
        rename_i hc
        simp only [Bool.and_eq_true, Bool.or_eq_true, List.isEmpty_iff, beq_iff_eq] at hc
        obtain ⟨hc1, hc2⟩ := hc
        intro cls dd H' G' sg gh fh dj ro oo
        obtain ⟨less, same0, sG, l2⟩ := back sg gh fh dj oo hc2 (hc1.elim .inl fun z => .inr z.2)
        refine hp cls dd σ H' _ sG l2 ?_
        obtain ⟨C, y1, y2, fs, y3, y4⟩ := ro
        refine ⟨C, y1, y2, fs, y3, ?_⟩
        rcases hc1 with z | z
        · rw [same0 z]; exact y4
        · exact Dp.lessAll less _ _ z.1 y4
end
end L2.Mp
set_option Elab.async false
set_option linter.all false
set_option maxRecDepth 100000
set_option maxHeartbeats 4000000
namespace L2.Mp
open PySem PySem.Spec PyProof.Rows L2
section
variable {c : Ct} {cf : CF} {k : Nat} {a b d lo hi : T} {x y z : Expr} {pos pos' : Pos}
/-! ### calls of builtins, by values -/
def oC (X : Cx) (f : Value) : List V → Hp → VK → Prop := fun vs H Q => ∀ pins s σ us, Inv X pins σ H s → Vals vs us → wpAny (model X.prog X.w) X.A (call f us) (EP X pins σ Q) X.xe s
theorem oC_ok {X : Cx} {f : Value} : CallR X f (oC X f) := fun pins s σ H xs us Q I r h => h pins s σ us I r
theorem oC_of {X : Cx} {f : Value} {r : List V → Hp → VK → Prop} (h : CallR X f r) {xs : List V} {H : Hp} {Q : VK} (q : r xs H Q) : oC X f xs H Q := fun pins s σ us I rv => h pins s σ H xs us Q I rv q
/-- a builtin keeps its promise on the data -/
def PrimOk (p : Prim) (f : Value) : Prop := ∀ (X : Cx) (k : Nat), X.calm = true → Room k X.A → ∀ {F G H : Hp} {S σ : St} {e : Fm} {vs : List V} {ds : List D} {r : RV} {Q : VK}, Rl KZ F G H S σ e → DqAll KZ G H vs ds → primD p ds = some r →
  (∀ w H' G', Same G G' → Rl KZ F G' H' S σ e → RvOk KZ F G' H' σ e w r → Q w H') → oC X f vs H Q
theorem good_prim0 {p : Prim} {nm : Str} {f : Value} {ys : List Expr} (hp : PrimOk p f) (ha : GoodL c cf k a (y :: ys)) (rd : ∀ X, XOk c cf k X → ∀ t, PA X (y :: ys) t → PE X (.Call (.Name nm pos') (y :: ys) [] pos) (tCB (oC X f) t)) : GoodE c cf k (.prim p a) (.Call (.Name nm pos') (y :: ys) [] pos) := by
  intro X ok F G H S σ e Q W tk l hq
  refine ofE (rd X ok _ pa_w) ?_
  refine rvsL ha ok tk l hq fun rs e1 vs H1 G1 s1 l1 r1 hp1 => ?_
  cases q : rds rs e1 with
  | none => rw [q] at hp1; exact hp1.elim
  | some ds =>
    rw [q] at hp1
    dsimp only [optR] at hp1
    cases q2 : primD p ds with
    | none => rw [q2] at hp1; exact hp1.elim
    | some r =>
      rw [q2] at hp1
      exact hp X k ok.calm ok.room l1 (RvsOk.rds l1 r1 q) q2 fun w H' G' s' l' r' => hp1 w H' G' s' l' r'
theorem good_primB {p : Prim} {nm : Str} {id : String} {ys : List Expr} (hp : PrimOk p (.builtin id)) (hv : bootBuiltins nm = some (.builtin id)) (ha : GoodL c cf k a (y :: ys)) (hf : nm ∈ c.fr) (hg : gloB c.sc nm = true) (hn : nm ≠ "__name__") (hd : (nm == ("__debug__" : Str)) = false) (hs : ∀ z ∈ y :: ys, isStar z = false) :
    GoodE c cf k (.prim p a) (.Call (.Name nm pos') (y :: ys) [] pos) :=
  good_prim0 hp ha fun X ok t ht => pe_callB oC_ok (ok.glo hg) (ok.gb.fr nm hf) hv ht hn hd (star_cons (hs y (List.mem_cons_self))) (nostar_back fun z hz => hs z (List.mem_cons_of_mem _ hz))
theorem good_primT {p : Prim} {nm : Str} {T : String} {ys : List Expr} (hp : PrimOk p (.type T)) (hv : bootBuiltins nm = some (.type T)) (ha : GoodL c cf k a (y :: ys)) (hf : nm ∈ c.fr) (hg : gloB c.sc nm = true) (hn : nm ≠ "__name__") (hd : (nm == ("__debug__" : Str)) = false) (hs : ∀ z ∈ y :: ys, isStar z = false) :
    GoodE c cf k (.prim p a) (.Call (.Name nm pos') (y :: ys) [] pos) :=
  good_prim0 hp ha fun X ok t ht => pe_callTy oC_ok (ok.glo hg) (ok.gb.fr nm hf) hv ht hn hd (star_cons (hs y (List.mem_cons_self))) (nostar_back fun z hz => hs z (List.mem_cons_of_mem _ hz))

/-! ### the data of the arguments -/
theorem dq1 {K : PySem.W.Frag} {G H : Hp} {vs : List V} {d : D} (h : DqAll K G H vs [d]) : ∃ v, vs = [v] ∧ Dq K G H v d := by
  cases vs with
  | nil => exact h.elim
  | cons v r =>
    cases r with
    | nil => exact ⟨v, rfl, h.1⟩
    | cons _ _ => exact h.2.elim
theorem dq2 {K : PySem.W.Frag} {G H : Hp} {vs : List V} {d d' : D} (h : DqAll K G H vs [d, d']) : ∃ v v', vs = [v, v'] ∧ Dq K G H v d ∧ Dq K G H v' d' := by
  cases vs with
  | nil => exact h.elim
  | cons v r =>
    obtain ⟨v', rfl, h'⟩ := dq1 h.2
    exact ⟨v, v', rfl, h.1, h'⟩
theorem ints_of {K : PySem.W.Frag} {G : Hp} : ∀ {vs : List V} {ds : List D} {ns : List Int}, DpAll K G vs ds → intsOf ds = some ns → vs = ns.map V.int ∧ ds = ns.map .int
  | _, _, ns, .nil, h => by cases h; exact ⟨rfl, rfl⟩
  | _, d :: _, ns, .cons h1 h2, h => by
    cases d with
    | int i =>
      cases h1
      simp only [intsOf, Option.map_eq_some_iff] at h
      obtain ⟨ms, h3, rfl⟩ := h
      obtain ⟨e1, e2⟩ := ints_of h2 h3
      rw [e1, e2]
      exact ⟨rfl, rfl⟩
    | _ => cases h
theorem bools_of {K : PySem.W.Frag} {G : Hp} : ∀ {vs : List V} {ds : List D} {ns : List Bool}, DpAll K G vs ds → boolsOf ds = some ns → vs = ns.map V.bl
  | _, _, ns, .nil, h => by cases h; rfl
  | _, d :: _, ns, .cons h1 h2, h => by
    cases d with
    | bool i =>
      cases h1
      simp only [boolsOf, Option.map_eq_some_iff] at h
      obtain ⟨ms, h3, rfl⟩ := h
      rw [bools_of h2 h3]
      rfl
    | _ => cases h
theorem pr_len : PrimOk .len (.builtin "len") := by
  intro X k hc hr F G H S σ e vs ds r Q l dv hb q
  unfold primD at hb
  split at hb
  case h_1 =>
    cases hb
    obtain ⟨v, rfl, h⟩ := dq1 dv
    obtain ⟨p, us, rfl, h1, h2⟩ := h.lst l.g
    refine oC_of call_len_seq ⟨p, us, rfl, .inl (.inl h1), ?_⟩
    rw [DpAll.length h2]
    exact fin_v l (.int _) q
  case h_2 =>
    cases hb
    obtain ⟨v, rfl, h⟩ := dq1 dv
    obtain ⟨p, us, rfl, h1, h2⟩ := h.tup
    refine oC_of call_len_seq ⟨p, us, rfl, .inr (.inl (Rd.same l.g h1)), ?_⟩
    rw [DpAll.length h2]
    exact fin_v l (.int _) q
  case h_3 =>
    split at hb
    · rename_i hm
      cases hb
      obtain ⟨v, rfl, h⟩ := dq1 dv
      obtain rfl := h.str
      exact oC_of call_len_str ⟨_, rfl, by rw [← line_eq]; exact hm, fin_v l (.int _) q⟩
    · cases hb
  all_goals first | (exfalso; contradiction) | cases hb
theorem pr_abs : PrimOk .abs (.builtin "abs") := by
  intro X k hc hr F G H S σ e vs ds r Q l dv hb q
  unfold primD at hb
  split at hb
  case h_4 =>
    cases hb
    obtain ⟨v, rfl, h⟩ := dq1 dv
    obtain rfl := h.int
    exact oC_of call_abs ⟨_, rfl, fin_v l (.int _) q⟩
  all_goals first | (exfalso; contradiction) | cases hb
theorem pr_int : PrimOk .int (.type "int") := by
  intro X k hc hr F G H S σ e vs ds r Q l dv hb q
  unfold primD at hb
  split at hb
  case h_5 =>
    cases hb
    obtain ⟨v, rfl, h⟩ := dq1 dv
    obtain rfl := h.int
    exact oC_of call_int1 (.inl ⟨_, rfl, fin_v l (.int _) q⟩)
  case h_6 =>
    cases hb
    obtain ⟨v, rfl, h⟩ := dq1 dv
    obtain rfl := h.bl
    exact oC_of call_int1 (.inr ⟨_, rfl, fin_v l (.int _) q⟩)
  all_goals first | (exfalso; contradiction) | cases hb
theorem pr_tuple : PrimOk .tuple (.type "tuple") := by
  intro X k hc hr F G H S σ e vs ds r Q l dv hb q
  unfold primD at hb
  split at hb
  case h_7 =>
    cases hb
    obtain ⟨v, rfl, h⟩ := dq1 dv
    obtain ⟨p, us, rfl, h1, h2⟩ := h.lst l.g
    exact oC_of call_tuple_of ⟨p, us, rfl, .inl ⟨.inl h1, fun p' hp => fin_t l hp h2 q⟩⟩
  case h_8 =>
    cases hb
    obtain ⟨v, rfl, h⟩ := dq1 dv
    obtain ⟨p, us, rfl, h1, h2⟩ := h.tup
    exact oC_of call_tuple_of ⟨p, us, rfl, .inr ⟨.inl (Rd.same l.g h1), fin_v l (.tup (.inl h1) h2) q⟩⟩
  all_goals first | (exfalso; contradiction) | cases hb
theorem pr_list : PrimOk .list (.type "list") := by
  intro X k hc hr F G H S σ e vs ds r Q l dv hb q
  unfold primD at hb
  split at hb
  case h_9 =>
    cases hb
    obtain ⟨v, rfl, h⟩ := dq1 dv
    obtain ⟨p, us, rfl, h1, h2⟩ := h.lst l.g
    exact oC_of call_list_of ⟨p, us, rfl, .inl (.inl h1), fun p' hp => fin_l l hp h2 q⟩
  case h_10 =>
    cases hb
    obtain ⟨v, rfl, h⟩ := dq1 dv
    obtain ⟨p, us, rfl, h1, h2⟩ := h.tup
    exact oC_of call_list_of ⟨p, us, rfl, .inr (.inl (Rd.same l.g h1)), fun p' hp => fin_l l hp h2 q⟩
  all_goals first | (exfalso; contradiction) | cases hb
end
end L2.Mp
set_option Elab.async false
set_option linter.all false
set_option maxRecDepth 100000
set_option maxHeartbeats 4000000
namespace L2.Mp
open PySem PySem.Spec PyProof.Rows L2
section
variable {c : Ct} {cf : CF} {k : Nat} {a b d lo hi : T} {x y z : Expr} {pos pos' : Pos}
/-! ### sum, all, any, max, min -/
theorem items_of {G H : Hp} {v : V} {x : D} {xs : List D} (h : Dq KZ G H v x) (s : Same G H) (e : itemsOf x = some xs) : (∃ p us, v = .ref p ∧ x = .list xs ∧ Rd H p (.lst us) ∧ DpAll KZ G us xs) ∨ (∃ p us, v = .ref p ∧ x = .tuple xs ∧ Rd G p (.tup us) ∧ DpAll KZ G us xs) := by
  cases x with
  | list ds =>
    cases e
    obtain ⟨p, us, rfl, h1, h2⟩ := h.lst s
    exact .inl ⟨p, us, rfl, rfl, h1, h2⟩
  | tuple ds =>
    cases e
    obtain ⟨p, us, rfl, h1, h2⟩ := h.tup
    exact .inr ⟨p, us, rfl, rfl, h1, h2⟩
  | _ => cases e
theorem rd_tup {P : Program} {w : World} {H : Hp} {h : Heap} {a : Addr} {xs : List V} {X : Cx} {pins : List (Addr × Obj)} {σ : St} {s : Shared} (I : Inv X pins σ H s) (r : Rd H a (.tup xs)) : ∃ its : List Value, Vals xs its ∧ s.heap.IsTuple a its.toArray := by
  obtain ⟨its, r', pl, _⟩ := I.tuple (.inl r)
  exact ⟨its, r', pl⟩
theorem sum_tup {X : Cx} (hc : X.calm = true) : CallR X (.builtin "sum") (fun vs H Q => ∃ (p : Addr) (ns : List Int), vs = [V.ref p] ∧ Rd H p (.tup (ns.map V.int)) ∧ Q (.int ns.sum) H) := by
  intro pins s σ H vs us Q I r h
  obtain ⟨p, ns, rfl, hs, q⟩ := h
  obtain ⟨its, rv, pl, _⟩ := I.tuple (.inl hs)
  rw [Vals.ref1 r]
  have hi : IntsAre its ns := rv.ints
  obtain ⟨xs, hx⟩ := hi.allInts.items
  have hn : numsOf its.toArray.toList = ns := by rw [show its.toArray.toList = its from rfl, hi.numsOf]
  rw [hx] at pl hn
  rw [nums_intItems] at hn
  refine PySem.W.ktm_sumG (I.ok.hd hc) pl fun h' tk t' hk => ?_
  rw [preSum_eq, List.take_of_length_le (by simp), hn]
  exact ⟨.int _, H, I.kept hk, ⟨_, rfl⟩, q⟩
theorem pr_sum : PrimOk .sum (.builtin "sum") := by
  intro X k hc hr F G H S σ e vs ds r Q l dv hb q
  unfold primD at hb
  split at hb
  case h_11 =>
    rename_i z
    obtain ⟨xs, h1, h2⟩ := Option.bind_eq_some_iff.mp hb
    obtain ⟨ns, h3, rfl⟩ := Option.map_eq_some_iff.mp h2
    obtain ⟨v, rfl, h⟩ := dq1 dv
    rcases items_of h l.g h1 with ⟨p, us, rfl, rfl, h4, h5⟩ | ⟨p, us, rfl, rfl, h4, h5⟩
    · obtain ⟨rfl, rfl⟩ := ints_of h5 h3
      exact oC_of (cr_sum hc) ⟨p, ns, rfl, .inl h4, fin_v l (.int _) q⟩
    · obtain ⟨rfl, rfl⟩ := ints_of h5 h3
      exact oC_of (sum_tup hc) ⟨p, ns, rfl, Rd.same l.g h4, fin_v l (.int _) q⟩
  all_goals first | (exfalso; contradiction) | cases hb
theorem pr_all : PrimOk .all (.builtin "all") := by
  intro X k hc hr F G H S σ e vs ds r Q l dv hb q
  unfold primD at hb
  split at hb
  case h_12 =>
    obtain ⟨bs, h3, rfl⟩ := Option.map_eq_some_iff.mp hb
    obtain ⟨v, rfl, h⟩ := dq1 dv
    obtain ⟨p, us, rfl, h1, h2⟩ := h.lst l.g
    obtain rfl := bools_of h2 h3
    exact oC_of (cr_all hc) ⟨p, bs, rfl, .inl h1, fin_v l (.bl _) q⟩
  all_goals first | (exfalso; contradiction) | cases hb
theorem pr_any : PrimOk .any (.builtin "any") := by
  intro X k hc hr F G H S σ e vs ds r Q l dv hb q
  unfold primD at hb
  split at hb
  case h_13 =>
    obtain ⟨bs, h3, rfl⟩ := Option.map_eq_some_iff.mp hb
    obtain ⟨v, rfl, h⟩ := dq1 dv
    obtain ⟨p, us, rfl, h1, h2⟩ := h.lst l.g
    obtain rfl := bools_of h2 h3
    exact oC_of (cr_any hc) ⟨p, bs, rfl, .inl h1, fin_v l (.bl _) q⟩
  all_goals first | (exfalso; contradiction) | cases hb
theorem alike_ints (ns : List Int) : PySem.W.AlikeAll (ns.map .int) := by
  refine ⟨fun x hx y hy => ?_, fun x hx => ?_⟩
  · obtain ⟨i, _, rfl⟩ := List.mem_map.mp hx
    obtain ⟨j, _, rfl⟩ := List.mem_map.mp hy
    rfl
  · obtain ⟨i, _, rfl⟩ := List.mem_map.mp hx
    intro z
    cases z
theorem depth_ints : ∀ ns : List Int, PyData.depthAll (ns.map .int) ≤ 1
  | [] => Nat.zero_le _
  | n :: ns => by
    have := depth_ints ns
    show max (PyData.int n).depth (PyData.depthAll (ns.map .int)) ≤ 1
    have e : (PyData.int n).depth ≤ 1 := by simp [PyData.depth]
    omega
theorem ext_int {X : Cx} {mx : Bool} {n : Int} {ns : List Int} (hc : X.calm = true) {k : Nat} (hr : Room k X.A) : CallR X (.builtin (if mx = true then "max" else "min")) (fun vs H Q => ∃ (p : Addr), vs = [V.ref p] ∧ (Rd H p (.lst ((n :: ns).map V.int)) ∨ Rd H p (.tup ((n :: ns).map V.int))) ∧ Q (.int (if mx = true then ns.foldl max n else ns.foldl min n)) H) := by
  intro pins s σ H vs us Q I r h
  obtain ⟨p, rfl, hs, q⟩ := h
  rw [Vals.ref1 r]
  have hu : X.A.units + 1 + PyData.depthAll ((.int n : D) :: ns.map .int) < cLine := by
    have h1 := depth_ints (n :: ns)
    have h2 := hr.un
    rw [List.map_cons] at h1
    omega
  have ha : PySem.W.AlikeAll ((.int n : D) :: ns.map .int) := alike_ints (n :: ns)
  have rds : ∀ its : List Value, Vals ((n :: ns).map V.int) its → ∃ as, ReadsAll s.heap its.toArray.toList ((.int n : D) :: ns.map .int) as := by
    intro its rv
    have : DpAll X.K H ((n :: ns).map V.int) ((n :: ns).map .int) := by
      generalize n :: ns = ms
      induction ms with
      | nil => exact .nil
      | cons m r ih => exact .cons (.int m) ih
    exact Dp.readsAll I _ _ its this rv
  have fin : ∀ (its : List Value) (i : Nat) (v : Value) (h' : Heap) (tk : Nat) (bs : List Addr) (m : Int), Vals ((n :: ns).map V.int) its → its.toArray[i]? = some v → Reads h' v (.int m) bs → (∀ b o, s.heap.get? b = some o → h'.get? b = some o) → Q (.int m) H → EP X pins σ Q v { s with heap := h', toks := tk } := by
    intro its i v h' tk bs m rv hv rd hk q
    have hv' : its[i]? = some v := by simpa using hv
    cases rd with
    | int _ t => exact ⟨.int m, H, I.kept hk, ⟨t, rfl⟩, q⟩
  rcases hs with hs | hs
  · obtain ⟨its, rv, pl, _⟩ := I.list (.inl hs)
    obtain ⟨as, ra⟩ := rds its rv
    cases mx with
    | true => exact PySem.W.max_list_data (I.ok.hd hc) pl.isList ra ha hu fun i v h' tk bs hv rd hk => fin its i v h' tk bs _ rv hv (by have e := PySem.W.maxD_ints n ns; rw [e] at rd; exact rd) hk q
    | false => exact PySem.W.min_list_data (I.ok.hd hc) pl.isList ra ha hu fun i v h' tk bs hv rd hk => fin its i v h' tk bs _ rv hv (by have e := PySem.W.minD_ints n ns; rw [e] at rd; exact rd) hk q
  · obtain ⟨its, rv, pl, _⟩ := I.tuple (.inl hs)
    obtain ⟨as, ra⟩ := rds its rv
    cases mx with
    | true => exact PySem.W.max_tuple_data (I.ok.hd hc) pl ra ha hu fun i v h' tk bs hv rd hk => fin its i v h' tk bs _ rv hv (by have e := PySem.W.maxD_ints n ns; rw [e] at rd; exact rd) hk q
    | false => exact PySem.W.min_tuple_data (I.ok.hd hc) pl ra ha hu fun i v h' tk bs hv rd hk => fin its i v h' tk bs _ rv hv (by have e := PySem.W.minD_ints n ns; rw [e] at rd; exact rd) hk q
theorem pr_max1 : PrimOk .max1 (.builtin "max") := by
  intro X k hc hr F G H S σ e vs ds r Q l dv hb q
  unfold primD at hb
  split at hb
  case h_14 =>
    obtain ⟨xs, h1, h2⟩ := Option.bind_eq_some_iff.mp hb
    obtain ⟨ns, h3, h6⟩ := Option.bind_eq_some_iff.mp h2
    split at h6
    · cases h6
    · rename_i hne
      cases h6
      obtain ⟨v, rfl, h⟩ := dq1 dv
      cases ns with
      | nil => exact absurd rfl hne
      | cons n ns =>
        rcases items_of h l.g h1 with ⟨p, us, rfl, rfl, h4, h5⟩ | ⟨p, us, rfl, rfl, h4, h5⟩
        · obtain ⟨rfl, rfl⟩ := ints_of h5 h3
          exact oC_of (ext_int (mx := true) hc hr) ⟨p, rfl, .inl h4, fin_v l (.int _) q⟩
        · obtain ⟨rfl, rfl⟩ := ints_of h5 h3
          exact oC_of (ext_int (mx := true) hc hr) ⟨p, rfl, .inr (Rd.same l.g h4), fin_v l (.int _) q⟩
  all_goals first | (exfalso; contradiction) | cases hb
theorem pr_min1 : PrimOk .min1 (.builtin "min") := by
  intro X k hc hr F G H S σ e vs ds r Q l dv hb q
  unfold primD at hb
  split at hb
  case h_15 =>
    obtain ⟨xs, h1, h2⟩ := Option.bind_eq_some_iff.mp hb
    obtain ⟨ns, h3, h6⟩ := Option.bind_eq_some_iff.mp h2
    split at h6
    · cases h6
    · rename_i hne
      cases h6
      obtain ⟨v, rfl, h⟩ := dq1 dv
      cases ns with
      | nil => exact absurd rfl hne
      | cons n ns =>
        rcases items_of h l.g h1 with ⟨p, us, rfl, rfl, h4, h5⟩ | ⟨p, us, rfl, rfl, h4, h5⟩
        · obtain ⟨rfl, rfl⟩ := ints_of h5 h3
          exact oC_of (ext_int (mx := false) hc hr) ⟨p, rfl, .inl h4, fin_v l (.int _) q⟩
        · obtain ⟨rfl, rfl⟩ := ints_of h5 h3
          exact oC_of (ext_int (mx := false) hc hr) ⟨p, rfl, .inr (Rd.same l.g h4), fin_v l (.int _) q⟩
  all_goals first | (exfalso; contradiction) | cases hb
theorem pr_max2 : PrimOk .max2 (.builtin "max") := by
  intro X k hc hr F G H S σ e vs ds r Q l dv hb q
  unfold primD at hb
  split at hb
  case h_16 =>
    cases hb
    obtain ⟨v, v', rfl, h, h'⟩ := dq2 dv
    obtain rfl := h.int
    obtain rfl := h'.int
    exact oC_of (call_max2 hc) ⟨_, _, rfl, fin_v l (.int _) q⟩
  all_goals first | (exfalso; contradiction) | cases hb
theorem pr_min2 : PrimOk .min2 (.builtin "min") := by
  intro X k hc hr F G H S σ e vs ds r Q l dv hb q
  unfold primD at hb
  split at hb
  case h_17 =>
    cases hb
    obtain ⟨v, v', rfl, h, h'⟩ := dq2 dv
    obtain rfl := h.int
    obtain rfl := h'.int
    exact oC_of (call_min2 hc) ⟨_, _, rfl, fin_v l (.int _) q⟩
  all_goals first | (exfalso; contradiction) | cases hb

/-! ### isinstance -/
def Ty.s : Ty → String
  | .non => "NoneType"
  | .bool => "bool"
  | .int => "int"
  | .str => "str"
  | .list => "list"
  | .tuple => "tuple"
  | .dict => "dict"
def Ty.all : List Ty := [.non, .bool, .int, .str, .list, .tuple, .dict]
def Ty.named : List Ty := [.bool, .int, .str, .list, .tuple, .dict]
theorem kit_all : ∀ t ∈ Ty.all, ∀ u ∈ Ty.named, kitB t.s u.s = some (Ty.sub t u) := by decide +kernel
theorem boot_all : ∀ u ∈ Ty.named, bootBuiltins (Str.ofString u.s) = some (.type u.s) := by decide +kernel
theorem ty_all (t : Ty) : t ∈ Ty.all := by cases t <;> decide
theorem kit_any {K : PySem.W.Frag} {t : Ty} : ∀ us : List Ty, (∀ u ∈ us, u ∈ Ty.named) → PySem.W.kitAny K (.type t.s) (us.map fun u => .type u.s) = some (us.any (Ty.sub t))
  | [], _ => kitAny_nil
  | u :: us, h => by
    refine kitAny_cons (kit_ty (kit_all t (ty_all t) u (h u (List.mem_cons_self)))) (fun z => ?_) fun z => ?_
    · rw [kit_any us fun u hu => h u (List.mem_cons_of_mem _ hu), List.any_cons, z]
      rfl
    · rw [List.any_cons, z]
      rfl
theorem tyx_of {K : PySem.W.Frag} {H : Hp} {v : V} {d : D} (h : Dp KZ H v d) : TyX K H v (.type (tyN d).s) := by
  cases h with
  | non => exact .base .non
  | bl b => exact .base (.bl b)
  | int i => exact .base (.int i)
  | str x => exact .base (.str x)
  | lst hs _ =>
    rcases rd_of hs with q | ⟨o, q⟩
    · exact .base (.lst q)
    · exact .base (.frz q)
  | tup hs _ =>
    rcases rt_of hs with q | ⟨o, q⟩
    · exact .base (.tup q)
    · exact .fTuple q
def isName (c : Ct) (t : Ty) : Expr → Bool
  | .Name n _ => decide (n = Str.ofString t.s) && decide (t ∈ Ty.named) && c.fr.contains n && gloB c.sc n && decide (n ≠ "__name__") && !(n == ("__debug__" : Str))
  | _ => false
def areNames (c : Ct) : List Ty → List Expr → Bool
  | [], [] => true
  | t :: ts, e :: es => isName c t e && areNames c ts es
  | _, _ => false
theorem pe_tyn {X : Cx} {t : Ty} (ok : XOk c cf k X) (h : isName c t x = true) : PE X x (tC (.ty t.s)) ∧ t ∈ Ty.named := by
  cases x with
  | Name n p =>
    simp only [isName, Bool.and_eq_true, decide_eq_true_eq, List.contains_iff_mem, Bool.not_eq_true'] at h
    obtain ⟨⟨⟨⟨⟨h1, h2⟩, h3⟩, h4⟩, h5⟩, h6⟩ := h
    exact ⟨pe_bltn (ok.glo h4) (ok.gb.fr n h3) (by rw [h1]; exact boot_all t h2) (show RelV (.ty t.s) (.type t.s) from rfl) h5 h6, h2⟩
  | _ => cases h
theorem star_name {t : Ty} (h : isName c t x = true) : isStar x = false := by
  cases x <;> first | rfl | cases h
theorem pa_tyn {X : Cx} (ok : XOk c cf k X) : ∀ {ts : List Ty} {es : List Expr}, areNames c ts es = true → PA X es (fun σ H Q => Q (ts.map fun t => .ty t.s) H) ∧ ∀ t ∈ ts, t ∈ Ty.named
  | [], [], _ => ⟨pa_nil, fun t h => nomatch h⟩
  | t :: ts, e :: es, h => by
    simp only [areNames, Bool.and_eq_true] at h
    obtain ⟨h1, h2⟩ := pe_tyn ok h.1
    obtain ⟨h3, h4⟩ := pa_tyn ok h.2
    refine ⟨pa_cons h1 h3 (star_cons (star_name h.1)), fun u hu => ?_⟩
    rcases List.mem_cons.mp hu with rfl | hu
    · exact h2
    · exact h4 u hu
theorem cls_names : ∀ ts : List Ty, Paired ClsV (ts.map fun t => V.ty t.s) (ts.map fun t => Value.type t.s)
  | [] => .nil
  | t :: ts => .cons (.ty _) (cls_names ts)
theorem boot_isi : bootBuiltins ("isinstance" : Str) = some (.builtin "isinstance") := by decide +kernel
theorem good_isi {t : Ty} (ha : GoodE c cf k a x) (hs : isStar x = false) (hy : isName c t y = true) (hf : ("isinstance" : Str) ∈ c.fr) (hg : gloB c.sc "isinstance" = true) : GoodE c cf k (.isi a [t]) (.Call (.Name "isinstance" pos') [x, y] [] pos) := by
  intro X ok F G H S σ e Q W tk l hq
  obtain ⟨h1, h2⟩ := pe_tyn ok hy
  refine ofE (pe_callB (id := "isinstance") oC_ok (ok.glo hg) (ok.gb.fr _ hf) boot_isi (pa_cons pe_w (pa_cons h1 pa_nil (star_cons (star_name hy))) (star_cons hs)) (by decide) (by decide) (star_cons hs) (nostar_back fun z hz => by rw [List.mem_singleton.mp hz]; exact star_name hy)) ?_
  refine rvE ha ok tk l hq fun ra e1 v H1 G1 s1 l1 r1 hp => ?_
  obtain ⟨G2, s2, l2, r2⟩ := r1.nrm l1
  cases q1 : rd ra e1 with
  | none => rw [q1] at hp; exact hp.elim
  | some w =>
    rw [q1] at hp
    dsimp only at hp
    have dv := (r2.rd l2 q1).dp l2.g
    refine oC_of call_isi ⟨v, _, _, _, _, rfl, .ty _, tyx_of dv, kit_ty (kit_all _ (ty_all _) t h2), ?_⟩
    have e3 : isD w [t] = Ty.sub (tyN w) t := by simp [isD]
    rw [← e3]
    exact hp _ H1 G1 (Same.refl G1) l1 (.bl _)
theorem good_isiT {ts : List Ty} {ys : List Expr} {j : Nat} {pos2 : Pos} (ha : GoodE c cf k a x) (hs : isStar x = false) (hy : areNames c ts ys = true) (hl : ts.length ≤ 100) (hf : ("isinstance" : Str) ∈ c.fr) (hg : gloB c.sc "isinstance" = true) : GoodE c cf k (.isi a ts) (.Call (.Name "isinstance" pos') [x, .Tuple ys j pos2] [] pos) := by
  intro X ok F G H S σ e Q W tk l hq
  obtain ⟨h1, h2⟩ := pa_tyn ok hy
  refine ofE (pe_callB (id := "isinstance") oC_ok (ok.glo hg) (ok.gb.fr _ hf) boot_isi (pa_cons pe_w (pa_cons (pe_tup h1) pa_nil rfl) (star_cons hs)) (by decide) (by decide) (star_cons hs) rfl) ?_
  refine rvE ha ok tk l hq fun ra e1 v H1 G1 s1 l1 r1 hp => ?_
  obtain ⟨G2, s2, l2, r2⟩ := r1.nrm l1
  cases q1 : rd ra e1 with
  | none => rw [q1] at hp; exact hp.elim
  | some w =>
    rw [q1] at hp
    dsimp only at hp
    refine ⟨by rw [List.length_map, sizeLine_eq]; omega, fun p np => ?_⟩
    have dv := Dp.same (smUpdN (o := .tup (ts.map fun t => .ty t.s)) np) _ _ ((r2.rd l2 q1).dp l2.g)
    refine oC_of call_isiT ⟨v, p, _, _, _, _, rfl, upd_same, cls_names ts, tyx_of dv, kit_any ts h2, ?_⟩
    exact hp _ _ G1 (Same.refl G1) (l1.newH np) (.bl _)
end
end L2.Mp
set_option Elab.async false
set_option linter.all false
set_option maxRecDepth 100000
set_option maxHeartbeats 4000000
namespace L2.Mp
open PySem PySem.Spec PyProof.Rows L2

/-! ### zip and enumerate over lists and tuples -/
def Rb (kd : Bool) (H : Hp) (a : Addr) (xs : List V) : Prop := Rd H a (if kd = true then HO.tup xs else HO.lst xs)
def isB (kd : Bool) (h : Heap) (a : Addr) (its : Array Value) : Prop := if kd = true then h.IsTuple a its else h.IsList a its
def itB (kd : Bool) (h : Heap) (it a : Addr) (i : Nat) : Prop := if kd = true then h.IsTupleIter it a i else h.IsListIter it a i
theorem rb_its {kd : Bool} {X : Cx} {pins : List (Addr × Obj)} {σ : St} {H : Hp} {s : Shared} {a : Addr} {xs : List V} (I : Inv X pins σ H s) (h : Rb kd H a xs) : ∃ its : List Value, Vals xs its ∧ isB kd s.heap a its.toArray ∧ a < s.heap.objs.size := by
  cases kd with
  | true =>
    obtain ⟨its, r, p, _⟩ := I.tuple (.inl h)
    obtain ⟨o, ho, _⟩ := id p
    exact ⟨its, r, p, Heap.lt_size ho⟩
  | false =>
    obtain ⟨its, r, p, _⟩ := I.list (.inl h)
    exact ⟨its, r, p.isList, p.lt⟩
theorem rb_inj {kd : Bool} {X : Cx} {pins : List (Addr × Obj)} {σ : St} {H : Hp} {s : Shared} {a : Addr} {xs ys : List V} (I : Inv X pins σ H s) (h : Rb kd H a xs) (h' : Rb kd H a ys) : xs = ys := by
  cases kd with
  | true => exact I.tuple_inj (.inl h) (.inl h')
  | false => exact I.list_inj (.inl h) (.inl h')
theorem rb_ne {kd : Bool} {H : Hp} {a b : Addr} {xs : List V} (h : Rb kd H a xs) (hb : H b = none) : a ≠ b := by
  rintro rfl
  rcases h with h | ⟨_, h⟩ <;> rw [hb] at h <;> cases h
theorem drawsB (kd : Bool) {prog : Program} {w : World} {A : Around} (hh : A.handled = none) (it l : Addr) (hne : l ≠ it) (items : Array Value) :
    Draws prog w A it [it, l] items.size (fun i v => items[i]? = some v) (fun i h => itB kd h it l i ∧ isB kd h l items) := by
  cases kd with
  | true => exact Draws.tuple hh it l hne items
  | false => exact Draws.list hh it l hne items
def objB (kd : Bool) (l : Addr) : Obj := if kd = true then { cls := .type "tuple_iterator", data := .fields #[.ref l, .int 0 0] } else { cls := .type "list_iterator", data := .fields #[.ref l, .int 0 0] }
theorem beginsB (kd : Bool) (l : Addr) (items : Array Value) : Begins (.ref l) (objB kd l) fun h => isB kd h l items := by
  cases kd with
  | true => exact begins_tuple l items
  | false => exact begins_list l items
theorem itB_new {kd : Bool} {h : Heap} {it l : Addr} (e : h.get? it = some (objB kd l)) : itB kd h it l 0 := by
  cases kd with
  | true => exact ⟨_, e, rfl, rfl⟩
  | false => exact ⟨_, e, rfl, rfl⟩
theorem itB_at {kd : Bool} {h h' : Heap} {it l : Addr} {i : Nat} (x : itB kd h it l i) (k : ∀ o, h.get? it = some o → h'.get? it = some o) : itB kd h' it l i := by
  cases kd with
  | true => exact Heap.IsTupleIter.at x fun o e => k o e
  | false => exact Heap.IsListIter.at x fun o e => k o e
theorem itB_ob {kd : Bool} {h : Heap} {it l : Addr} {i : Nat} (x : itB kd h it l i) : ∃ o, h.get? it = some o ∧ ∀ v, o.data ≠ .cell v := by
  cases kd with
  | true =>
    obtain ⟨o, e, c, d⟩ := x
    exact ⟨o, e, fun v q => by rw [d] at q; cases q⟩
  | false =>
    obtain ⟨o, e, c, d⟩ := x
    exact ⟨o, e, fun v q => by rw [d] at q; cases q⟩
def ItZ (k1 k2 : Bool) (a b : Addr) : It :=
  ⟨fun i H => ∃ (xs ys : List V) (x y : V), Rb k1 H a xs ∧ Rb k2 H b ys ∧ xs[i]? = some x ∧ ys[i]? = some y,
    fun i H v H' => ∃ T x y, v = .ref T ∧ H T = none ∧ H' = upd H T (.tup [x, y]) ∧ (∀ xs, Rb k1 H a xs → xs[i]? = some x) ∧ ∀ ys, Rb k2 H b ys → ys[i]? = some y,
    fun i H => ∃ xs ys : List V, Rb k1 H a xs ∧ Rb k2 H b ys ∧ i ≤ xs.length ∧ i ≤ ys.length ∧ (i = xs.length ∨ i = ys.length)⟩
def ItE (kd : Bool) (a : Addr) : It :=
  ⟨fun i H => ∃ (xs : List V) (x : V), Rb kd H a xs ∧ xs[i]? = some x,
    fun i H v H' => ∃ T x, v = .ref T ∧ H T = none ∧ H' = upd H T (.tup [.int (i : Nat), x]) ∧ ∀ xs, Rb kd H a xs → xs[i]? = some x,
    fun i H => ∃ xs : List V, Rb kd H a xs ∧ i = xs.length⟩
structure Five (z TI TO i1 i2 : Addr) : Prop where
  TIz : TI ≠ z
  TOz : TO ≠ z
  TITO : TI ≠ TO
  TIi1 : TI ≠ i1
  zi1 : z ≠ i1
  TOi1 : TO ≠ i1
  TIi2 : TI ≠ i2
  zi2 : z ≠ i2
  TOi2 : TO ≠ i2
  i12 : i1 ≠ i2
theorem Five.sep {z TI TO i1 i2 a b : Addr} (D : Five z TI TO i1 i2) (ha : a ≠ z ∧ a ≠ TO ∧ a ≠ i1 ∧ a ≠ i2) (hb : b ≠ z ∧ b ≠ TO ∧ b ≠ i1 ∧ b ≠ i2) : ZipSep2 z TI TO i1 i2 [i1, a] [i2, b] where
  TIz := D.TIz
  TOz := D.TOz
  TITO := D.TITO
  TIi1 := D.TIi1
  mem1 := List.mem_cons_self
  zf1 := fun h => by
    rcases List.mem_cons.mp h with e | h
    · exact D.zi1 e
    · exact ha.1 (List.mem_singleton.mp h).symm
  Tf1 := fun h => by
    rcases List.mem_cons.mp h with e | h
    · exact D.TOi1 e
    · exact ha.2.1 (List.mem_singleton.mp h).symm
  TIi2 := D.TIi2
  mem2 := List.mem_cons_self
  zf2 := fun h => by
    rcases List.mem_cons.mp h with e | h
    · exact D.zi2 e
    · exact hb.1 (List.mem_singleton.mp h).symm
  Tf2 := fun h => by
    rcases List.mem_cons.mp h with e | h
    · exact D.TOi2 e
    · exact hb.2.1 (List.mem_singleton.mp h).symm
  sep1_2 := fun h => by
    rcases List.mem_cons.mp h with e | h
    · exact D.i12 e
    · exact hb.2.2.1 (List.mem_singleton.mp h).symm
  sep2_1 := fun h => by
    rcases List.mem_cons.mp h with e | h
    · exact D.i12 e.symm
    · exact ha.2.2.2 (List.mem_singleton.mp h).symm
theorem turn_zipB {P : Program} {w : World} {K : PySem.W.Frag} {elts : List Expr} {kk : Nat} {tpos : Pos} {k1 k2 : Bool} {a b z TI TO i1 i2 : Addr} (D : Five z TI TO i1 i2) :
    Turn P w K (.Tuple elts kk tpos) (ItZ k1 k2 a b) [z, TI, TO, i1, i2] z (fun i h => IsZip h z TI TO .none ∧ IsPair h TI (.ref i1) (.ref i2) ∧ (∃ x y, IsPair h TO x y) ∧ itB k1 h i1 a i ∧ itB k2 h i2 b i) where
  mem := by simp
  obj := fun i h cell c calm => by
    obtain ⟨hz, cTI, ⟨x, y, cTO⟩, h1, h2⟩ := cell
    have which : c = z ∨ c = TI ∨ c = TO ∨ c = i1 ∨ c = i2 := by simpa using calm
    rcases which with q | q | q | q | q
    · rw [q]; exact ⟨_, hz, fun v q => nomatch q⟩
    · rw [q]; exact ⟨_, cTI, fun v q => nomatch q⟩
    · rw [q]; exact ⟨_, cTO, fun v q => nomatch q⟩
    · rw [q]; exact itB_ob h1
    · rw [q]; exact itB_ob h2
  keep := fun i h h' cell k => by
    obtain ⟨hz, cTI, ⟨x, y, cTO⟩, h1, h2⟩ := cell
    exact ⟨k z (by simp) _ hz, k TI (by simp) _ cTI, ⟨x, y, k TO (by simp) _ cTO⟩, itB_at h1 fun o q => k i1 (by simp) o q, itB_at h2 fun o q => k i2 (by simp) o q⟩
  item := by
    intro X eP eW eK calm i pins s σ H E I far cell nxt
    subst eP eW eK
    obtain ⟨hz, cTI, ⟨x0, y0, cTO⟩, h1, h2⟩ := cell
    obtain ⟨xs, ys, x, y, rdx, rdy, hx, hy⟩ := nxt
    obtain ⟨its, rv, p, _⟩ := rb_its I rdx
    obtain ⟨its2, rv2, p2, _⟩ := rb_its I rdy
    have nz := (far z (by simp)).1
    have nO := (far TO (by simp)).1
    have n1 := (far i1 (by simp)).1
    have n2 := (far i2 (by simp)).1
    have S := D.sep (a := a) (b := b) ⟨rb_ne rdx nz, rb_ne rdx nO, rb_ne rdx n1, rb_ne rdx n2⟩ ⟨rb_ne rdy nz, rb_ne rdy nO, rb_ne rdy n1, rb_ne rdy n2⟩
    have l1 := rv.length
    have l2 := rv2.length
    have b1 : i < xs.length := (List.getElem?_eq_some_iff.mp hx).1
    have b2 : i < ys.length := (List.getElem?_eq_some_iff.mp hy).1
    have zLt : z < s.heap.objs.size := Heap.lt_size hz
    refine wpAny_pyNext_zipD2_item S (drawsB k1 (prog := X.prog) (w := X.w) (A := X.A.in1) (I.ok.hd calm) i1 a (rb_ne rdx n1) its.toArray) (drawsB k2 (prog := X.prog) (w := X.w) (A := X.A.in1) (I.ok.hd calm) i2 b (rb_ne rdy n2) its2.toArray) hz cTI cTO ⟨h1, p⟩ ⟨h2, p2⟩ (by simp; omega) (by simp; omega) fun u u2 h' tk hu hu2 z' TO' h1' h2' hT grew kept => ?_
    have ru : RelV x u := by
      obtain ⟨u', e1, e2⟩ := rv.get hx
      have e3 : its[i]? = some u := by simpa using hu
      rw [e1] at e3
      cases e3
      exact e2
    have ru2 : RelV y u2 := by
      obtain ⟨u', e1, e2⟩ := rv2.get hy
      have e3 : its2[i]? = some u2 := by simpa using hu2
      rw [e1] at e3
      cases e3
      exact e2
    refine ⟨_, rfl, wpAny_letOwnedTupleGo_zip (s := { s with heap := h', toks := tk }) z' fun h'' z'' sbz => ?_⟩
    have atT : h''.get? s.heap.objs.size = some { cls := .type "tuple", data := .seq #[u, u2] } := (sbz.2 _ (Nat.ne_of_gt zLt)).trans hT
    have okT : ObjOk X.prog X.w (upd H s.heap.objs.size (.tup [x, y])) h'' s.heap.objs.size (.tup [x, y]) :=
      ⟨by show 2 ≤ sizeLine; decide, [u, u2], .cons ru (.cons ru2 .nil), ⟨_, atT, rfl, _, rfl⟩⟩
    have J1 : Inv X pins σ (upd H s.heap.objs.size (.tup [x, y])) { s with heap := h'', toks := tk } :=
      I.turnedNew (t' := tk) (ch := [z, TI, TO, i1, i2]) (fun c o hb q => (sbz.2 c (fun q' => hb (by simp [q']))).trans (kept c o (fun q' => hb (by simp [q'])) (fun q' => hb (by simp [q'])) (fun q' => hb (by simp [q'])) (fun q' => hb (by simp [q'])) q)) far (Nat.le_refl _) okT
    refine ⟨.ref s.heap.objs.size, _, J1, rfl, ⟨_, x, y, rfl, I.hok.fresh (Nat.le_refl _), rfl, fun l hl => by rw [rb_inj I hl rdx]; exact hx, fun l hl => by rw [rb_inj I hl rdy]; exact hy⟩, ⟨z'', ?_, ⟨u, u2, ?_⟩, ?_, ?_⟩, fun c mem5 => ?_⟩
    · exact (sbz.2 _ D.TIz).trans (kept _ _ D.TIz D.TITO D.TIi1 D.TIi2 cTI)
    · exact (sbz.2 _ D.TOz).trans TO'
    · exact itB_at h1'.1 fun o q => (sbz.2 _ D.zi1.symm).trans q
    · exact itB_at h2'.1 fun o q => (sbz.2 _ D.zi2.symm).trans q
    · have cLt : c < s.heap.objs.size := by
        have which : c = z ∨ c = TI ∨ c = TO ∨ c = i1 ∨ c = i2 := by simpa using mem5
        rcases which with q | q | q | q | q
        · rw [q]; exact zLt
        · rw [q]; exact Heap.lt_size cTI
        · rw [q]; exact Heap.lt_size cTO
        · rw [q]; obtain ⟨_, e1, _⟩ := itB_ob h1; exact Heap.lt_size e1
        · rw [q]; obtain ⟨_, e2, _⟩ := itB_ob h2; exact Heap.lt_size e2
      rw [upd_ne (Nat.ne_of_lt cLt)]
      exact (far c mem5).1
  done := by
    intro X eP eW eK calm i pins s σ H E I far cell nxt
    subst eP eW eK
    obtain ⟨hz, cTI, ⟨x0, y0, cTO⟩, h1, h2⟩ := cell
    obtain ⟨xs, ys, rdx, rdy, le1, le2, hend⟩ := nxt
    obtain ⟨its, rv, p, _⟩ := rb_its I rdx
    obtain ⟨its2, rv2, p2, _⟩ := rb_its I rdy
    have l1 := rv.length
    have l2 := rv2.length
    have nz := (far z (by simp)).1
    have nO := (far TO (by simp)).1
    have n1 := (far i1 (by simp)).1
    have n2 := (far i2 (by simp)).1
    have S := D.sep (a := a) (b := b) ⟨rb_ne rdx nz, rb_ne rdx nO, rb_ne rdx n1, rb_ne rdx n2⟩ ⟨rb_ne rdy nz, rb_ne rdy nO, rb_ne rdy n1, rb_ne rdy n2⟩
    have he : i = its.toArray.size ∨ i = its2.toArray.size := by
      rcases hend with q | q
      · exact .inl (by simp; omega)
      · exact .inr (by simp; omega)
    exact wpAny_pyNext_zipD2_end S (drawsB k1 (prog := X.prog) (w := X.w) (A := X.A.in1) (I.ok.hd calm) i1 a (rb_ne rdx n1) its.toArray) (drawsB k2 (prog := X.prog) (w := X.w) (A := X.A.in1) (I.ok.hd calm) i2 b (rb_ne rdy n2) its2.toArray) hz cTI cTO ⟨h1, p⟩ ⟨h2, p2⟩ (by simp; omega) (by simp; omega) he fun h' tk kept => ⟨rfl, I.turnedL (t' := tk) (ch := [z, TI, TO, i1, i2]) (fun c o hb q =>
      kept c o (fun q' => hb (by simp [q'])) (fun q' => hb (by simp [q'])) (fun q' => hb (by simp [q'])) (fun q' => hb (by simp [q'])) q) far⟩
  self := fun A i s Q E cell h => wpAny_pyIter_zip cell.1 h
theorem five (I : Nat) : Five (I + 4 : Nat) (I + 2 : Nat) (I + 3 : Nat) I (I + 1 : Nat) := by
  constructor <;> (intro h; have h : (_ : Nat) = _ := h; omega)
def iZipB (ta : TA) : TI := fun σ H R => ta σ H fun vs H1 => ∃ (k1 k2 : Bool) (a b : Addr) (xs ys : List V), vs = [.ref a, .ref b] ∧ Rb k1 H1 a xs ∧ Rb k2 H1 b ys ∧ R (ItZ k1 k2 a b) H1
theorem pi_zipB {X : Cx} {e e2 : Expr} {ta : TA} {p pos tpos : Pos} {elts : List Expr} {kk : Nat} (nxt : Gl X "zip") (hm : X.mg "zip" = none) (ha : PA X [e, e2] ta)
    (hs : starEach [e, e2] X.env = (false, eval e X.env) :: starEach [e2] X.env) (hpl : (backTo pos (starEach [e2] X.env)).any (·.1) = false) :
    PI X (.Tuple elts kk tpos) (.Call (.Name "zip" p) [e, e2] [] pos) (iZipB ta) := by
  refine ⟨fun pins s σ H R I h => ?_⟩
  refine Call_ (ld_blt I nxt hm PyProof.Rows.boot_zip (PyProof.Rows.callWith_type1 (thn (ha.run pos pins s σ H _ I h) fun us s1 ⟨vs, H1, J1, r1, q1⟩ => ?_) hs hpl))
  obtain ⟨k1, k2, a, b, xs, ys, ex, rdx, rdy, q⟩ := q1
  subst ex
  cases r1 with
  | cons r rr =>
    cases rr with
    | cons r' rr =>
      cases rr
      cases r
      cases r'
      obtain ⟨its, rv, p1, la⟩ := rb_its J1 rdx
      obtain ⟨its2, rv2, p2, lb⟩ := rb_its J1 rdy
      refine zip_begins2 (beginsB k1 a its.toArray) (beginsB k2 b its2.toArray) p1 p2 fun h' hz cTI cTO h1 h2 grew kept => wpAny_pyIter_zip hz ?_
      have J2 : Inv X pins σ H1 { s1 with heap := h' } := J1.kept (t' := s1.toks) kept
      refine ⟨s1.heap.objs.size + 4, [s1.heap.objs.size + 4, s1.heap.objs.size + 2, s1.heap.objs.size + 3, s1.heap.objs.size, s1.heap.objs.size + 1], _, _, H1, rfl, J2, turn_zipB (five s1.heap.objs.size), ⟨hz, cTI, ⟨_, _, cTO⟩, itB_new h1, itB_new h2⟩, fun c mem5 => ?_, q⟩
      have which : c = s1.heap.objs.size + 4 ∨ c = s1.heap.objs.size + 2 ∨ c = s1.heap.objs.size + 3 ∨ c = s1.heap.objs.size ∨ c = s1.heap.objs.size + 1 := by simpa using mem5
      have old5 : s1.heap.objs.size ≤ c := by
        rcases which with z | z | z | z | z
        · rw [z]; exact Nat.le_add_right _ _
        · rw [z]; exact Nat.le_add_right _ _
        · rw [z]; exact Nat.le_add_right _ _
        · rw [z]; exact Nat.le_refl _
        · rw [z]; exact Nat.le_add_right _ _
      exact J1.fpOk old5 (J1.hok.fresh old5)
theorem turn_enumB {P : Program} {w : World} {K : PySem.W.Frag} {elts : List Expr} {kk : Nat} {tpos : Pos} {kd : Bool} (a e it : Addr) :
    Turn P w K (.Tuple elts kk tpos) (ItE kd a) [e, it] e (fun i h => (∃ old, IsEnum h e it ((i : Nat) : Int) old) ∧ itB kd h it a i ∧ e ≠ it) where
  mem := by simp
  obj := fun i h cell b hb => by
    obtain ⟨⟨old, he⟩, cIt, _⟩ := cell
    have which : b = e ∨ b = it := by simpa using hb
    rcases which with z | z
    · rw [z]; exact ⟨_, he, fun v q => nomatch q⟩
    · rw [z]; exact itB_ob cIt
  keep := fun i h h' cell k => let ⟨⟨old, he⟩, hi, eNi⟩ := cell; ⟨⟨old, k e (by simp) _ he⟩, itB_at hi fun o q => k it (by simp) o q, eNi⟩
  item := by
    intro X eP eW eK calm i pins s σ H E I far cell nxt
    subst eP eW eK
    obtain ⟨⟨old, he⟩, cIt, eNi⟩ := cell
    obtain ⟨xs, x, hq, hx⟩ := nxt
    obtain ⟨its, rv, p, _⟩ := rb_its I hq
    have ne := (far e (by simp)).1
    have ni := (far it (by simp)).1
    have l1 := rv.length
    have b1 : i < xs.length := (List.getElem?_eq_some_iff.mp hx).1
    have eLt : e < s.heap.objs.size := Heap.lt_size he
    have iLt : it < s.heap.objs.size := by obtain ⟨_, q, _⟩ := itB_ob cIt; exact Heap.lt_size q
    refine wpAny_pyNext_enum_itemC (drawsB kd (prog := X.prog) (w := X.w) (A := X.A.in1) (I.ok.hd calm) it a (rb_ne hq ni) its.toArray) he ⟨cIt, p⟩ (by simp; omega) eNi (fun z => ?_) fun u h' tk hu ho hit' hT grew kept => ?_
    · rcases List.mem_cons.mp z with z | z
      · exact eNi z
      · exact rb_ne hq ne (List.mem_singleton.mp z).symm
    have ru : RelV x u := by
      obtain ⟨u', e1, e2⟩ := rv.get hx
      have e3 : its[i]? = some u := by simpa using hu
      rw [e1] at e3
      cases e3
      exact e2
    refine ⟨_, rfl, wpAny_letOwnedTupleGo_enum (s := { s with heap := h', toks := tk + 1 }) ho fun h'' he' sbz => ?_⟩
    have atT : h''.get? s.heap.objs.size = some { cls := .type "tuple", data := .seq #[.int i tk, u] } := (sbz.2 _ (Nat.ne_of_gt eLt)).trans hT
    have okT : ObjOk X.prog X.w (upd H s.heap.objs.size (.tup [.int (i : Nat), x])) h'' s.heap.objs.size (.tup [.int (i : Nat), x]) :=
      ⟨by show 2 ≤ sizeLine; decide, [.int i tk, u], .cons ⟨_, rfl⟩ (.cons ru .nil), ⟨_, atT, rfl, _, rfl⟩⟩
    have J1 : Inv X pins σ (upd H s.heap.objs.size (.tup [.int (i : Nat), x])) { s with heap := h'', toks := tk + 1 } :=
      I.turnedNew (ch := [e, it]) (fun b ob hb q => (sbz.2 b (fun z => hb (by simp [z]))).trans (kept b ob (fun z => hb (by simp [z])) (fun z => hb (by simp [z])) q)) far (Nat.le_refl _) okT
    refine ⟨.ref s.heap.objs.size, _, J1, rfl, ⟨_, x, rfl, I.hok.fresh (Nat.le_refl _), rfl, fun ys hy => by rw [rb_inj I hy hq]; exact hx⟩, ⟨⟨u, ?_⟩, itB_at hit'.1 fun o q => (sbz.2 it (Ne.symm eNi)).trans q, eNi⟩, fun b hb => ?_⟩
    · have e1 : ((i + 1 : Nat) : Int) = (i : Int) + 1 := by omega
      rw [e1]; exact he'
    · have hb' : b < s.heap.objs.size := by
        have which : b = e ∨ b = it := by simpa using hb
        rcases which with z | z
        · rw [z]; exact eLt
        · rw [z]; exact iLt
      rw [upd_ne (Nat.ne_of_lt hb')]
      exact (far b hb).1
  done := by
    intro X eP eW eK calm i pins s σ H E I far cell nxt
    subst eP eW eK
    obtain ⟨⟨old, he⟩, cIt, eNi⟩ := cell
    obtain ⟨xs, hq, hx⟩ := nxt
    obtain ⟨its, rv, p, _⟩ := rb_its I hq
    obtain ⟨f0, f1, f2, f3, f4, f5⟩ := far it (by simp)
    have l1 := rv.length
    have hi : i = its.toArray.size := by simp; omega
    exact wpAny_pyNext_enum_endD (drawsB kd (prog := X.prog) (w := X.w) (A := X.A.in1) (I.ok.hd calm) it a (rb_ne hq f0) its.toArray) he (by rw [← hi]; exact ⟨cIt, p⟩) fun h' eb => ⟨rfl, I.turned (t' := s.toks) (fun b o hb q => eb b o hb q) f0 f1 f3 f4 f5⟩
  self := fun A i s Q E cell h => let ⟨⟨_, he⟩, _⟩ := cell; wpAny_pyIter_enum he h
end L2.Mp
set_option Elab.async false
set_option linter.all false
set_option maxRecDepth 100000
set_option maxHeartbeats 4000000
namespace L2.Mp
open PySem PySem.Spec PyProof.Rows L2

/-! ### enumerate(xs), xs a list or a tuple -/
theorem meets_en {v : Value} {o : Obj} {H : Heap → Prop} (B : Begins v o H) :
    Meets (Builtin.«enumerate.__new__» ⟨[.type "enumerate", v], []⟩) (fun _ R s => H s.heap ∧
      R (.ok (.ret (.ref (s.heap.push o).objs.size))) { s with heap := (s.heap.push o).push { cls := .type "enumerate", data := .fields #[.none, .bool false, .ref s.heap.objs.size, rawInt 0, .none, .none] } }) :=
  .of_wp fun prog w A R s h => by
    obtain ⟨hp, g, d, tk, os⟩ := s
    obtain ⟨h1, h⟩ := h
    have hsub := sub_enumerate
    have walk : ∀ {A' : Around} {E Q : Value → Shared → Prop}, Q (.ref hp.objs.size) ⟨hp.push o, g, d, tk, os⟩ → wpAny (model prog w) A' (pyIter v) Q E ⟨hp, g, d, tk, os⟩ :=
      fun q => B.iter prog w _ _ ⟨hp, g, d, tk, os⟩ _ h1 q
    wp_walk using walk
    refine wpAny_stack_any fun st => wpAny_pure ?_
    split
    · rename_i c _ _ _ _ _
      cases (c == Value.type "enumerate") <;> wp_walk using walk <;> exact ⟨_, rfl, h⟩
    · wp_walk using walk
      exact ⟨_, rfl, h⟩
theorem call_en {prog : Program} {w : World} {A : Around} {E : Value → Shared → Prop} {s : Shared} {v : Value} {o : Obj} {H : Heap → Prop} {Q : Value → Shared → Prop} (B : Begins v o H) (h1 : H s.heap)
    (h : ∀ h', IsEnum h' (s.heap.objs.size + 1) s.heap.objs.size 0 .none → h'.get? s.heap.objs.size = some o → (∀ b o, s.heap.get? b = some o → h'.get? b = some o) → Q (.ref (s.heap.objs.size + 1)) { s with heap := h' }) :
    wpAny (model prog w) A (call (.type "enumerate") [v]) Q E s := by
  refine callType_new F.called_enumerate (by decide) (F.typeCall_enumerate_1 _) (F.newCall_enumerate_1 _) (fun obj => F.args_object_init_2 obj _) F.entry_enumerate_new (meets_en B) ⟨h1, ?_⟩
  have grew : (s.heap.push o).objs.size = s.heap.objs.size + 1 := Heap.size_push ..
  show _ ∧ _
  rw [grew]
  have at1 := Heap.get?_push_size (s.heap.push o) (o := { cls := .type "enumerate", data := .fields #[.none, .bool false, .ref s.heap.objs.size, rawInt 0, .none, .none] }) rfl
  rw [grew] at at1
  exact ⟨⟨_, at1, rfl⟩, h _ at1 (Heap.get?_push_of_some _ (Heap.get?_push_size _ B.free)) fun b o x => Heap.get?_push_of_some _ (Heap.get?_push_of_some _ x)⟩
def iEnumB (ta : TA) : TI := fun σ H R => ta σ H fun vs H1 => ∃ (kd : Bool) (a : Addr) (xs : List V), vs = [.ref a] ∧ Rb kd H1 a xs ∧ R (ItE kd a) H1
theorem pi_enumB {X : Cx} {e : Expr} {ta : TA} {p pos tpos : Pos} {elts : List Expr} {kk : Nat} (glo : Gl X "enumerate") (fre : X.mg "enumerate" = none) (ha : PA X [e] ta) (hs : starEach [e] X.env = [(false, eval e X.env)]) :
    PI X (.Tuple elts kk tpos) (.Call (.Name "enumerate" p) [e] [] pos) (iEnumB ta) := by
  refine ⟨fun pins s σ H R inv h => ?_⟩
  refine Call_ (ld_blt inv glo fre boot_enumerate (PyProof.Rows.callWith_type1 (thn (ha.run pos pins s σ H _ inv h) fun us s1 ⟨vs, H1, J1, r1, q1⟩ => ?_) hs rfl))
  obtain ⟨kd, a, xs, rfl, rb, q⟩ := q1
  rw [Vals.ref1 r1]
  obtain ⟨its, rv, p1, la⟩ := rb_its J1 rb
  refine call_en (beginsB kd a its.toArray) p1 fun h' isE itr kept => wpAny_pyIter_enum isE ?_
  have J2 : Inv X pins σ H1 { s1 with heap := h' } := J1.kept (t' := s1.toks) kept
  refine ⟨s1.heap.objs.size + 1, [s1.heap.objs.size + 1, s1.heap.objs.size], _, _, H1, rfl, J2, turn_enumB a (s1.heap.objs.size + 1) s1.heap.objs.size, ⟨⟨.none, isE⟩, itB_new itr, Nat.succ_ne_self _⟩, fun b hb => ?_, q⟩
  have old : s1.heap.objs.size ≤ b := by
    rcases (show b = s1.heap.objs.size + 1 ∨ b = s1.heap.objs.size by simpa using hb) with z | z <;> rw [z]
    · exact Nat.le_succ _
    · exact Nat.le_refl _
  exact J1.fpOk old (J1.hok.fresh old)

section
variable {c : Ct} {cf : CF} {k : Nat} {a b : T} {x y tg : Expr} {pos pos' : Pos}
/-- a list or a tuple, walked -/
theorem pi_sq {X : Cx} {t : TE} (h : PE X x t) : PI X tg x (fun σ H R => t σ H fun v H1 => ∃ (a : Addr) (xs : List V), v = .ref a ∧ ((Rd H1 a (.lst xs) ∧ R (Itl X.K a) H1) ∨ (Rd H1 a (.tup xs) ∧ R (Itt X.K a) H1))) := by
  refine ⟨fun pins s σ H R inv q => ?_⟩
  refine thn (h.run pins s σ H _ inv q) fun v s1 ⟨w, H1, J1, r1, q1⟩ => ?_
  obtain ⟨a, xs, rfl, q1⟩ := q1
  cases r1
  have one : ∀ b, b ∈ [s1.heap.objs.size] → FpOk X pins H1 b := fun b hb => by
    rw [List.mem_singleton.mp hb]
    exact J1.fpOk (Nat.le_refl _) (J1.hok.fresh (Nat.le_refl _))
  rcases q1 with ⟨rd, q⟩ | ⟨rd, q⟩
  · obtain ⟨its, rv, p, _⟩ := J1.list (.inl rd)
    exact wpAny_pyIter_list p.isList ⟨_, _, _, _, H1, rfl, J1.kept (t' := s1.toks) fun b o => Heap.get?_push_of_some _, turn_list a _, ⟨_, Heap.get?_push_size _ rfl, rfl, rfl⟩, one, q⟩
  · obtain ⟨its, rv, p, _⟩ := J1.tuple (.inl rd)
    exact wpAny_pyIter_tuple (show s1.heap.IsTuple a its.toArray from p) ⟨_, _, _, _, H1, rfl, J1.kept (t' := s1.toks) fun b o => Heap.get?_push_of_some _, turn_tuple a _, ⟨_, Heap.get?_push_size _ rfl, rfl, rfl⟩, one, q⟩
theorem DpAll.getV {K : PySem.W.Frag} {G : Hp} {vs : List V} {ds : List D} {i : Nat} {d : D} {v : V} (h : DpAll K G vs ds) (e : ds[i]? = some d) (e2 : vs[i]? = some v) : Dp K G v d := by
  obtain ⟨u, h1, h2⟩ := DpAll.get h e
  rw [e2] at h1
  cases h1
  exact h2
theorem itd_list {K : PySem.W.Frag} {G : Hp} {a : Addr} {vs : List V} {ds : List D} (h : Rd G a (.lst vs)) (hd : DpAll KZ G vs ds) : ItD KZ G (Itl K a) ds := by
  intro G1 H1 s1 s2
  have rd : SqL K H1 a vs := .inl (Rd.same (s1.trans s2) h)
  refine ⟨fun i hi => ?_, ⟨vs, rd, by rw [DpAll.length hd]; exact Nat.le_refl _⟩, fun i d v H2 e hy => .inl ?_⟩
  · obtain ⟨v, e, _⟩ := DpAll.get hd (List.getElem?_eq_getElem hi)
    exact ⟨vs, v, rd, e⟩
  · obtain ⟨e1, e2⟩ := hy
    exact ⟨e1, Dp.same s1 _ _ (DpAll.getV hd e (e2 vs rd))⟩
theorem itd_tup {K : PySem.W.Frag} {G : Hp} {a : Addr} {vs : List V} {ds : List D} (h : Rd G a (.tup vs)) (hd : DpAll KZ G vs ds) : ItD KZ G (Itt K a) ds := by
  intro G1 H1 s1 s2
  have rd : SqT K H1 a vs := .inl (Rd.same (s1.trans s2) h)
  refine ⟨fun i hi => ?_, ⟨vs, rd, by rw [DpAll.length hd]; exact Nat.le_refl _⟩, fun i d v H2 e hy => .inl ?_⟩
  · obtain ⟨v, e, _⟩ := DpAll.get hd (List.getElem?_eq_getElem hi)
    exact ⟨vs, v, rd, e⟩
  · obtain ⟨e1, e2⟩ := hy
    exact ⟨e1, Dp.same s1 _ _ (DpAll.getV hd e (e2 vs rd))⟩
theorem iota_len : ∀ (n : Nat) (lo : Int), (iota lo n).length = n
  | 0, _ => rfl
  | n + 1, lo => congrArg (· + 1) (iota_len n (lo + 1))
theorem iota_get : ∀ (n : Nat) (lo : Int) (i : Nat) (d : D), (iota lo n)[i]? = some d → d = .int (lo + i)
  | 0, lo, i, d, h => by simp [iota] at h
  | n + 1, lo, 0, d, h => by
    have h : some (PyData.int lo) = some d := h
    cases h
    simp
  | n + 1, lo, i + 1, d, h => by
    have := iota_get n (lo + 1) i d h
    rw [this]
    congr 1
    omega
theorem itd_rng {G : Hp} {lo : Int} {n : Nat} : ItD KZ G (Itr lo n) (iota lo n) := by
  intro G1 H1 s1 s2
  refine ⟨fun i hi => ?_, ?_, fun i d v H2 e hy => .inl ?_⟩
  · rw [iota_len] at hi
    exact hi
  · rw [iota_len]
    exact Nat.le_refl _
  · obtain ⟨e1, e2⟩ := hy
    rw [iota_get n lo i d e, e2]
    exact ⟨e1, .int _⟩
theorem zipF_len : ∀ (xs ys : List D), (zipF xs ys).length = min xs.length ys.length
  | [], _ => by simp [zipF]
  | _ :: _, [] => by simp [zipF]
  | x :: r, y :: s => by
    show (zipF r s).length + 1 = _
    rw [zipF_len r s, List.length_cons, List.length_cons]
    omega
theorem zipF_get : ∀ (xs ys : List D) (i : Nat) (d : D), (zipF xs ys)[i]? = some d → ∃ x y, xs[i]? = some x ∧ ys[i]? = some y ∧ d = .tuple [x, y]
  | [], _, i, d, h => by simp [zipF] at h
  | _ :: _, [], i, d, h => by simp [zipF] at h
  | x :: r, y :: s, 0, d, h => by
    have h : some (PyData.tuple [x, y]) = some d := h
    cases h
    exact ⟨x, y, rfl, rfl, rfl⟩
  | x :: r, y :: s, i + 1, d, h => zipF_get r s i d h
theorem enumF_len : ∀ (xs : List D) (n : Int), (enumF n xs).length = xs.length
  | [], _ => rfl
  | _ :: r, n => congrArg (· + 1) (enumF_len r (n + 1))
theorem enumF_get : ∀ (xs : List D) (n : Int) (i : Nat) (d : D), (enumF n xs)[i]? = some d → ∃ x, xs[i]? = some x ∧ d = .tuple [.int (n + i), x]
  | [], _, i, d, h => by simp [enumF] at h
  | x :: r, n, 0, d, h => by
    have h : some (PyData.tuple [.int n, x]) = some d := h
    cases h
    exact ⟨x, rfl, by simp⟩
  | x :: r, n, i + 1, d, h => by
    obtain ⟨y, e, e2⟩ := enumF_get r (n + 1) i d h
    refine ⟨y, e, ?_⟩
    rw [e2]
    congr 2
    congr 1
    omega
theorem rb_same {kd : Bool} {G G' : Hp} (s : Same G G') {a : Addr} {xs : List V} (h : Rb kd G a xs) : Rb kd G' a xs := Rd.same s h
theorem itd_zip {k1 k2 : Bool} {G : Hp} {a b : Addr} {vs us : List V} {ds es : List D} (h : Rb k1 G a vs) (hd : DpAll KZ G vs ds) (h' : Rb k2 G b us) (he : DpAll KZ G us es) : ItD KZ G (ItZ k1 k2 a b) (zipF ds es) := by
  intro G1 H1 s1 s2
  have r1 := rb_same (s1.trans s2) h
  have r2 := rb_same (s1.trans s2) h'
  have l1 := DpAll.length hd
  have l2 := DpAll.length he
  refine ⟨fun i hi => ?_, ⟨vs, us, r1, r2, ?_⟩, fun i d v H2 e hy => .inr ?_⟩
  · obtain ⟨p, q, e1, e2, _⟩ := zipF_get ds es i _ (List.getElem?_eq_getElem hi)
    obtain ⟨v, e3, _⟩ := DpAll.get hd e1
    obtain ⟨u, e4, _⟩ := DpAll.get he e2
    exact ⟨vs, us, v, u, r1, r2, e3, e4⟩
  · rw [zipF_len, l1, l2]
    omega
  · obtain ⟨p, q, e1, e2, rfl⟩ := zipF_get ds es i d e
    obtain ⟨T, v1, v2, e3, e4, e5, e6, e7⟩ := hy
    exact ⟨T, _, _, e3, rfl, e4, e5, .cons (Dp.same s1 _ _ (DpAll.getV hd e1 (e6 vs r1))) (.cons (Dp.same s1 _ _ (DpAll.getV he e2 (e7 us r2))) .nil)⟩
theorem itd_enum {kd : Bool} {G : Hp} {a : Addr} {vs : List V} {ds : List D} (h : Rb kd G a vs) (hd : DpAll KZ G vs ds) : ItD KZ G (ItE kd a) (enumF 0 ds) := by
  intro G1 H1 s1 s2
  have r1 := rb_same (s1.trans s2) h
  refine ⟨fun i hi => ?_, ⟨vs, r1, by rw [enumF_len, DpAll.length hd]⟩, fun i d v H2 e hy => .inr ?_⟩
  · obtain ⟨p, e1, _⟩ := enumF_get ds 0 i _ (List.getElem?_eq_getElem hi)
    obtain ⟨v, e3, _⟩ := DpAll.get hd e1
    exact ⟨vs, v, r1, e3⟩
  · obtain ⟨p, e1, rfl⟩ := enumF_get ds 0 i d e
    obtain ⟨T, v1, e3, e4, e5, e6⟩ := hy
    rw [Int.zero_add]
    exact ⟨T, _, _, e3, rfl, e4, e5, .cons (.int _) (.cons (Dp.same s1 _ _ (DpAll.getV hd e1 (e6 vs r1))) .nil)⟩
theorem items_dp {K : PySem.W.Frag} {G : Hp} {v : V} {d : D} {xs : List D} (h : Dp KZ G v d) (e : itemsOf d = some xs) : ∃ (kd : Bool) (p : Addr) (us : List V), v = .ref p ∧ Rb kd G p us ∧ DpAll KZ G us xs := by
  cases d with
  | list ds =>
    cases e
    cases h with
    | lst h1 h2 => exact ⟨false, _, _, rfl, rd_of h1, h2⟩
  | tuple ds =>
    cases e
    cases h with
    | tup h1 h2 => exact ⟨true, _, _, rfl, rt_of h1, h2⟩
  | _ => cases e
theorem fz_nrm' (r : RV) (e : Fm) : fz (nrm r) e = fz r e := by cases r <;> rfl
theorem src_seq (ha : GoodE c cf k a x) : GoodI c cf k (.sSeq a) tg x := by
  intro X ok F G H S σ e Q W tk l hq
  refine ofI (pi_sq pe_w) ?_
  refine rvE ha ok tk l hq fun ra e1 v H1 G1 s1 l1 r1 hp => ?_
  cases q1 : fz ra e1 with
  | none => rw [q1] at hp; exact hp.elim
  | some w =>
    obtain ⟨d, e2⟩ := w
    rw [q1] at hp
    obtain ⟨G2, s2, l2, d2⟩ := r1.fz l1 q1
    cases d with
    | list ds =>
      cases d2 with
      | lst h1 h2 => exact ⟨_, _, rfl, .inl ⟨Rd.same l2.g (rd_of h1), (Po.mono s2 hp) _ H1 G2 (Same.refl G2) l2 (itd_list (rd_of h1) h2)⟩⟩
    | tuple ds =>
      cases d2 with
      | tup h1 h2 => exact ⟨_, _, rfl, .inr ⟨Rd.same l2.g (rt_of h1), (Po.mono s2 hp) _ H1 G2 (Same.refl G2) l2 (itd_tup (rt_of h1) h2)⟩⟩
    | _ => exact hp.elim
theorem starOne {env : Env} (h : isStar x = false) : starEach [x] env = [(false, eval x env)] := star_cons h
theorem src_r1 (ha : GoodE c cf k a x) (hs : isStar x = false) (hf : ("range" : Str) ∈ c.fr) (hg : gloB c.sc "range" = true) : GoodI c cf k (.sR1 a) tg (.Call (.Name "range" pos') [x] [] pos) := by
  intro X ok F G H S σ e Q W tk l hq
  refine ofI (pi_range1 (ok.glo hg) (ok.gb.fr _ hf) (pa_cons pe_w pa_nil (star_cons hs)) (starOne hs)) ?_
  refine rvE ha ok tk l hq fun ra e1 v H1 G1 s1 l1 r1 hp => ?_
  obtain ⟨G2, s2, l2, r2⟩ := r1.nrm l1
  cases q1 : rd ra e1 with
  | none => rw [q1] at hp; exact hp.elim
  | some w =>
    rw [q1] at hp
    cases w with
    | int n =>
      dsimp only at hp
      split at hp
      · rename_i hm
        obtain rfl := (r2.rd l2 q1).int
        exact ⟨n, rfl, hm.1, hm.2, (Po.mono s2 hp) _ H1 G2 (Same.refl G2) l2 itd_rng⟩
      · exact hp.elim
    | _ => exact hp.elim
theorem src_r2 (ha : GoodE c cf k a x) (hb : GoodE c cf k b y) (hs : isStar x = false) (hs' : isStar y = false) (hf : ("range" : Str) ∈ c.fr) (hg : gloB c.sc "range" = true) : GoodI c cf k (.sR2 a b) tg (.Call (.Name "range" pos') [x, y] [] pos) := by
  intro X ok F G H S σ e Q W tk l hq
  refine ofI (pi_range2 (ok.glo hg) (ok.gb.fr _ hf) (pa_cons pe_w (pa_cons pe_w pa_nil (star_cons hs')) (star_cons hs)) (by rw [star_cons hs, starOne hs']) (starOne hs')) ?_
  refine rvE2 ha hb ok tk l hq fun ra rb e2 v u H2 G2 s2 l2 r1 r2 hp => ?_
  cases q1 : rd ra e2 with
  | none => rw [q1] at hp; exact hp.elim
  | some p =>
    cases q2 : rd rb e2 with
    | none =>
      rw [q1, q2] at hp
      cases p <;> exact hp.elim
    | some q =>
      rw [q1, q2] at hp
      cases p with
      | int m =>
        cases q with
        | int n =>
          dsimp only at hp
          split at hp
          · rename_i hm
            obtain rfl := (r1.rd l2 q1).int
            obtain rfl := (r2.rd l2 q2).int
            exact ⟨m, n, rfl, hm, hp _ H2 G2 (Same.refl G2) l2 itd_rng⟩
          · exact hp.elim
        | _ => exact hp.elim
      | _ => cases q <;> exact hp.elim
theorem src_zip {elts : List Expr} {j : Nat} {tpos : Pos} (ha : GoodE c cf k a x) (hb : GoodE c cf k b y) (hs : isStar x = false) (hs' : isStar y = false) (hf : ("zip" : Str) ∈ c.fr) (hg : gloB c.sc "zip" = true) : GoodI c cf k (.sZip a b) (.Tuple elts j tpos) (.Call (.Name "zip" pos') [x, y] [] pos) := by
  intro X ok F G H S σ e Q W tk l hq
  refine ofI (pi_zipB (ok.glo hg) (ok.gb.fr _ hf) (pa_cons pe_w (pa_cons pe_w pa_nil (star_cons hs')) (star_cons hs)) (star_cons hs) (nostar_back fun z hz => by rw [List.mem_singleton.mp hz]; exact hs')) ?_
  refine rvE2 ha hb ok tk l hq fun ra rb e2 v u H2 G2 s2 l2 r1 r2 hp => ?_
  cases q1 : fz ra e2 with
  | none => rw [q1] at hp; exact hp.elim
  | some p =>
    obtain ⟨d1, e3⟩ := p
    rw [q1] at hp
    dsimp only at hp
    obtain ⟨G3, s3, l3, p3⟩ := r1.fz l2 (by rw [fz_nrm']; exact q1)
    cases q2 : fz rb e3 with
    | none => rw [q2] at hp; exact hp.elim
    | some q =>
      obtain ⟨d2, e4⟩ := q
      rw [q2] at hp
      dsimp only at hp
      have r2' : RvOk KZ F G3 H2 σ e3 u (nrm rb) := r2.later s3
      obtain ⟨G4, s4, l4, p4⟩ := r2'.fz l3 (by rw [fz_nrm']; exact q2)
      cases q3 : itemsOf d1 with
      | none => rw [q3] at hp; exact hp.elim
      | some xs =>
        cases q4 : itemsOf d2 with
        | none => rw [q3, q4] at hp; exact hp.elim
        | some ys =>
          rw [q3, q4] at hp
          obtain ⟨k1, a1, us, rfl, h1, h2⟩ := items_dp (K := KZ) (Dp.same s4 _ _ p3) q3
          obtain ⟨k2, a2, ws, rfl, h3, h4⟩ := items_dp (K := KZ) p4 q4
          exact ⟨k1, k2, a1, a2, us, ws, rfl, rb_same l4.g h1, rb_same l4.g h3, (Po.mono (s3.trans s4) hp) _ H2 G4 (Same.refl G4) l4 (itd_zip h1 h2 h3 h4)⟩
theorem src_enum {elts : List Expr} {j : Nat} {tpos : Pos} (ha : GoodE c cf k a x) (hs : isStar x = false) (hf : ("enumerate" : Str) ∈ c.fr) (hg : gloB c.sc "enumerate" = true) : GoodI c cf k (.sEnum a) (.Tuple elts j tpos) (.Call (.Name "enumerate" pos') [x] [] pos) := by
  intro X ok F G H S σ e Q W tk l hq
  refine ofI (pi_enumB (ok.glo hg) (ok.gb.fr _ hf) (pa_cons pe_w pa_nil (star_cons hs)) (starOne hs)) ?_
  refine rvE ha ok tk l hq fun ra e1 v H1 G1 s1 l1 r1 hp => ?_
  cases q1 : fz ra e1 with
  | none => rw [q1] at hp; exact hp.elim
  | some p =>
    obtain ⟨d1, e3⟩ := p
    rw [q1] at hp
    dsimp only at hp
    obtain ⟨G3, s3, l3, p3⟩ := r1.fz l1 q1
    cases q3 : itemsOf d1 with
    | none => rw [q3] at hp; exact hp.elim
    | some xs =>
      rw [q3] at hp
      obtain ⟨k1, a1, us, rfl, h1, h2⟩ := items_dp (K := KZ) p3 q3
      exact ⟨k1, a1, us, rfl, rb_same l3.g h1, (Po.mono s3 hp) _ H1 G3 (Same.refl G3) l3 (itd_enum h1 h2)⟩
end
end L2.Mp
set_option Elab.async false
set_option linter.all false
set_option maxRecDepth 100000
set_option maxHeartbeats 4000000
namespace L2.Mp
open PySem PySem.Spec PyProof.Rows L2

/-! ### slots forgotten and brought back -/
section
variable {K : PySem.W.Frag} {F G H : Hp} {S σ : St} {e : Fm}
theorem Rl.cut (r : Rl K F G H S σ e) (i : Nat) : Rl K F G H S (σ.set i none) (e.set i .no) where
  g := r.g
  f := r.f
  fg := r.fg
  len := by rw [List.length_set, List.length_set]; exact r.len
  val := fun j x h => by
    rcases get_set h with ⟨rfl, z, hl⟩ | ⟨hj, h⟩
    · cases z
    · rw [List.getElem?_set_ne (Ne.symm hj)]
      exact r.val j x h
  own := fun j jo es h => by
    rcases get_set h with ⟨rfl, z, hl⟩ | ⟨hj, h⟩
    · cases z
    · rw [List.getElem?_set_ne (Ne.symm hj)]
      exact r.own j jo es h
  inj := fun j k jo ko es fs b q1 q2 h1 h2 => by
    rcases get_set q1 with ⟨rfl, z, _⟩ | ⟨hj, q1⟩
    · cases z
    · rcases get_set q2 with ⟨rfl, z, _⟩ | ⟨hk, q2⟩
      · cases z
      · rw [List.getElem?_set_ne (Ne.symm hj)] at h1
        rw [List.getElem?_set_ne (Ne.symm hk)] at h2
        exact r.inj j k jo ko es fs b q1 q2 h1 h2
theorem Rl.wipe (r : Rl K F G H S σ e) : ∀ vs : List Nat, Rl K F G H S (L2.wipe σ vs) (wipeS vs e)
  | [] => r
  | v :: vs => (Rl.wipe r vs).cut v
theorem wipeS_len : ∀ (vs : List Nat) (e : Fm), (wipeS vs e).length = e.length
  | [], _ => rfl
  | v :: vs, e => by
    show ((wipeS vs e).set v .no).length = _
    rw [List.length_set, wipeS_len vs e]
theorem wipeS_out {j : Nat} : ∀ {vs : List Nat} {e : Fm}, j ∉ vs → (wipeS vs e)[j]? = e[j]?
  | [], _, _ => rfl
  | v :: vs, e, h => by
    show ((wipeS vs e).set v .no)[j]? = _
    rw [List.getElem?_set_ne (fun z => h (by rw [z]; exact List.mem_cons_self)), wipeS_out fun z => h (List.mem_cons_of_mem _ z)]
theorem wipe_keep {j : Nat} : ∀ {vs : List Nat} {σ : St}, j ∉ vs → (L2.wipe σ vs)[j]? = σ[j]?
  | [], _, _ => rfl
  | v :: vs, σ, h => by
    show ((L2.wipe σ vs).set v none)[j]? = _
    rw [List.getElem?_set_ne (fun z => h (by rw [z]; exact List.mem_cons_self)), wipe_keep fun z => h (List.mem_cons_of_mem _ z)]
theorem wipe_in {j : Nat} : ∀ {vs : List Nat} {σ : St}, j ∈ vs → j < σ.length → (L2.wipe σ vs)[j]? = some none
  | v :: vs, σ, h, hl => by
    show ((L2.wipe σ vs).set v none)[j]? = _
    by_cases hv : v = j
    · subst hv
      rw [List.getElem?_set_self (by rw [wipe_length]; exact hl)]
    · rw [List.getElem?_set_ne hv]
      rcases List.mem_cons.mp h with z | z
      · exact absurd z.symm hv
      · exact wipe_in z hl
theorem wipe_eq {vs : List Nat} {σ σ' : St} (hl : σ'.length = σ.length) (h : ∀ j, j ∉ vs → σ'[j]? = σ[j]?) : L2.wipe σ' vs = L2.wipe σ vs := by
  refine List.ext_getElem? fun j => ?_
  by_cases hj : j ∈ vs
  · by_cases hb : j < σ.length
    · rw [wipe_in hj hb, wipe_in hj (by rw [hl]; exact hb)]
    · rw [List.getElem?_eq_none (by rw [wipe_length, hl]; omega), List.getElem?_eq_none (by rw [wipe_length]; omega)]
  · rw [wipe_keep hj, wipe_keep hj, h j hj]
theorem wipe_apart {vs is : List Nat} {σ σ' : St} (a : Apart is (L2.wipe σ vs) σ') (hi : ∀ i ∈ is, i ∈ vs) : L2.wipe σ' vs = L2.wipe σ vs :=
  wipe_eq (a.1.trans (wipe_length σ vs)) fun j hj => (a.2 j fun z => hj (hi j z)).trans (wipe_keep hj)
theorem backS_len (e0 : Fm) : ∀ (vs : List Nat) (e : Fm), (backS e0 vs e).length = e.length
  | [], _ => rfl
  | v :: vs, e => by
    show ((backS e0 vs e).set v _).length = _
    rw [List.length_set, backS_len e0 vs e]
theorem backS_get {e0 : Fm} {j : Nat} {s : Slot} : ∀ {vs : List Nat} {e : Fm}, e.length = e0.length → (backS e0 vs e)[j]? = some s → (j ∈ vs ∧ e0[j]? = some s) ∨ (j ∉ vs ∧ e[j]? = some s)
  | [], e, hl, h => .inr ⟨List.not_mem_nil, h⟩
  | v :: vs, e, hl, h => by
    have h : ((backS e0 vs e).set v (e0.getD v .no))[j]? = some s := h
    rcases get_set h with ⟨rfl, z, hb⟩ | ⟨hj, h⟩
    · refine .inl ⟨List.mem_cons_self, ?_⟩
      rw [backS_len, hl] at hb
      rw [z, List.getD_eq_getElem?_getD, List.getElem?_eq_getElem hb]
      rfl
    · rcases backS_get hl h with ⟨h1, h2⟩ | ⟨h1, h2⟩
      · exact .inl ⟨List.mem_cons_of_mem _ h1, h2⟩
      · refine .inr ⟨fun z => ?_, h2⟩
        rcases List.mem_cons.mp z with z | z
        · exact hj z
        · exact h1 z
theorem Rl.back {G0 H0 : Hp} {e0 : Fm} {vs : List Nat} (l0 : Rl K F G0 H0 S σ e0) (s : Same G0 G) (l : Rl K F G H S (L2.wipe σ vs) (wipeS vs e)) (hv : vs.any (fun i => isOwnS e0[i]?) = false) : Rl K F G H S σ (backS e0 vs e) := by
  have hl : e.length = e0.length := by
    have := l.len
    rw [wipeS_len, wipe_length] at this
    rw [this, l0.len]
  have noo : ∀ j ∈ vs, ∀ io ds, e0[j]? ≠ some (.own io ds) := fun j hj io ds z => by
    have := (List.any_eq_false.mp hv) j hj
    rw [z] at this
    exact this rfl
  have own2 : ∀ (j : Nat) (io : Bool) (ds : List D), (backS e0 vs e)[j]? = some (.own io ds) → j ∉ vs ∧ (wipeS vs e)[j]? = some (.own io ds) := fun j io ds h => by
    rcases backS_get hl h with ⟨h1, h2⟩ | ⟨h1, h2⟩
    · exact absurd h2 (noo j h1 io ds)
    · exact ⟨h1, by rw [wipeS_out h1]; exact h2⟩
  refine ⟨l.g, l.f, l.fg, by rw [backS_len, hl, l0.len], fun j d h => ?_, fun j io ds h => ?_, fun j k jo ko es fs b q1 q2 h1 h2 => ?_⟩
  · rcases backS_get hl h with ⟨h1, h2⟩ | ⟨h1, h2⟩
    · obtain ⟨v, h3, h4⟩ := l0.val j d h2
      exact ⟨v, h3, Dp.same s _ _ h4⟩
    · obtain ⟨v, h3, h4⟩ := l.val j d (by rw [wipeS_out h1]; exact h2)
      rw [wipe_keep h1] at h3
      exact ⟨v, h3, h4⟩
  · obtain ⟨h1, h2⟩ := own2 j io ds h
    obtain ⟨a, us, h3, h4⟩ := l.own j io ds h2
    rw [wipe_keep h1] at h3
    exact ⟨a, us, h3, h4⟩
  · obtain ⟨n1, p1⟩ := own2 j jo es q1
    obtain ⟨n2, p2⟩ := own2 k ko fs q2
    exact l.inj j k jo ko es fs b p1 p2 (by rw [wipe_keep n1]; exact h1) (by rw [wipe_keep n2]; exact h2)
/-- what nobody tells of is changed -/
theorem Rl.chg (r : Rl K F G H S σ e) {a : Addr} {o : HO} (hg : G a = none) (hf : F a = none) (no : NoOwn σ e a) : Rl K F G (upd H a o) S σ e where
  g := fun b u q => by rw [upd_ne (ne_of_none q hg)]; exact r.g b u q
  f := fun b u q => by rw [upd_ne (ne_of_none q hf)]; exact r.f b u q
  fg := r.fg
  len := r.len
  val := r.val
  own := fun i io ds h => by
    obtain ⟨b, vs, h1, h2, h3, h4, h5, h6⟩ := r.own i io ds h
    have ne : b ≠ a := fun z => no i io ds h (by rw [← z]; exact h1)
    exact ⟨b, vs, h1, by rw [upd_ne ne]; exact h2, h3, h4, h5, h6⟩
  inj := r.inj
end

/-! ### tests of a comprehension -/
abbrev wxC (X : Cx) (ifs : List Expr) : TT := fun σ H Q => ∀ pins s, Inv X pins σ H s → wpAny (model X.prog X.w) X.A (forIn ifs true fun c r => if r = true then do let ok ← isTrue c X.env (eval c X.env); pure (ForInStep.yield ok) else pure (ForInStep.yield r)) (TP X pins σ Q) X.xe s
theorem ofC {X : Cx} {ifs : List Expr} {t : TT} {σ : St} {H : Hp} {Q : Bool → Hp → Prop} (h : PTs X ifs t) (q : t σ H Q) : wxC X ifs σ H Q := fun pins s I => h.run pins s σ H Q I q
def evC (cf : CF) (t : T) (e : Fm) : R Bool := match t with
  | .absent => .ok true e
  | _ => testR (ev cf t e)
def GoodC (c : Ct) (cf : CF) (k : Nat) (t : T) (ifs : List Expr) : Prop := ∀ X, XOk c cf k X → ∀ F G H S σ e Q W, Takes X W → Rl KZ F G H S σ e → Po X F S W (pT X F S σ Q) G (evC cf t e) → wxC X ifs σ H Q
section
variable {c : Ct} {cf : CF} {k : Nat} {a b d : T} {x y : Expr}
theorem good_noif : GoodC c cf k .absent [] := fun X ok F G H S σ e Q W tk l hq => ofC pts_nil (hq H G (Same.refl G) l)
theorem good_if (h : GoodT c cf k a x) (hn : ∀ e, evC cf a e = testR (ev cf a e)) : GoodC c cf k a [x] := fun X ok F G H S σ e Q W tk l hq => ofC (pts_one pt_w) (h X ok F G H S σ e Q W tk l (by rw [← hn]; exact hq))
end

/-! ### the block of a comprehension -/
def nameAt (N : List Str) (i : Nat) : Str := N.getD i ""
def ownOf (N : List Str) (vs : List Nat) : List (Str × Nat) := vs.map fun i => (nameAt N i, i)
theorem ownOf_ix (N : List Str) (vs : List Nat) : (ownOf N vs).map (·.2) = vs := by
  unfold ownOf
  rw [List.map_map]
  show vs.map (fun i => i) = vs
  rw [List.map_id']
theorem takesF {X : Cx} : Takes X fun _ _ _ _ => False := fun u s' ⟨_, _, _, _, _, _, _, _, _, _, _, _, _, _, _, _, w⟩ => w.elim
section
variable {c : Ct} {cf : CF} {k : Nat} {X : Cx}
theorem blk_ok (ok : XOk c cf k X) {scope : Scope} {vs : List Nat} (h : blkC c.N c.sc scope (ownOf c.N vs) = true) : BlkOk X.N X.env.scope scope (ownOf c.N vs) := by
  obtain ⟨h1, h2, h3, h4, h5⟩ := blkOk_by h
  rw [ok.N]
  refine ⟨h1, h2, h3, fun y hy e => ?_, h5⟩
  rcases h4 y hy e with q | q
  · exact .inl ((ok.sc _ _ q).1 (by decide))
  · exact (ok.sc _ _ q).2 rfl
theorem blk_xok (ok : XOk c cf k X) {scope : Scope} {vs : List Nat} (h : blkC c.N c.sc scope (ownOf c.N vs) = true) (s : Shared) (H : Hp) (C : Addr) (cl : List (Str × Addr)) (fp : List Addr) : XOk { c with sc := scope } cf k (X.blk s H scope (compEnvC scope cl C X.env) fp) where
  N := ok.N
  nd := ok.nd
  calm := ok.calm
  room := ok.room
  kind := (blk_ok ok h).kind
  sc := fun x q hq => ⟨fun hn => lookup_relS_keep hn hq, fun hf => by
    subst hf
    have key : ∀ r, (relS scope X.env.scope).names.lookup x = some r → r = .cell ∨ r = .free := fun r hr => by
      obtain ⟨k', e1, e2⟩ := lookup_relS hr
      have hq : scope.names.lookup x = some .free := hq
      rw [hq] at e1
      cases e1
      rcases e2 with rfl | ⟨_, rfl⟩
      · exact .inr rfl
      · exact .inl rfl
    have hm : x ∈ (relS scope X.env.scope).names.map (·.1) := by
      have h1 : (x, NameKind.free) ∈ scope.names := PySem.mem_of_lookup hq
      refine List.mem_map.mpr ⟨if (NameKind.free == .free && X.env.scope.kind == .function && X.env.scope.names.lookup x == some .cell) then (x, .cell) else (x, .free), List.mem_map.mpr ⟨_, h1, rfl⟩, ?_⟩
      split <;> rfl
    have hs : ∃ r, (relS scope X.env.scope).names.lookup x = some r := by
      obtain ⟨p, hp, rfl⟩ := List.mem_map.mp hm
      exact mem_lookup hp
    obtain ⟨r, hr⟩ := hs
    show (relS scope X.env.scope).names.lookup x = _ ∨ (relS scope X.env.scope).names.lookup x = _
    rw [hr]
    rcases key r hr with rfl | rfl
    · exact .inl rfl
    · exact .inr rfl⟩
  fnc := fun x hx => by
    show (scope.names.lookup x == some .cell) = true
    have hx : scope.names.lookup x = some .cell := hx
    rw [hx]
    rfl
  gb := ok.gb
end
end L2.Mp
set_option Elab.async false
set_option linter.all false
set_option maxRecDepth 100000
set_option maxHeartbeats 4000000
namespace L2.Mp
open PySem PySem.Spec PyProof.Rows L2
section
variable {c : Ct} {cf : CF} {k : Nat} {a b d : T} {x y : Expr} {X : Cx} {F G H : Hp} {S σ : St} {e : Fm} {W : WX} {β : Type} {p : Pp β}
/-- an expression's post, its use told -/
theorem rvP {m : R Val} {kk : RV → Fm → R β} (hp : Po X F S W p G (m.rv kk)) {Q : VK}
    (hk : ∀ r e1 v H1 G1, Same G G1 → Rl KZ F G1 H1 S σ e1 → RvOk KZ F G1 H1 σ e1 v r → Po X F S W p G1 (kk r e1) → Q v H1) : Po X F S W (pE X F S σ Q) G m := by
  cases m with
  | bad => exact hp
  | rz z e1 => exact hp
  | ok v e1 =>
    cases v with
    | rv r => exact fun u H' G' s l' r' => hk r e1 u H' G' s l' r' (Po.mono s hp)
    | _ => exact hp
/-- an item comes -/
theorem itd_step {J : It} {items : List D} (it : ItD KZ G J items) {G' H' H2 : Hp} {i : Nat} {v : V} (s : Same G G') (l : Rl KZ F G' H' S σ e) (hi : i < items.length) (hy : J.yld i H' v H2) : ∃ G2, Same G' G2 ∧ Rl KZ F G2 H2 S σ e ∧ Dp KZ G2 v items[i] := by
  obtain ⟨_, _, h⟩ := it G' H' s l.g
  rcases h i items[i] v H2 (List.getElem?_eq_getElem hi) hy with ⟨rfl, dv⟩ | ⟨T, xs, ds, rfl, e1, e2, rfl, e3⟩
  · exact ⟨G', Same.refl G', l, dv⟩
  · have sm := smUpdN (o := .tup xs) (smNone l.g e2)
    refine ⟨_, sm, l.newG e2, ?_⟩
    rw [e1]
    exact .tup (.inl (.inl upd_same)) (Dp.sameAll sm _ _ e3)
theorem loop_go {J : It} {items : List D} {step : D → Fm → List D → R (List D)} {own : List Nat} {Dn : Addr} {us0 : List V} {acc0 accF : List D} {e0 eF : Fm} {B : (Hp → Prop) → V → Hp → Prop} {QD : Hp → Prop}
    (it : ItD KZ G J items) (l : Rl KZ (upd F Dn (.lst us0)) G H S (L2.wipe σ own) (wipeS own e0)) (da : DpAll KZ G us0 acc0) (hc : cLoop step items e0 acc0 = .ok accF eF)
    (turn : ∀ d e acc acc1 e1 x H' G' us (Nx : Hp → Prop), step d e acc = .ok acc1 e1 → Same G G' → Rl KZ (upd F Dn (.lst us)) G' H' S (L2.wipe σ own) (wipeS own e) → DpAll KZ G' us acc → Dp KZ G' x d →
      (∀ H2 G2 us2, Same G G2 → Rl KZ (upd F Dn (.lst us2)) G2 H2 S (L2.wipe σ own) (wipeS own e1) → DpAll KZ G2 us2 acc1 → Nx H2) → B Nx x H')
    (fin : ∀ H' G' us, Same G G' → Rl KZ (upd F Dn (.lst us)) G' H' S (L2.wipe σ own) (wipeS own eF) → DpAll KZ G' us accF → QD H') :
    ∃ W : Nat → Nat → Hp → Prop, (∃ m, W 0 m H) ∧ ∀ i m H, W i m H → (J.stop i H ∧ QD H) ∨ (J.go i H ∧ ∃ Nx : Hp → Prop, (∀ H', Nx H' → ∃ m', m' < m ∧ W (i + 1) m' H') ∧ ∀ x H', J.yld i H x H' → B Nx x H') := by
  refine ⟨fun i m H => m = items.length - i ∧ i ≤ items.length ∧ ∃ G' e' acc us, Same G G' ∧ Rl KZ (upd F Dn (.lst us)) G' H S (L2.wipe σ own) (wipeS own e') ∧ DpAll KZ G' us acc ∧ cLoop step (items.drop i) e' acc = .ok accF eF,
    ⟨items.length, rfl, Nat.zero_le _, G, e0, acc0, us0, Same.refl G, l, da, hc⟩, ?_⟩
  rintro i m H1 ⟨rfl, hi, G', e', acc, us, s', lr, da', hc'⟩
  obtain ⟨ig, is, _⟩ := it G' H1 s' lr.g
  by_cases hlt : i < items.length
  · rw [List.drop_eq_getElem_cons hlt] at hc'
    have hc' : (match step items[i] e' acc with
      | .ok acc1 e1 => cLoop step (items.drop (i + 1)) e1 acc1
      | _ => .bad) = R.ok accF eF := hc'
    cases qs : step items[i] e' acc with
    | bad => rw [qs] at hc'; cases hc'
    | rz z e1 => rw [qs] at hc'; cases hc'
    | ok acc1 e1 =>
      rw [qs] at hc'
      refine .inr ⟨ig i hlt, fun H2 => ∃ G2 us2, Same G G2 ∧ Rl KZ (upd F Dn (.lst us2)) G2 H2 S (L2.wipe σ own) (wipeS own e1) ∧ DpAll KZ G2 us2 acc1, fun H2 ⟨G2, us2, s2, l2, d2⟩ => ⟨items.length - (i + 1), by omega, rfl, hlt, G2, e1, acc1, us2, s2, l2, d2, hc'⟩, fun x H2 hy => ?_⟩
      obtain ⟨G2, s2, l2, dx⟩ := itd_step it s' lr hlt hy
      exact turn _ _ _ _ _ _ _ _ us _ qs (s'.trans s2) l2 (Dp.sameAll s2 _ _ da') dx fun H3 G3 us3 s3 l3 d3 => ⟨G3, us3, s3, l3, d3⟩
  · have ei : i = items.length := by omega
    subst ei
    rw [List.drop_length] at hc'
    cases hc'
    exact .inl ⟨is, fin H1 G' us s' lr da'⟩

/-! ### readings that hold in every such block -/
def gB (X : Cx) (scope : Scope) (tg : Expr) : TG := fun v σ H Q => ∀ s H0 C cl fp, wxG (X.blk s H0 scope (compEnvC scope cl C X.env) fp) tg v σ H Q
def tB (X : Cx) (scope : Scope) (ifs : List Expr) : TT := fun σ H Q => ∀ s H0 C cl fp, wxC (X.blk s H0 scope (compEnvC scope cl C X.env) fp) ifs σ H Q
def eB (X : Cx) (scope : Scope) (x : Expr) : TE := fun σ H Q => ∀ s H0 C cl fp, wxE (X.blk s H0 scope (compEnvC scope cl C X.env) fp) x σ H Q
def iB (X : Cx) (scope : Scope) (tg x : Expr) : TI := fun σ H Q => ∀ s H0 C cl fp, wxI (X.blk s H0 scope (compEnvC scope cl C X.env) fp) tg x σ H Q
theorem pgB {scope : Scope} {tg : Expr} (s : Shared) (H : Hp) (C : Addr) (cl : List (Str × Addr)) (fp : List Addr) : PG (X.blk s H scope (compEnvC scope cl C X.env) fp) tg (gB X scope tg) := ⟨fun pins s1 σ H1 v u Q I r h => h _ _ _ _ _ pins s1 u I r⟩
theorem ptB {scope : Scope} {ifs : List Expr} (s : Shared) (H : Hp) (C : Addr) (cl : List (Str × Addr)) (fp : List Addr) : PTs (X.blk s H scope (compEnvC scope cl C X.env) fp) ifs (tB X scope ifs) := ⟨fun pins s1 σ H1 Q I h => h _ _ _ _ _ pins s1 I⟩
theorem peB {scope : Scope} {x : Expr} (s : Shared) (H : Hp) (C : Addr) (cl : List (Str × Addr)) (fp : List Addr) : PE (X.blk s H scope (compEnvC scope cl C X.env) fp) x (eB X scope x) := ⟨fun pins s1 σ H1 Q I h => h _ _ _ _ _ pins s1 I⟩
theorem piB {scope : Scope} {tg x : Expr} (s : Shared) (H : Hp) (C : Addr) (cl : List (Str × Addr)) (fp : List Addr) : PI (X.blk s H scope (compEnvC scope cl C X.env) fp) tg x (iB X scope tg x) := ⟨fun pins s1 σ H1 Q I h => h _ _ _ _ _ pins s1 I⟩
def stepE (cf : CF) (tg cond elt : T) (own : List Nat) : D → Fm → List D → R (List D) := fun d e acc => match bindT tg d (wipeS own e) with
  | none => .bad
  | some e3 => (evC cf cond e3).bnd fun k e4 => if k = true then pushE acc (ev cf elt e4) else .ok acc e4
/-- a turn that makes one item -/
theorem turn_elt {scope : Scope} {own vs : List Nat} {tg cond elt : T} {tgx ex : Expr} {ifs : List Expr} (ok : XOk c cf k X) (hb : blkC c.N c.sc scope (ownOf c.N vs) = true) (hg : GoodG { c with sc := scope } cf k tg tgx) (ht : GoodC { c with sc := scope } cf k cond ifs) (he : GoodE { c with sc := scope } cf k elt ex)
    (hi : ∀ i ∈ idxs tg, i ∈ own) {Dn : Addr} (fD : F Dn = none) {d : D} {e e1 : Fm} {acc acc1 : List D} {v : V} {G' H' : Hp} {us : List V} {Nx : Hp → Prop} (hs : stepE cf tg cond elt own d e acc = .ok acc1 e1) (s : Same G G') (l : Rl KZ (upd F Dn (.lst us)) G' H' S (L2.wipe σ own) (wipeS own e)) (da : DpAll KZ G' us acc) (dv : Dp KZ G' v d)
    (nx : ∀ H2 G2 us2, Same G G2 → Rl KZ (upd F Dn (.lst us2)) G2 H2 S (L2.wipe σ own) (wipeS own e1) → DpAll KZ G2 us2 acc1 → Nx H2) :
    gB X scope tgx v (L2.wipe σ own) H' fun σ2 H2 => L2.wipe σ2 own = L2.wipe σ own ∧ tB X scope ifs σ2 H2 fun b H3 => if b = true then eB X scope ex σ2 H3 fun y H4 => ∃ acc, H4 Dn = some (.lst acc) ∧ acc.length < sizeLine ∧ Nx (upd H4 Dn (.lst (acc ++ [y]))) else Nx H3 := by
  unfold stepE at hs
  cases qb : bindT tg d (wipeS own e) with
  | none => rw [qb] at hs; cases hs
  | some e3 =>
    rw [qb] at hs
    dsimp only at hs
    intro s0 H0 C cl fp
    refine hg _ (blk_xok ok hb s0 H0 C cl fp) _ _ _ _ _ _ _ _ _ _ l dv qb fun σ2 ap l3 => ⟨wipe_apart ap hi, ?_⟩
    intro s0 H0 C cl fp
    refine ht _ (blk_xok ok hb s0 H0 C cl fp) _ _ _ _ _ _ _ _ takesF l3 ?_
    cases qt : evC cf cond e3 with
    | bad => rw [qt] at hs; cases hs
    | rz z e4 => rw [qt] at hs; cases hs
    | ok b e4 =>
      rw [qt] at hs
      dsimp only [R.bnd] at hs
      intro H4 G4 s4 l4
      cases b with
      | false =>
        rw [if_neg Bool.false_ne_true] at hs ⊢
        cases hs
        refine nx H4 G4 us (s.trans s4) ?_ (Dp.sameAll s4 _ _ da)
        have := l4.wipe own
        rw [wipe_apart ap hi] at this
        exact this
      | true =>
        rw [if_pos rfl] at hs ⊢
        intro s0 H0 C cl fp
        refine he _ (blk_xok ok hb s0 H0 C cl fp) _ _ _ _ _ _ _ _ takesF l4 ?_
        unfold pushE R.rv at hs
        cases qe : ev cf elt e4 with
        | bad => rw [qe] at hs; cases hs
        | rz z e5 => rw [qe] at hs; cases hs
        | ok w e5 =>
          rw [qe] at hs
          cases w with
          | rv r =>
            dsimp only at hs
            intro u H5 G5 s5 l5 r5
            cases qf : fz r e5 with
            | none => rw [qf] at hs; cases hs
            | some w2 =>
              obtain ⟨d', e6⟩ := w2
              rw [qf] at hs
              dsimp only at hs
              split at hs
              case isFalse => cases hs
              rename_i hz
              cases hs
              obtain ⟨G6, s6, l6, d6⟩ := r5.fz l5 qf
              obtain ⟨l7, hD5, gD, no⟩ := l6.drop fD
              refine ⟨us, hD5, by rw [DpAll.length da, ← line_eq]; exact hz, ?_⟩
              refine nx _ G6 (us ++ [u]) (s.trans (s4.trans (s5.trans s6))) ?_ (DpAll.append (Dp.sameAll (s4.trans (s5.trans s6)) _ _ da) (.cons d6 .nil))
              have := ((l7.chg (o := .lst (us ++ [u])) gD fD no).hold upd_same gD no).wipe own
              rw [wipe_apart ap hi] at this
              exact this
          | _ => cases hs
end
end L2.Mp
set_option Elab.async false
set_option linter.all false
set_option maxRecDepth 100000
set_option maxHeartbeats 4000000
namespace L2.Mp
open PySem PySem.Spec PyProof.Rows L2
section
variable {c : Ct} {cf : CF} {k : Nat} {src tg cond elt src2 tg2 cond2 : T} {itx tgx ex it2 tg2x : Expr} {ifs ifs2 : List Expr} {own own2 : List Nat} {X : Cx} {F G H : Hp} {S σ : St} {e : Fm} {W : WX}
/-- the walked thing of a clause is no display of a set -/
def notSet : Expr → Bool
  | .Set _ _ _ => false
  | _ => true
theorem folded {x : Expr} (h : notSet x = true) (env : Env) (v : Value) : foldedSetIterable x env v = pure v := by
  cases x <;> first | rfl | cases h
def bG (X : Cx) (scope : Scope) (own : List Nat) (tgx : Expr) (ifs : List Expr) (ex : Expr) (Dn : Addr) (σ : St) : (Hp → Prop) → V → Hp → Prop := fun Nx x H' => gB X scope tgx x (L2.wipe σ own) H' fun σ2 H2 => L2.wipe σ2 own = L2.wipe σ own ∧ tB X scope ifs σ2 H2 fun b H3 =>
  if b = true then eB X scope ex σ2 H3 fun y H4 => ∃ acc, H4 Dn = some (.lst acc) ∧ acc.length < sizeLine ∧ Nx (upd H4 Dn (.lst (acc ++ [y]))) else Nx H3
theorem ev_comp (e : Fm) : ev cf (.comp elt tg src cond own) e = (ev cf src e).dsk fun items e1 => if own.any (fun i => isOwnS e1[i]?) then .bad else
    (match cLoop (stepE cf tg cond elt own) items e1 [] with
    | .ok acc e5 => .ok (.rv (.o acc)) (backS e1 own e5)
    | _ => .bad) := rfl
theorem comp_lc {scope : Scope} (hs : GoodI c cf k src tgx itx) (hb : blkC c.N c.sc scope (ownOf c.N own) = true) (hg : GoodG { c with sc := scope } cf k tg tgx) (ht : GoodC { c with sc := scope } cf k cond ifs) (he : GoodE { c with sc := scope } cf k elt ex) (hi : ∀ i ∈ idxs tg, i ∈ own)
    (ok : XOk c cf k X) (tk : Takes X W) (l : Rl KZ F G H S σ e) {Q : VK} (hq : Po X F S W (pE X F S σ Q) G (ev cf (.comp elt tg src cond own) e)) :
    tLc (wxI X tgx itx) (gB X scope tgx) (tB X scope ifs) (eB X scope ex) own σ H Q := by
  rw [ev_comp] at hq
  refine dsI hs ok tk l hq fun items e1 J H1 G1 s1 l1 it hp => ?_
  intro Dn hD
  split at hp
  case isTrue => exact hp.elim
  rename_i hv
  have hv : own.any (fun i => isOwnS e1[i]?) = false := by simpa using hv
  cases qc : cLoop (stepE cf tg cond elt own) items e1 [] with
  | bad => rw [qc] at hp; exact hp.elim
  | rz z e5 => rw [qc] at hp; exact hp.elim
  | ok accF eF =>
    rw [qc] at hp
    have fD : F Dn = none := smNone l1.f hD
    have gD : G1 Dn = none := smNone l1.g hD
    have l2 := ((l1.newH (o := .lst []) hD).hold upd_same gD (l1.ownNe hD))
    refine loop_go (B := bG X scope own tgx ifs ex Dn σ) it (l2.wipe own) .nil qc (fun d e acc acc1 e2 x H' G' us Nx qs s l3 da dv nx => turn_elt ok hb hg ht he hi fD qs s l3 da dv nx) fun H' G' us s' l3 da => ?_
    have l4 := ((l1.newH (o := .lst us) hD).hold upd_same gD (l1.ownNe hD))
    obtain ⟨l6, hD5, gD', no⟩ := (Rl.back l4 s' l3 hv).drop fD
    exact hp (.ref Dn) H' G' s' l6 ⟨Dn, us, rfl, hD5, gD', fD, no, da⟩
theorem good_comp {scope : Scope} {pos : Pos} (hs : GoodI c cf k src tgx itx) (hb : blkC c.N c.sc scope (ownOf c.N own) = true) (hg : GoodG { c with sc := scope } cf k tg tgx) (ht : GoodC { c with sc := scope } cf k cond ifs) (he : GoodE { c with sc := scope } cf k elt ex) (hi : ∀ i ∈ idxs tg, i ∈ own) (hn : notSet itx = true) :
    GoodE c cf k (.comp elt tg src cond own) (.ListComp ex [⟨tgx, itx, ifs, 0⟩] scope pos) := by
  intro X ok F G H S σ e Q W tk l hq
  have h := comp_lc hs hb hg ht he hi ok tk l hq
  have r := pe_lc (pos := pos) ok.calm ok.nd' (pi_w (tg := tgx) (x := itx)) (blk_ok ok hb) (pgB (X := X)) (ptB (ifs := ifs)) (peB (x := ex)) (folded hn X.env)
  rw [ownOf_ix] at r
  exact ofE r h

/-! ### two clauses -/
def stepO (cf : CF) (tg cond src2 tg2 cond2 elt : T) (own own2 : List Nat) : D → Fm → List D → R (List D) := fun d e acc => match bindT tg d (wipeS own e) with
  | none => .bad
  | some e3 => (evC cf cond e3).bnd fun k e4 => if k = true then (ev cf src2 e4).dsk fun items2 e5 => cLoop (stepE cf tg2 cond2 elt own2) items2 e5 acc else .ok acc e4
theorem ev_comp2 (e : Fm) : ev cf (.comp2 elt tg src cond tg2 src2 cond2 own own2) e = (ev cf src e).dsk fun items e1 => if own.any (fun i => isOwnS e1[i]?) then .bad else
    (match cLoop (stepO cf tg cond src2 tg2 cond2 elt own own2) items e1 [] with
    | .ok acc e5 => .ok (.rv (.o acc)) (backS e1 own e5)
    | _ => .bad) := rfl
theorem wipe_two {σ : St} (h : ∀ i ∈ own2, i ∈ own) : L2.wipe (L2.wipe σ own2) own = L2.wipe σ own := wipe_eq (wipe_length σ own2) fun j hj => wipe_keep fun z => hj (h j z)
theorem wipeS_in {j : Nat} : ∀ {vs : List Nat} {e : Fm}, j ∈ vs → j < e.length → (wipeS vs e)[j]? = some .no
  | v :: vs, e, h, hl => by
    show ((wipeS vs e).set v .no)[j]? = _
    by_cases hv : v = j
    · subst hv
      rw [List.getElem?_set_self (by rw [wipeS_len]; exact hl)]
    · rw [List.getElem?_set_ne hv]
      rcases List.mem_cons.mp h with z | z
      · exact absurd z.symm hv
      · exact wipeS_in z hl
theorem wipeS_two {e : Fm} (h : ∀ i ∈ own2, i ∈ own) : wipeS own (wipeS own2 e) = wipeS own e := by
  refine List.ext_getElem? fun j => ?_
  by_cases hj : j ∈ own
  · by_cases hb : j < e.length
    · rw [wipeS_in hj hb, wipeS_in hj (by rw [wipeS_len]; exact hb)]
    · rw [List.getElem?_eq_none (by rw [wipeS_len, wipeS_len]; omega), List.getElem?_eq_none (by rw [wipeS_len]; omega)]
  · rw [wipeS_out hj, wipeS_out hj, wipeS_out fun z => hj (h j z)]
def bO (X : Cx) (scope : Scope) (own own2 : List Nat) (tgx : Expr) (ifs : List Expr) (it2 tg2x : Expr) (ifs2 : List Expr) (ex : Expr) (Dn : Addr) (σ : St) : (Hp → Prop) → V → Hp → Prop := fun Nx x H' => gB X scope tgx x (L2.wipe σ own) H' fun σ2 H2 => L2.wipe σ2 own = L2.wipe σ own ∧ tB X scope ifs σ2 H2 fun b H3 =>
    if b = true then iB X scope tg2x it2 σ2 H3 fun J1 H4 => ∃ W1 : Nat → Nat → Hp → Prop, (∃ m, W1 0 m H4) ∧ ∀ j k H, W1 j k H → (J1.stop j H ∧ Nx H) ∨ (J1.go j H ∧ ∃ Nx1 : Hp → Prop, (∀ H', Nx1 H' → ∃ k', k' < k ∧ W1 (j + 1) k' H') ∧ ∀ x H', J1.yld j H x H' → bG X scope own2 tg2x ifs2 ex Dn σ2 Nx1 x H')
    else Nx H3
theorem comp2_lc {scope : Scope} (hs : GoodI c cf k src tgx itx) (hb : blkC c.N c.sc scope (ownOf c.N own) = true) (hg : GoodG { c with sc := scope } cf k tg tgx) (ht : GoodC { c with sc := scope } cf k cond ifs) (hs2 : GoodI { c with sc := scope } cf k src2 tg2x it2) (hg2 : GoodG { c with sc := scope } cf k tg2 tg2x) (ht2 : GoodC { c with sc := scope } cf k cond2 ifs2)
    (he : GoodE { c with sc := scope } cf k elt ex) (hi : ∀ i ∈ idxs tg, i ∈ own) (hi2 : ∀ i ∈ idxs tg2, i ∈ own2) (hv2 : ∀ i ∈ own2, i ∈ own) (ok : XOk c cf k X) (tk : Takes X W) (l : Rl KZ F G H S σ e) {Q : VK} (hq : Po X F S W (pE X F S σ Q) G (ev cf (.comp2 elt tg src cond tg2 src2 cond2 own own2) e)) :
    tLc2 (wxI X tgx itx) (gB X scope tgx) (tB X scope ifs) (iB X scope tg2x it2) (gB X scope tg2x) (tB X scope ifs2) (eB X scope ex) own own2 σ H Q := by
  rw [ev_comp2] at hq
  refine dsI hs ok tk l hq fun items e1 J H1 G1 s1 l1 it hp => ?_
  intro Dn hD
  split at hp
  case isTrue => exact hp.elim
  rename_i hv
  have hv : own.any (fun i => isOwnS e1[i]?) = false := by simpa using hv
  cases qc : cLoop (stepO cf tg cond src2 tg2 cond2 elt own own2) items e1 [] with
  | bad => rw [qc] at hp; exact hp.elim
  | rz z e5 => rw [qc] at hp; exact hp.elim
  | ok accF eF =>
    rw [qc] at hp
    have fD : F Dn = none := smNone l1.f hD
    have gD : G1 Dn = none := smNone l1.g hD
    have l2 := ((l1.newH (o := .lst []) hD).hold upd_same gD (l1.ownNe hD))
    refine loop_go (B := bO X scope own own2 tgx ifs it2 tg2x ifs2 ex Dn σ) it (l2.wipe own) .nil qc (fun d e acc acc1 e2 x H' G' us Nx qs s l3 da dv nx => ?_) fun H' G' us s' l3 da => ?_
    · unfold stepO at qs
      cases qb : bindT tg d (wipeS own e) with
      | none => rw [qb] at qs; cases qs
      | some e3 =>
        rw [qb] at qs
        dsimp only at qs
        intro s0 H0 C cl fp
        refine hg _ (blk_xok ok hb s0 H0 C cl fp) _ _ _ _ _ _ _ _ _ _ l3 dv qb fun σ2 ap l4 => ⟨wipe_apart ap hi, ?_⟩
        intro s0 H0 C cl fp
        refine ht _ (blk_xok ok hb s0 H0 C cl fp) _ _ _ _ _ _ _ _ takesF l4 ?_
        cases qt : evC cf cond e3 with
        | bad => rw [qt] at qs; cases qs
        | rz z e4 => rw [qt] at qs; cases qs
        | ok b e4 =>
          rw [qt] at qs
          dsimp only [R.bnd] at qs
          intro H4 G4 s4 l5
          cases b with
          | false =>
            rw [if_neg Bool.false_ne_true] at qs ⊢
            cases qs
            refine nx H4 G4 us (s.trans s4) ?_ (Dp.sameAll s4 _ _ da)
            have := l5.wipe own
            rw [wipe_apart ap hi] at this
            exact this
          | true =>
            rw [if_pos rfl] at qs ⊢
            intro s0 H0 C cl fp
            refine hs2 _ (blk_xok ok hb s0 H0 C cl fp) _ _ _ _ _ _ _ _ takesF l5 ?_
            unfold R.dsk at qs
            cases qe : ev cf src2 e4 with
            | bad => rw [qe] at qs; cases qs
            | rz z e5 => rw [qe] at qs; cases qs
            | ok w e5 =>
              rw [qe] at qs
              cases w with
              | ds items2 =>
                dsimp only at qs
                intro J1 H5 G5 s5 l6 it2
                have da5 := Dp.sameAll (s4.trans s5) _ _ da
                refine loop_go (B := bG X scope own2 tg2x ifs2 ex Dn σ2) it2 (l6.wipe own2) da5 qs (fun d e acc acc1 e2 x H' G' us Nx qs s l3 da dv nx => turn_elt ok hb hg2 ht2 he hi2 fD qs s l3 da dv nx) fun H6 G6 us6 s6 l7 d6 => ?_
                refine nx H6 G6 us6 (s.trans (s4.trans (s5.trans s6))) ?_ d6
                have := l7.wipe own
                rw [wipe_two hv2, wipeS_two hv2, wipe_apart ap hi] at this
                exact this
              | _ => cases qs
    · have l4 := ((l1.newH (o := .lst us) hD).hold upd_same gD (l1.ownNe hD))
      obtain ⟨l6, hD5, gD', no⟩ := (Rl.back l4 s' l3 hv).drop fD
      exact hp (.ref Dn) H' G' s' l6 ⟨Dn, us, rfl, hD5, gD', fD, no, da⟩
theorem good_comp2 {scope : Scope} {pos : Pos} (hs : GoodI c cf k src tgx itx) (hb : blkC c.N c.sc scope (ownOf c.N own) = true) (hg : GoodG { c with sc := scope } cf k tg tgx) (ht : GoodC { c with sc := scope } cf k cond ifs) (hs2 : GoodI { c with sc := scope } cf k src2 tg2x it2) (hg2 : GoodG { c with sc := scope } cf k tg2 tg2x) (ht2 : GoodC { c with sc := scope } cf k cond2 ifs2)
    (he : GoodE { c with sc := scope } cf k elt ex) (hi : ∀ i ∈ idxs tg, i ∈ own) (hi2 : ∀ i ∈ idxs tg2, i ∈ own2) (hv2 : ∀ i ∈ own2, i ∈ own) (hn : notSet itx = true) (hn2 : notSet it2 = true) :
    GoodE c cf k (.comp2 elt tg src cond tg2 src2 cond2 own own2) (.ListComp ex [⟨tgx, itx, ifs, 0⟩, ⟨tg2x, it2, ifs2, 0⟩] scope pos) := by
  intro X ok F G H S σ e Q W tk l hq
  have h := comp2_lc hs hb hg ht hs2 hg2 ht2 he hi hi2 hv2 ok tk l hq
  have r := pe_lc2 (pos := pos) (vs1 := own2) ok.calm ok.nd' (pi_w (tg := tgx) (x := itx)) (blk_ok ok hb) (by rw [ownOf_ix]; exact hv2) (pgB (X := X)) (ptB (ifs := ifs)) (piB (X := X) (tg := tg2x)) (pgB (X := X) (tg := tg2x)) (ptB (ifs := ifs2)) (peB (x := ex)) (folded hn X.env) (folded hn2)
  rw [ownOf_ix] at r
  exact ofE r h
end
end L2.Mp
set_option Elab.async false
set_option linter.all false
set_option maxRecDepth 100000
set_option maxHeartbeats 4000000
namespace L2.Mp
open PySem PySem.Spec PyProof.Rows L2
section
variable {c : Ct} {cf : CF} {k : Nat} {a b d src body : T} {x y tgx itx : Expr} {X : Cx} {F G H : Hp} {S σ : St} {e : Fm} {W : WX} {pos pos' : Pos}

/-! ### targets -/
theorem Apart.refl {vs : List Nat} {σ : St} : Apart vs σ σ := ⟨rfl, fun _ _ => rfl⟩
theorem Apart.one {i : Nat} {σ : St} {o : Option V} : Apart [i] σ (σ.set i o) := ⟨List.length_set .., fun j hj => List.getElem?_set_ne fun z => hj (by rw [z]; exact List.mem_cons_self)⟩
theorem Apart.trans {vs us : List Nat} {σ σ' σ'' : St} (h : Apart vs σ σ') (h' : Apart us σ' σ'') : Apart (vs ++ us) σ σ'' := ⟨h'.1.trans h.1, fun i hi => (h'.2 i fun z => hi (List.mem_append_right _ z)).trans (h.2 i fun z => hi (List.mem_append_left _ z))⟩
theorem tgt_name {i : Nat} {n : Str} (hN : c.N[i]? = some n) (hl : locB c.sc n = true) : GoodG c cf k (.tN i) (.Name n pos) := by
  intro X ok F G H S σ e v d e' Q l dv hb hq
  obtain ⟨h1, h2⟩ := ok.loc hl
  refine ofG (pg_name ok.nd' (ok.at hN) h1 h2) ?_
  have hb : (match e[i]? with
    | some (.own true _) => none
    | some _ => some (e.set i (.val d))
    | none => none) = some e' := hb
  split at hb
  · cases hb
  · cases hb
    exact hq _ Apart.one (l.setVal dv)
  · cases hb
theorem tgts_nil : GoodGs c cf k .nil [] := by
  intro X ok F G H S σ e vs ds e' Q l dv hb hq
  cases dv with
  | nil =>
    cases hb
    exact ofGs pgs_nil ⟨rfl, hq σ Apart.refl l⟩
  | cons _ _ => cases hb
theorem assign_cons {xs : List Expr} {env : Env} (h : isStar x = false) : assignEach (x :: xs) env = (false, assign x env) :: assignEach xs env := by
  cases x <;> first | rfl | cases h
theorem assign_len {env : Env} : ∀ {xs : List Expr}, (∀ z ∈ xs, isStar z = false) → (assignEach xs env).length = xs.length ∧ (assignEach xs env).findIdx? (·.1) = none
  | [], _ => ⟨rfl, rfl⟩
  | x :: xs, h => by
    obtain ⟨h1, h2⟩ := assign_len (env := env) fun z hz => h z (List.mem_cons_of_mem _ hz)
    rw [assign_cons (h x List.mem_cons_self)]
    refine ⟨congrArg (· + 1) h1, ?_⟩
    rw [List.findIdx?_cons]
    simp [h2]
theorem tgts_cons {xs : List Expr} (ha : GoodG c cf k a x) (hb : GoodGs c cf k b xs) (hs : isStar x = false) : GoodGs c cf k (.cons a b) (x :: xs) := by
  intro X ok F G H S σ e vs ds e' Q l dv hbd hq
  cases dv with
  | nil => cases hbd
  | @cons v vs d ds h1 h2 =>
    have hbd : (match bindT a d e with
      | some e1 => bindTs b ds e1
      | none => none) = some e' := hbd
    cases q : bindT a d e with
    | none => rw [q] at hbd; cases hbd
    | some e1 =>
      rw [q] at hbd
      refine ofGs (pgs_cons (pg_w (tg := x)) (pgs_w (es := xs)) (by rw [assign_cons hs]; rfl)) ⟨v, vs, rfl, ?_⟩
      refine ha X ok F G H S σ e v d e1 _ l h1 q fun σ1 ap1 l1 => ?_
      exact hb X ok F G H S σ1 e1 vs ds e' _ l1 h2 hbd fun σ2 ap2 l2 => hq σ2 (ap1.trans ap2) l2
theorem pg_or {tg : Expr} {t u : TG} (h : PG X tg t) (h' : PG X tg u) : PG X tg (fun v σ H Q => t v σ H Q ∨ u v σ H Q) := ⟨fun pins s σ H v w Q I r q => q.elim (fun q => h.run pins s σ H v w Q I r q) fun q => h'.run pins s σ H v w Q I r q⟩
theorem tgt_tup {xs : List Expr} {j : Nat} (ha : GoodGs c cf k a xs) (hs : ∀ z ∈ xs, isStar z = false) (hn : ∀ ds e e', bindTs a ds e = some e' → ds.length = xs.length) : GoodG c cf k (.tT a) (.Tuple xs j pos) := by
  intro X ok F G H S σ e v d e' Q l dv hb hq
  obtain ⟨h1, h2⟩ := assign_len (env := X.env) hs
  refine ofG (pg_or (pg_tup (pos := pos) (k := j) ok.calm (pgs_w (es := xs)) h1 h2) (pg_lst (pos := pos) (k := j) ok.calm (pgs_w (es := xs)) h1 h2)) ?_
  cases d with
  | tuple ds =>
    cases dv with
    | tup h3 h4 => exact .inl ⟨_, _, rfl, .inl (Rd.same l.g (rt_of h3)), (DpAll.length h4).trans (hn ds e e' hb), ha X ok F G H S σ e _ ds e' Q l h4 hb hq⟩
  | list ds =>
    cases dv with
    | lst h3 h4 => exact .inr ⟨_, _, rfl, .inl (Rd.same l.g (rd_of h3)), (DpAll.length h4).trans (hn ds e e' hb), ha X ok F G H S σ e _ ds e' Q l h4 hb hq⟩
  | _ => cases hb

/-! ### statements -/
theorem st_never {st : Stmt} : GoodS c cf k .never st := fun X ok hp F G H S σ e E W tk l hq => hq.elim
theorem ex_never : GoodE c cf k .never x := fun X ok F G H S σ e Q W tk l hq => hq.elim
theorem st_done : GoodB c cf k .done [] := fun X ok hp F G H S σ e E W tk l hq => ofB pss_nil (hq σ H G (Same.refl G) l)
theorem st_seq {st : Stmt} {sts : List Stmt} (ha : GoodS c cf k a st) (hb : GoodB c cf k b sts) : GoodB c cf k (.seq a b) (st :: sts) := by
  intro X ok hp F G H S σ e E W tk l hq
  refine ofB (pss_cons (ps_w (st := st)) (pss_w (sts := sts))) ?_
  refine ha X ok hp F G H S σ e { E with nx := wxB X sts E } W tk l ?_
  have hq : Po X F S W (pS X F S E) G (match ev cf a e with
    | .ok (.fl .nx) e1 => ev cf b e1
    | r => r) := hq
  cases q : ev cf a e with
  | bad => rw [q] at hq; exact hq
  | rz z e1 => rw [q] at hq; exact hq
  | ok v e1 =>
    rw [q] at hq
    cases v with
    | fl f =>
      cases f with
      | nx => exact fun σ' H' G' s' l' => hb X ok hp F G' H' S σ' e1 E W tk l' (Po.mono s' hq)
      | _ => exact hq
    | _ => exact hq
theorem st_if {t u : List Stmt} (hc : GoodT c cf k d x) (ha : GoodB c cf k a t) (hb : GoodB c cf k b u) : GoodS c cf k (.ifS d a b) (.If x t u pos) := by
  intro X ok hp F G H S σ e E W tk l hq
  refine ofS (ps_if pt_w pss_w pss_w) ?_
  refine bndT hc ok tk l hq fun q e1 H1 G1 s1 l1 hp1 => ?_
  cases q with
  | true =>
    rw [if_pos rfl] at hp1 ⊢
    exact ha X ok hp F G1 H1 S σ e1 E W tk l1 hp1
  | false =>
    rw [if_neg Bool.false_ne_true] at hp1 ⊢
    exact hb X ok hp F G1 H1 S σ e1 E W tk l1 hp1
theorem st_ret (ha : GoodE c cf k a x) : GoodS c cf k (.ret a) (.Return (some x) pos) := by
  intro X ok hp F G H S σ e E W tk l hq
  refine ofS (ps_ret pe_w) ?_
  refine rvE ha ok tk l hq fun r e1 v H1 G1 s1 l1 r1 hp1 => ?_
  cases r with
  | v d => exact hp1 σ v H1 G1 (Same.refl G1) l1 r1
  | o ds => exact hp1 σ v H1 G1 (Same.refl G1) l1 r1
  | b i =>
    have r1 : σ[i]? = some (some v) := r1
    dsimp only at hp1
    cases q : e1[i]? with
    | none => rw [q] at hp1; exact hp1.elim
    | some w =>
      rw [q] at hp1
      cases w with
      | no => exact hp1.elim
      | val d =>
        obtain ⟨u, h1, h2⟩ := l1.val i d q
        rw [r1] at h1
        cases h1
        exact hp1 σ v H1 G1 (Same.refl G1) l1 h2
      | own io ds =>
        cases io with
        | true => exact hp1.elim
        | false =>
          obtain ⟨p, us, h1, h2, h3, h4, h5, _⟩ := l1.own i false ds q
          rw [r1] at h1
          cases h1
          refine hp1 σ _ H1 G1 (Same.refl G1) (l1.forget i) ⟨p, us, rfl, h2, h3, h4, fun j jo es hj hs => ?_, h5⟩
          rcases get_set hj with ⟨_, z, _⟩ | ⟨ne, hj⟩
          · cases z
          · exact ne (l1.inj j i jo false es ds p hj q hs r1)
theorem st_ret0 : GoodS c cf k (.ret (.const .none)) (.Return none pos) := by
  intro X ok hp F G H S σ e E W tk l hq
  exact ofS ps_retN (hq σ .non H G (Same.refl G) l .non)
def notComp : Expr → Bool
  | .ListComp _ _ _ _ => false
  | .SetComp _ _ _ _ => false
  | .DictComp _ _ _ _ _ => false
  | _ => true
theorem sw_none {t : Option Expr} {ln : Nat} {env : Env} (h : notComp x = true) : swapsWith x t ln env = pure false := by
  cases x <;> first | rfl | cases h
theorem st_expr (ha : GoodE c cf k a x) (hn : notComp x = true) : GoodS c cf k (.expr a) (.Expr x pos) := by
  intro X ok hp F G H S σ e E W tk l hq
  refine ofS (ps_expr pe_w (sw_none hn)) ?_
  refine rvE ha ok tk l hq fun r e1 v H1 G1 s1 l1 r1 hp1 => ?_
  exact hp1 σ H1 G1 (Same.refl G1) l1
end
end L2.Mp
set_option Elab.async false
set_option linter.all false
set_option maxRecDepth 100000
set_option maxHeartbeats 4000000
namespace L2.Mp
open PySem PySem.Spec PyProof.Rows L2
section
variable {c : Ct} {cf : CF} {k : Nat} {a b d src body tg cond elt : T} {x y tgx itx ex : Expr} {ifs : List Expr} {own : List Nat} {X : Cx} {F G H : Hp} {S σ : St} {e : Fm} {W : WX} {pos pos' py : Pos}

/-! ### what an assignment turns on -/
def noSwap : Expr → Expr → Bool
  | .Tuple _ _ _, .Tuple _ _ _ => false
  | .List _ _, .Tuple _ _ _ => false
  | _, _ => true
theorem no_swap {tg v : Expr} (h : noSwap tg v = true) (env : Env) : swappedStores [tg] v env = pure none := by
  unfold swappedStores
  cases v <;> first | (cases tg <;> rfl) | (cases tg <;> first | rfl | cases h)
theorem sw_val {gs : List Comprehension} {scope : Scope} {n : Str} {l : Nat} {env : Env} (hk : env.scope.kind = .function) :
    swapsWith (.ListComp ex gs scope pos) (some (.Name n py)) l env = pure (env.kindOf n == some .local && py.line == pos.line && !(scope.names.any fun (m, q) => m == n && (q == .local || q == .cell))) := by
  have hb : env.blockKind = .function := by unfold Env.blockKind; rw [hk]; rfl
  unfold swapsWith
  simp only [hb, Expr.pos]
  rfl
/-- a slot gets an expression's outcome -/
def keepTo (i : Nat) (r : RV) (e1 : Fm) : R Val := match e1[i]? with
  | some (.own true _) => .bad
  | none => .bad
  | some _ => (match r with
    | .o ds => .ok (.fl .nx) (e1.set i (.own false ds))
    | _ => (match fz r e1 with
      | some (d, e2) => .ok (.fl .nx) (e2.set i (.val d))
      | none => .bad))
theorem ev_asgN (i : Nat) (a : T) (e : Fm) : ev cf (.asg (.tN i) a) e = (ev cf a e).rv fun r e1 => keepTo i r e1 := rfl
theorem keep_ok {i : Nat} {r : RV} {v : V} {E : Ends} (l : Rl KZ F G H S σ e) (r1 : RvOk KZ F G H σ e v r) (hp : Po X F S W (pS X F S E) G (keepTo i r e)) : E.nx (σ.set i (some v)) H := by
  unfold keepTo at hp
  split at hp
  · exact hp.elim
  · exact hp.elim
  · have other : (match fz r e with
      | some (d, e2) => R.ok (Val.fl .nx) (e2.set i (.val d))
      | none => .bad) = (match fz r e with
      | some (d, e2) => R.ok (Val.fl .nx) (e2.set i (.val d))
      | none => .bad) := rfl
    have vals : Po X F S W (pS X F S E) G (match fz r e with
      | some (d, e2) => R.ok (Val.fl .nx) (e2.set i (.val d))
      | none => .bad) → E.nx (σ.set i (some v)) H := fun hp => by
      cases q : fz r e with
      | none => rw [q] at hp; exact hp.elim
      | some w =>
        obtain ⟨d, e2⟩ := w
        rw [q] at hp
        obtain ⟨G2, s2, l2, d2⟩ := r1.fz l q
        exact (Po.mono s2 hp) _ H G2 (Same.refl G2) (l2.setVal d2)
    cases r with
    | v d => exact vals hp
    | b j => exact vals hp
    | o ds =>
      obtain ⟨p, us, rfl, h1, h2, h3, h4, h5⟩ := r1
      exact hp _ H G (Same.refl G) (l.setOwn h1 h2 h3 h4 h5)
theorem sole {t v : Expr} {ln : Nat} {env : Env} {q : Bool} (h : swapsWith v (some t) ln env = pure q) : swapsWithSole [t] v ln env = pure q := h
theorem st_asgN {i : Nat} {n : Str} {ln : Pos} (ha : GoodE c cf k a x) (hN : c.N[i]? = some n) (hl : locB c.sc n = true) (hn : notComp x = true) : GoodS c cf k (.asg (.tN i) a) (.Assign [.Name n pos] x ln) := by
  intro X ok hp F G H S σ e E W tk l hq
  obtain ⟨h1, h2⟩ := ok.loc hl
  refine ofS (ps_asg pe_w (pg_name (pos := pos) ok.nd' (ok.at hN) h1 h2) (sole (sw_none hn)) (no_swap (by cases x <;> rfl) X.env) rfl) ?_
  rw [ev_asgN] at hq
  exact rvE ha ok tk l hq fun r e1 v H1 G1 s1 l1 r1 hp1 => keep_ok l1 r1 hp1
/-- name = [..] -/
def swB (sc scope : Scope) (n : Str) (py pos : Pos) : Bool := (match sc.names.lookup n with
    | some .local => true
    | _ => false) && py.line == pos.line && !(scope.names.any fun (m, q) => m == n && (q == .local || q == .cell))
theorem loc_kind (ok : XOk c cf k X) {n : Str} (hl : locB c.sc n = true) : (X.env.kindOf n == some .local) = (match c.sc.names.lookup n with
    | some .local => true
    | _ => false) := by
  unfold locB at hl
  show (X.env.scope.names.lookup n == some .local) = _
  cases q : c.sc.names.lookup n with
  | none => rw [q] at hl; cases hl
  | some z =>
    rw [q] at hl
    obtain ⟨h1, _⟩ := ok.sc n z q
    cases z with
    | «local» => rw [h1 (by decide)]; rfl
    | cell => rw [h1 (by decide)]; rfl
    | _ => cases hl
theorem sw_is (ok : XOk c cf k X) {n : Str} (hl : locB c.sc n = true) {gs : List Comprehension} {scope : Scope} {l : Nat} : swapsWith (.ListComp ex gs scope pos) (some (.Name n py)) l X.env = pure (swB c.sc scope n py pos) := by
  rw [sw_val ok.kind, loc_kind ok hl]
  rfl
theorem sw_local (ok : XOk c cf k X) {n : Str} {scope : Scope} (h : swB c.sc scope n py pos = true) : X.env.scope.names.lookup n = some .local := by
  unfold swB at h
  simp only [Bool.and_eq_true] at h
  cases q : c.sc.names.lookup n with
  | none => rw [q] at h; cases h.1.1
  | some z =>
    rw [q] at h
    cases z with
    | «local» => exact (ok.sc n _ q).1 (by decide)
    | _ => cases h.1.1
theorem st_asgC {i : Nat} {n : Str} {ln : Pos} {scope : Scope} (hN : c.N[i]? = some n) (hl : locB c.sc n = true) (hs : GoodI c cf k src tgx itx) (hb : blkC c.N c.sc scope (ownOf c.N own) = true) (hg : GoodG { c with sc := scope } cf k tg tgx) (ht : GoodC { c with sc := scope } cf k cond ifs) (he : GoodE { c with sc := scope } cf k elt ex)
    (hi : ∀ i ∈ idxs tg, i ∈ own) (hn : notSet itx = true) : GoodS c cf k (.asg (.tN i) (.comp elt tg src cond own)) (.Assign [.Name n py] (.ListComp ex [⟨tgx, itx, ifs, 0⟩] scope pos) ln) := by
  intro X ok hp F G H S σ e E W tk l hq
  rw [ev_asgN] at hq
  obtain ⟨h1, h2⟩ := ok.loc hl
  cases q : swB c.sc scope n py pos with
  | false =>
    refine ofS (ps_asg pe_w (pg_name (pos := py) ok.nd' (ok.at hN) h1 h2) (sole ((sw_is (l := ln.line) ok hl).trans (by rw [q]))) (no_swap rfl X.env) rfl) ?_
    exact rvE (good_comp hs hb hg ht he hi hn) ok tk l hq fun r e1 v H1 G1 s1 l1 r1 hp1 => keep_ok l1 r1 hp1
  | true =>
    have h := comp_lc hs hb hg ht he hi ok tk l (rvP hq (Q := fun v H1 => E.nx (σ.set i (some v)) H1) fun r e1 v H1 G1 s1 l1 r1 hp1 => keep_ok l1 r1 hp1)
    have r := ps_setLc (py := py) (pos := pos) (spos := ln) ok.calm ok.nd' (ok.at hN) (sw_local ok q) ((sw_is ok hl).trans (by rw [q])) (pi_w (tg := tgx) (x := itx)) (blk_ok ok hb) (pgB (X := X)) (ptB (ifs := ifs)) (peB (x := ex)) (folded hn X.env)
    rw [ownOf_ix] at r
    exact ofS r h
theorem st_asgC2 {i : Nat} {n : Str} {ln : Pos} {scope : Scope} {src2 tg2 cond2 : T} {it2 tg2x : Expr} {ifs2 : List Expr} {own2 : List Nat} (hN : c.N[i]? = some n) (hl : locB c.sc n = true) (hs : GoodI c cf k src tgx itx) (hb : blkC c.N c.sc scope (ownOf c.N own) = true) (hg : GoodG { c with sc := scope } cf k tg tgx) (ht : GoodC { c with sc := scope } cf k cond ifs)
    (hs2 : GoodI { c with sc := scope } cf k src2 tg2x it2) (hg2 : GoodG { c with sc := scope } cf k tg2 tg2x) (ht2 : GoodC { c with sc := scope } cf k cond2 ifs2) (he : GoodE { c with sc := scope } cf k elt ex)
    (hi : ∀ i ∈ idxs tg, i ∈ own) (hi2 : ∀ i ∈ idxs tg2, i ∈ own2) (hv2 : ∀ i ∈ own2, i ∈ own) (hn : notSet itx = true) (hn2 : notSet it2 = true) :
    GoodS c cf k (.asg (.tN i) (.comp2 elt tg src cond tg2 src2 cond2 own own2)) (.Assign [.Name n py] (.ListComp ex [⟨tgx, itx, ifs, 0⟩, ⟨tg2x, it2, ifs2, 0⟩] scope pos) ln) := by
  intro X ok hp F G H S σ e E W tk l hq
  rw [ev_asgN] at hq
  obtain ⟨h1, h2⟩ := ok.loc hl
  cases q : swB c.sc scope n py pos with
  | false =>
    refine ofS (ps_asg pe_w (pg_name (pos := py) ok.nd' (ok.at hN) h1 h2) (sole ((sw_is (l := ln.line) ok hl).trans (by rw [q]))) (no_swap rfl X.env) rfl) ?_
    exact rvE (good_comp2 hs hb hg ht hs2 hg2 ht2 he hi hi2 hv2 hn hn2) ok tk l hq fun r e1 v H1 G1 s1 l1 r1 hp1 => keep_ok l1 r1 hp1
  | true =>
    have h := comp2_lc hs hb hg ht hs2 hg2 ht2 he hi hi2 hv2 ok tk l (rvP hq (Q := fun v H1 => E.nx (σ.set i (some v)) H1) fun r e1 v H1 G1 s1 l1 r1 hp1 => keep_ok l1 r1 hp1)
    have r := ps_setLc2 (py := py) (pos := pos) (spos := ln) (vs1 := own2) ok.calm ok.nd' (ok.at hN) (sw_local ok q) ((sw_is ok hl).trans (by rw [q])) (pi_w (tg := tgx) (x := itx)) (blk_ok ok hb) (by rw [ownOf_ix]; exact hv2) (pgB (X := X)) (ptB (ifs := ifs)) (piB (X := X) (tg := tg2x)) (pgB (X := X) (tg := tg2x)) (ptB (ifs := ifs2)) (peB (x := ex)) (folded hn X.env) (folded hn2)
    rw [ownOf_ix] at r
    exact ofS r h
/-- a, b = e -/
theorem st_asgT {xs : List Expr} {j : Nat} {ln : Pos} (ha : GoodE c cf k a x) (hg : GoodG c cf k (.tT b) (.Tuple xs j pos)) (hw : ∀ X, XOk c cf k X → swappedStores [.Tuple xs j pos] x X.env = pure none) : GoodS c cf k (.asg (.tT b) a) (.Assign [.Tuple xs j pos] x ln) := by
  intro X ok hp F G H S σ e E W tk l hq
  refine ofS (ps_asg pe_w (pg_w (tg := .Tuple xs j pos)) (by cases x <;> rfl) (hw X ok) rfl) ?_
  have hq : Po X F S W (pS X F S E) G ((ev cf a e).rv fun r e1 => (match fz r e1 with
    | some (d, e2) => (match bindT (.tT b) d e2 with
      | some e3 => .ok (.fl .nx) e3
      | none => .bad)
    | none => .bad)) := hq
  refine rvE ha ok tk l hq fun r e1 v H1 G1 s1 l1 r1 hp1 => ?_
  cases q : fz r e1 with
  | none => rw [q] at hp1; exact hp1.elim
  | some w =>
    obtain ⟨dd, e2⟩ := w
    rw [q] at hp1
    dsimp only at hp1
    obtain ⟨G2, s2, l2, d2⟩ := r1.fz l1 q
    cases q2 : bindT (.tT b) dd e2 with
    | none => rw [q2] at hp1; exact hp1.elim
    | some e3 =>
      rw [q2] at hp1
      exact hg X ok F G2 H1 S σ e2 v dd e3 _ l2 d2 q2 fun σ' _ l3 => (Po.mono s2 hp1) σ' H1 G2 (Same.refl G2) l3
end
end L2.Mp
set_option Elab.async false
set_option linter.all false
set_option maxRecDepth 100000
set_option maxHeartbeats 4000000
namespace L2.Mp
open PySem PySem.Spec PyProof.Rows L2
section
variable {c : Ct} {cf : CF} {k : Nat} {a b d src body tg cond elt : T} {x y tgx itx ex : Expr} {ifs : List Expr} {own : List Nat} {X : Cx} {F G H : Hp} {S σ : St} {e : Fm} {W : WX} {pos pos' py : Pos}

/-! ### two stores at once -/
theorem fz_nf {r : RV} (h : ∀ ds, r ≠ .o ds) : nrm r = r := by
  cases r with
  | o ds => exact absurd rfl (h ds)
  | _ => rfl
theorem keepS_v {r : RV} {e : Fm} {s : Slot} {e' : Fm} (h : ∀ ds, r ≠ .o ds) (q : keepS r e = some (s, e')) : ∃ d, s = .val d ∧ fz r e = some (d, e') := by
  have q : (match fz r e with
    | some (d, e1) => some (Slot.val d, e1)
    | none => none) = some (s, e') := by
    cases r with
    | o ds => exact absurd rfl (h ds)
    | _ => exact q
  cases q2 : fz r e with
  | none => rw [q2] at q; cases q
  | some w =>
    rw [q2] at q
    cases q
    exact ⟨w.1, rfl, rfl⟩
theorem isO (r : RV) : (∃ ds, r = .o ds) ∨ ∀ ds, r ≠ .o ds := by
  cases r with
  | o ds => exact .inl ⟨ds, rfl⟩
  | _ => exact .inr fun ds z => by cases z
theorem storeNo {i : Nat} {o : Option V} {s : Slot} {p : Addr} (no : NoOwn σ e p) (h : (∀ io ds, s ≠ .own io ds) ∨ o ≠ some (.ref p)) : NoOwn (σ.set i o) (e.set i s) p := by
  intro t io ds ht hs
  rcases get_set ht with ⟨rfl, z, _⟩ | ⟨ne, ht⟩
  · rcases get_set hs with ⟨_, z2, _⟩ | ⟨ne, _⟩
    · rcases h with h | h
      · exact h io ds z.symm
      · exact h z2.symm
    · exact ne rfl
  · rw [List.getElem?_set_ne (Ne.symm ne)] at hs
    exact no t io ds ht hs
theorem st_par {i j : Nat} {n m : Str} {px pt pt2 ln : Pos} {kt k2 : Nat} (ha : GoodE c cf k a x) (hb : GoodE c cf k b y) (hN : c.N[i]? = some n) (hM : c.N[j]? = some m) (hij : i ≠ j) (sx : isStar x = false) (sy : isStar y = false)
    (hn : c.sc.names.lookup n = some .local) (hm : c.sc.names.lookup m = some .local) (hw : ∀ X, XOk c cf k X → swappedStores [.Tuple [.Name n px, .Name m py] kt pt] (.Tuple [x, y] k2 pt2) X.env = pure (some [n, m])) :
    GoodS c cf k (.par i j a b) (.Assign [.Tuple [.Name n px, .Name m py] kt pt] (.Tuple [x, y] k2 pt2) ln) := by
  intro X ok hp F G H S σ e E W tk l hq
  refine ofS (ps_par ok.calm ok.nd' (ok.at hN) (ok.at hM) hij ((ok.sc _ _ hn).1 (by decide)) ((ok.sc _ _ hm).1 (by decide)) (pa_cons pe_w (pa_cons pe_w pa_nil (star_cons sy)) (star_cons sx)) (hw X ok)) ?_
  have hq : Po X F S W (pS X F S E) G ((ev cf a e).rv fun ra e1 => (ev cf b e1).rv fun rb e2 => (match keepS ra e2 with
    | some (sa, e3) => (match keepS rb e3 with
      | some (sb, e4) => if storable e4[i]? && storable e4[j]? then .ok (.fl .nx) ((e4.set i sa).set j sb) else .bad
      | none => .bad)
    | none => .bad)) := hq
  refine rvE ha ok tk l hq fun ra e1 v H1 G1 s1 l1 r1 hp1 => ?_
  have split : ∀ {G2 : Hp} {rb : RV} {e2 : Fm}, Po X F S W (pS X F S E) G2 (match keepS ra e2 with
    | some (sa, e3) => (match keepS rb e3 with
      | some (sb, e4) => if storable e4[i]? && storable e4[j]? then R.ok (Val.fl .nx) ((e4.set i sa).set j sb) else .bad
      | none => .bad)
    | none => .bad) → ∃ sa e3 sb e4, keepS ra e2 = some (sa, e3) ∧ keepS rb e3 = some (sb, e4) ∧ Po X F S W (pS X F S E) G2 (R.ok (Val.fl .nx) ((e4.set i sa).set j sb)) := by
    intro G2 rb e2 h
    cases q1 : keepS ra e2 with
    | none => rw [q1] at h; exact h.elim
    | some w =>
      obtain ⟨sa, e3⟩ := w
      rw [q1] at h
      dsimp only at h
      cases q2 : keepS rb e3 with
      | none => rw [q2] at h; exact h.elim
      | some w2 =>
        obtain ⟨sb, e4⟩ := w2
        rw [q2] at h
        dsimp only at h
        split at h
        · exact ⟨sa, e3, sb, e4, rfl, q2, h⟩
        · exact h.elim
  rcases isO ra with ⟨da, rfl⟩ | nO
  · obtain ⟨p, us, rfl, h1, h2, h3, h4, h5⟩ := r1
    refine hb X ok (upd F p (.lst us)) G1 H1 S σ e1 _ W tk (l1.hold h1 h2 h4) ?_
    cases qb : ev cf b e1 with
    | bad => rw [qb] at hp1; exact hp1.elim
    | rz z e2 =>
      rw [qb] at hp1
      exact fun cls dd σ' H' G' sm l' xo => hp1 cls dd σ' H' G' sm (l'.drop h3).1 xo
    | ok w e2 =>
      rw [qb] at hp1
      cases w with
      | rv rb =>
        intro u H2 G2 s2 l2 r2
        obtain ⟨sa, e3, sb, e4, q1, q2, hp3⟩ := split hp1
        cases q1
        refine ⟨_, _, rfl, ?_⟩
        have d5 := Dp.sameAll s2 _ _ h5
        rcases isO rb with ⟨db, rfl⟩ | nB
        · cases q2
          obtain ⟨p2, us2, rfl, g1, g2, g3, g4, g5⟩ := r2
          have ne : p ≠ p2 := fun z => by
            rw [z, upd_same] at g3
            cases g3
          rw [upd_ne (Ne.symm ne)] at g3
          obtain ⟨l3, c1, c2, c3⟩ := l2.drop h3
          have l4 := l3.setOwn (i := i) c1 c2 h3 c3 d5
          exact hp3 _ H2 G2 s2 (l4.setOwn g1 g2 g3 (storeNo g4 (.inr fun z => ne (by cases z; rfl))) g5)
        · obtain ⟨dd, rfl, q3⟩ := keepS_v nB q2
          obtain ⟨G3, s3, l3, d3⟩ := r2.fz l2 q3
          obtain ⟨l4, c1, c2, c3⟩ := l3.drop h3
          exact hp3 _ H2 G3 (s2.trans s3) ((l4.setOwn (i := i) c1 c2 h3 c3 (Dp.sameAll s3 _ _ d5)).setVal d3)
      | _ => exact hp1.elim
  · have e0 := fz_nf nO
    refine rvE hb ok tk l1 hp1 fun rb e2 u H2 G2 s2 l2 r2 hp2 => ?_
    obtain ⟨sa, e3, sb, e4, q1, q2, hp3⟩ := split hp2
    obtain ⟨d1, rfl, q3⟩ := keepS_v nO q1
    have r1' : RvOk KZ F G2 H2 σ e2 v (nrm ra) := RvOk.later (r := ra) (by rw [e0]; exact r1) s2
    rw [e0] at r1'
    refine ⟨_, _, rfl, ?_⟩
    rcases isO rb with ⟨db, rfl⟩ | nB
    · cases q2
      obtain ⟨p2, us2, rfl, g1, g2, g3, g4, g5⟩ := r2
      have r1h : RvOk KZ (upd F p2 (.lst us2)) G2 H2 σ e2 v ra := by
        cases ra with
        | o ds => exact absurd rfl (nO ds)
        | v d => exact r1'
        | b t => exact r1'
      obtain ⟨G3, s3, l3, d3⟩ := r1h.fz (l2.hold g1 g2 g4) q3
      obtain ⟨l4, c1, c2, c3⟩ := l3.drop g3
      exact hp3 _ H2 G3 s3 ((l4.setVal (i := i) d3).setOwn c1 c2 g3 (storeNo c3 (.inl fun io ds z => by cases z)) (Dp.sameAll s3 _ _ g5))
    · obtain ⟨d2, rfl, q4⟩ := keepS_v nB q2
      obtain ⟨G3, s3, l3, d3⟩ := r1'.fz l2 q3
      have r2' : RvOk KZ F G3 H2 σ e3 u (nrm rb) := RvOk.later (r := rb) (by rw [fz_nf nB]; exact r2) s3
      obtain ⟨G4, s4, l4, d4⟩ := r2'.fz l3 (by rw [fz_nrm']; exact q4)
      exact hp3 _ H2 G4 (s3.trans s4) ((l4.setVal (i := i) (Dp.same s4 _ _ d3)).setVal d4)
theorem swap_is {n m : Str} {px pt pt2 : Pos} {kt k2 : Nat} (hn : c.sc.names.lookup n = some .local) (hm : c.sc.names.lookup m = some .local) (hl : (py.line == px.line) = true) (ne : n ≠ m) (sx : isStar x = false) (sy : isStar y = false) (hf : (foldedForSure 8 x && foldedForSure 8 y) = false) (hc : (constantsAlone 8 x && constantsAlone 8 y) = false) :
    ∀ X, XOk c cf k X → swappedStores [.Tuple [.Name n px, .Name m py] kt pt] (.Tuple [x, y] k2 pt2) X.env = pure (some [n, m]) := by
  intro X ok
  have hb : X.env.blockKind = .function := by unfold Env.blockKind; rw [ok.kind]; rfl
  have k1 : X.env.kindOf n = some .local := (ok.sc _ _ hn).1 (by decide)
  have k2 : X.env.kindOf m = some .local := (ok.sc _ _ hm).1 (by decide)
  have st : ([x, y].any fun
    | .Starred .. => true
    | _ => false) = false := by
    cases x <;> cases y <;> first | rfl | exact Bool.noConfusion sy | exact Bool.noConfusion sx
  have ed : (n == m) = false := by simpa using ne
  have ed' : (m == n) = false := by simpa using Ne.symm ne
  have e1 : ([n, m] : List Str).eraseDups = [n, m] := by
    simp [List.eraseDups_cons, ed']
  have hl0 : (px.line == px.line) = true := beq_self_eq_true _
  have kk : (some NameKind.local == some NameKind.local) = true := by decide
  unfold swappedStores
  simp only [hb, List.filterMap, k1, k2, List.head?, Option.map, Option.getD, Expr.pos, hl, hl0, kk, Bool.and_self, if_true, List.all_cons, List.all_nil, Bool.and_true, hf, hc, e1]
  refine (if_neg (by simp)).trans ((if_neg fun z => Bool.noConfusion (st.symm.trans z)).trans ((if_neg (by simp)).trans ?_))
  rfl
end
def cellT (c : Ct) : Expr → Bool
  | .Name n _ => (match c.sc.names.lookup n with
    | some .cell => true
    | _ => false)
  | _ => false
theorem fm_len {α β : Type} {f : α → Option β} : ∀ {l : List α}, (∃ x ∈ l, f x = none) → (l.filterMap f).length < l.length
  | x :: l, ⟨y, hy, e⟩ => by
    rcases List.mem_cons.mp hy with rfl | hy
    · rw [List.filterMap_cons_none e]
      exact Nat.lt_succ_of_le (List.length_filterMap_le f l)
    · have ih := fm_len (f := f) ⟨y, hy, e⟩
      cases q : f x with
      | none =>
        rw [List.filterMap_cons_none q]
        exact Nat.lt_succ_of_lt ih
      | some b =>
        rw [List.filterMap_cons_some q]
        exact Nat.succ_lt_succ ih
theorem no_swap4 {ts : List Expr} {j : Nat} {p : Pos} {v : Expr} (h : 4 ≤ ts.length) (env : Env) : swappedStores [.Tuple ts j p] v env = pure none := by
  by_cases hv : noSwap (.Tuple ts j p) v = true
  · exact no_swap hv env
  · cases v with
    | Tuple vs j2 p2 =>
      unfold swappedStores
      dsimp only
      have e : ((!(ts.length == 2 || ts.length == 3) || vs.length != ts.length || env.blockKind != .function) = true) := by
        have e2 : (ts.length == 2) = false := by simp; omega
        have e3 : (ts.length == 3) = false := by simp; omega
        rw [e2, e3]
        rfl
      rw [if_pos e]
    | _ => cases ts <;> exact absurd rfl hv
theorem no_swapC {c : Ct} {cf : CF} {k : Nat} {X : Cx} (ok : XOk c cf k X) {ts : List Expr} {j : Nat} {p : Pos} {v : Expr} (h : ts.any (cellT c) = true) : swappedStores [.Tuple ts j p] v X.env = pure none := by
  obtain ⟨t, ht, hc⟩ := List.any_eq_true.mp h
  by_cases hv : noSwap (.Tuple ts j p) v = true
  · exact no_swap hv X.env
  · cases v with
    | Tuple vs j2 p2 =>
      have hcell : ∃ n q, t = .Name n q ∧ X.env.kindOf n = some .cell := by
        cases t with
        | Name n q =>
          unfold cellT at hc
          dsimp only at hc
          cases e : c.sc.names.lookup n with
          | none => rw [e] at hc; cases hc
          | some z =>
            rw [e] at hc
            cases z with
            | cell => exact ⟨n, q, rfl, (ok.sc n _ e).1 (by decide)⟩
            | _ => cases hc
        | _ => cases hc
      obtain ⟨n, q, rfl, hk⟩ := hcell
      unfold swappedStores
      dsimp only
      split
      · rfl
      · split
        · rfl
        · split
          · rfl
          · rename_i h3
            refine absurd ?_ h3
            rw [Bool.or_eq_true]
            refine .inl ?_
            rw [bne_iff_ne]
            refine Nat.ne_of_lt (fm_len ⟨_, ht, ?_⟩)
            show (if (X.env.kindOf n == some .local && _) = true then _ else none) = none
            rw [hk]
            rfl
    | _ => cases ts <;> exact absurd rfl hv
end L2.Mp
set_option Elab.async false
set_option linter.all false
set_option maxRecDepth 100000
set_option maxHeartbeats 4000000
namespace L2.Mp
open PySem PySem.Spec PyProof.Rows L2
section
variable {c : Ct} {cf : CF} {k : Nat} {a b d src body tg : T} {x y tgx itx : Expr} {X : Cx} {F G H : Hp} {S σ : St} {e : Fm} {W : WX} {pos pos' p1 apos cpos : Pos}

/-! ### lists changed in place -/
theorem own_of {i : Nat} (l : Rl KZ F G H S σ e) (h : isOwnS e[i]? = true) : ∃ p us, σ[i]? = some (some (.ref p)) ∧ H p = some (.lst us) := by
  cases q : e[i]? with
  | none => rw [q] at h; cases h
  | some s =>
    rw [q] at h
    cases s with
    | own io ds =>
      obtain ⟨p, us, h1, h2, _⟩ := l.own i io ds q
      exact ⟨p, us, h1, h2⟩
    | _ => cases h
theorem attr_name {n m : Str} {env : Env} : attributeBase (.Name n p1) m env (eval (.Name n p1) env) = eval (.Name n p1) env := rfl
theorem st_app {i : Nat} {n : Str} (ha : GoodE c cf k a x) (hN : c.N[i]? = some n) (hv : visB c.sc n = true) (hd : (n == ("__debug__" : Str)) = false) (hcd : (n == ("__classdict__" : Str)) = false) (hs : isStar x = false) (hl : (apos.endLine == cpos.line) = true) :
    GoodS c cf k (.app i a) (.Expr (.Call (.Attribute (.Name n p1) "append" apos) [x] [] cpos) pos) := by
  intro X ok hp F G H S σ e E W tk l hq
  have hq : Po X F S W (pS X F S E) G (if isOwnS e[i]? then (ev cf a e).rv fun r e1 => (match fz r e1 with
    | some (d, e2) => (match e2[i]? with
      | some (.own io ds) => if ds.length < LINE then .ok (.fl .nx) (e2.set i (.own io (ds ++ [d]))) else .bad
      | _ => .bad)
    | none => .bad) else .bad) := hq
  split at hq
  case isFalse => exact hq.elim
  rename_i hi
  obtain ⟨p, us, g1, g2⟩ := own_of l hi
  refine ofS (ps_expr (pe_bm PySem.F.plainAttrs_list PySem.F.slot_list_append PySem.F.type_list_append mt_append (pe_var (ok.at hN) (ok.vis hv) hd hcd) (pa_cons pe_w pa_nil (star_cons hs)) attr_name
    (by rw [starOne hs]; rfl) hl (star_cons hs) rfl) rfl) ?_
  refine ⟨_, g1, .inl ⟨rfl, us, .inl (.inl g2)⟩, ?_⟩
  refine rvE ha ok tk l hq fun r e1 v H1 G1 s1 l1 r1 hp1 => ?_
  cases q : fz r e1 with
  | none => rw [q] at hp1; exact hp1.elim
  | some w =>
    obtain ⟨dd, e2⟩ := w
    rw [q] at hp1
    dsimp only at hp1
    obtain ⟨G2, s2, l2, d2⟩ := r1.fz l1 q
    cases q2 : e2[i]? with
    | none => rw [q2] at hp1; exact hp1.elim
    | some s =>
      rw [q2] at hp1
      cases s with
      | own io ds =>
        dsimp only at hp1
        split at hp1
        case isFalse => exact hp1.elim
        rename_i hz
        obtain ⟨p', us', h1, h2, h3, h4, h5, h6⟩ := l2.own i io ds q2
        rw [g1] at h1
        cases h1
        exact ⟨p, us', v, rfl, rfl, h2, by rw [DpAll.length h5, ← line_eq]; exact hz, (Po.mono s2 hp1) σ _ G2 (Same.refl G2) (l2.putOwn q2 g1 (DpAll.append h5 (.cons d2 .nil)))⟩
      | _ => exact hp1.elim
theorem st_ext {i : Nat} {n : Str} (ha : GoodE c cf k a x) (hN : c.N[i]? = some n) (hv : visB c.sc n = true) (hd : (n == ("__debug__" : Str)) = false) (hcd : (n == ("__classdict__" : Str)) = false) (hs : isStar x = false) (hl : (apos.endLine == cpos.line) = true) :
    GoodS c cf k (.ext i a) (.Expr (.Call (.Attribute (.Name n p1) "extend" apos) [x] [] cpos) pos) := by
  intro X ok hp F G H S σ e E W tk l hq
  have hq : Po X F S W (pS X F S E) G (if isOwnS e[i]? then (ev cf a e).rv fun r e1 => (match r, e1[i]? with
    | .o es, some (.own io ds) => if ds.length + es.length ≤ LINE then .ok (.fl .nx) (e1.set i (.own io (ds ++ es))) else .bad
    | _, _ => .bad) else .bad) := hq
  split at hq
  case isFalse => exact hq.elim
  rename_i hi
  obtain ⟨p, us, g1, g2⟩ := own_of l hi
  refine ofS (ps_expr (pe_bm PySem.F.plainAttrs_list PySem.F.slot_list_extend PySem.F.type_list_extend mt_extend (pe_var (ok.at hN) (ok.vis hv) hd hcd) (pa_cons pe_w pa_nil (star_cons hs)) attr_name
    (by rw [starOne hs]; rfl) hl (star_cons hs) rfl) rfl) ?_
  refine ⟨_, g1, .inl ⟨rfl, us, .inl (.inl g2)⟩, ?_⟩
  refine rvE ha ok tk l hq fun r e1 v H1 G1 s1 l1 r1 hp1 => ?_
  cases r with
  | o es =>
    obtain ⟨p2, us2, rfl, c1, c2, c3, c4, c5⟩ := r1
    cases q2 : e1[i]? with
    | none => rw [q2] at hp1; exact hp1.elim
    | some s =>
      rw [q2] at hp1
      cases s with
      | own io ds =>
        dsimp only at hp1
        split at hp1
        case isFalse => exact hp1.elim
        rename_i hz
        obtain ⟨p', us', h1, h2, h3, h4, h5, h6⟩ := l1.own i io ds q2
        rw [g1] at h1
        cases h1
        exact ⟨p, p2, us', us2, rfl, rfl, h2, c1, by rw [DpAll.length h5, DpAll.length c5, ← line_eq]; exact hz, hp1 σ _ G1 (Same.refl G1) (l1.putOwn q2 g1 (DpAll.append h5 c5))⟩
      | _ => exact hp1.elim
  | v dd => exact hp1.elim
  | b j => exact hp1.elim
theorem st_setIx {i : Nat} {n : Str} {ln : Pos} (hx : GoodE c cf k b y) (ha : GoodE c cf k a x) (hN : c.N[i]? = some n) (hv : visB c.sc n = true) (hd : (n == ("__debug__" : Str)) = false) (hcd : (n == ("__classdict__" : Str)) = false) (hn : notComp x = true) (ht : isSlice y = false) :
    GoodS c cf k (.setIx i b a) (.Assign [.Subscript (.Name n p1) y pos'] x ln) := by
  intro X ok hp F G H S σ e E W tk l hq
  refine ofS (ps_asg pe_w (pg_sub (pe_var (ok.at hN) (ok.vis hv) hd hcd) pe_w set_list (fun v => by cases y <;> first | rfl | cases ht)) (sole (sw_none hn)) (no_swap rfl X.env) rfl) ?_
  have hq : Po X F S W (pS X F S E) G ((ev cf a e).rv fun r e1 => (match fz r e1 with
    | some (d, e2) => if isOwnS e2[i]? then (ev cf b e2).rv fun ri e3 => (match rd ri e3, e3[i]? with
      | some (.int n), some (.own io ds) => (match ixN ds.length n with
        | some j => .ok (.fl .nx) (e3.set i (.own io (ds.set j d)))
        | none => .bad)
      | _, _ => .bad) else .bad
    | none => .bad)) := hq
  refine rvE ha ok tk l hq fun r e1 v H1 G1 s1 l1 r1 hp1 => ?_
  cases q : fz r e1 with
  | none => rw [q] at hp1; exact hp1.elim
  | some w =>
    obtain ⟨dd, e2⟩ := w
    rw [q] at hp1
    dsimp only at hp1
    obtain ⟨G2, s2, l2, d2⟩ := r1.fz l1 q
    split at hp1
    case isFalse => exact hp1.elim
    rename_i hi
    obtain ⟨p, us, g1, g2⟩ := own_of l2 hi
    refine ⟨_, g1, ?_⟩
    refine rvE hx ok tk l2 (Po.mono s2 hp1) fun ri e3 u H3 G3 s3 l3 r3 hp3 => ?_
    obtain ⟨G4, s4, l4, r4⟩ := r3.nrm l3
    cases q1 : rd ri e3 with
    | none => rw [q1] at hp3; exact hp3.elim
    | some w =>
      rw [q1] at hp3
      cases w with
      | int z =>
        obtain rfl := (r4.rd l4 q1).int
        cases q2 : e3[i]? with
        | none => rw [q2] at hp3; exact hp3.elim
        | some s =>
          rw [q2] at hp3
          cases s with
          | own io ds =>
            dsimp only at hp3
            obtain ⟨p', us', h1, h2, h3, h4, h5, h6⟩ := l4.own i io ds q2
            rw [g1] at h1
            cases h1
            cases q3 : ixN ds.length z with
            | none => rw [q3] at hp3; exact hp3.elim
            | some j =>
              rw [q3] at hp3
              exact ⟨p, us', z, j, rfl, rfl, h2, by rw [DpAll.length h5]; exact q3, (Po.mono s4 hp3) σ _ G4 (Same.refl G4) (l4.putOwn q2 g1 (DpAll.set (Dp.same (s3.trans s4) _ _ d2) j h5))⟩
          | _ => exact hp3.elim
      | _ => exact hp3.elim

/-! ### loops -/
theorem st_for {t : List Stmt} (hs : GoodI c cf k src tgx itx) (hg : GoodG c cf k tg tgx) (hb : GoodB c cf k body t) (hn : notSet itx = true) : GoodS c cf k (.forS tg src body) (.For tgx itx t [] pos) := by
  intro X ok hp F G H S σ e E W tk l hq
  refine ofS (ps_for hp ok.calm (pi_w (tg := tgx) (x := itx)) (pg_w (tg := tgx)) (pss_w (sts := t)) (folded hn X.env)) ?_
  refine dsI hs ok tk l hq fun items e1 J H1 G1 s1 l1 it hp1 => ?_
  have step : ∀ (dd : D) (ds : List D) (e' : Fm), fLoop (fun d e2 => match bindT tg d e2 with
    | some e3 => ev cf body e3
    | none => .bad) (dd :: ds) e' = (match (match bindT tg dd e' with
    | some e3 => ev cf body e3
    | none => .bad) with
      | .ok (.fl .nx) e1 => fLoop (fun d e2 => match bindT tg d e2 with
    | some e3 => ev cf body e3
    | none => .bad) ds e1
      | .ok (.fl .cont) e1 => fLoop (fun d e2 => match bindT tg d e2 with
    | some e3 => ev cf body e3
    | none => .bad) ds e1
      | .ok (.fl .brk) e1 => .ok (.fl .nx) e1
      | .ok (.fl (.ret r)) e1 => .ok (.fl (.ret r)) e1
      | .rz x e1 => .rz x e1
      | _ => .bad) := fun _ _ _ => rfl
  generalize hst : (fun (d : D) (e2 : Fm) => (match bindT tg d e2 with
    | some e3 => ev cf body e3
    | none => .bad : R Val)) = stp at hp1 step
  refine ⟨fun i m σ' H' => m = items.length - i ∧ i ≤ items.length ∧ ∃ G' e', Same G1 G' ∧ Rl KZ F G' H' S σ' e' ∧ Po X F S W (pS X F S E) G' (fLoop stp (items.drop i) e'),
    ⟨items.length, rfl, Nat.zero_le _, G1, e1, Same.refl G1, l1, hp1⟩, ?_⟩
  rintro i m σ' H' ⟨rfl, hi, G', e', s', lr, hpo⟩
  obtain ⟨ig, is, _⟩ := it G' H' s' lr.g
  by_cases hlt : i < items.length
  · rw [List.drop_eq_getElem_cons hlt, step] at hpo
    refine .inr ⟨ig i hlt, fun σ2 H2 => ∃ G2 e2, Same G1 G2 ∧ Rl KZ F G2 H2 S σ2 e2 ∧ Po X F S W (pS X F S E) G2 (fLoop stp (items.drop (i + 1)) e2), fun σ2 H2 ⟨G2, e2, s2, l2, p2⟩ => ⟨items.length - (i + 1), by omega, rfl, hlt, G2, e2, s2, l2, p2⟩, fun v H2 hy => ?_⟩
    obtain ⟨G2, s2, l2, dx⟩ := itd_step it s' lr hlt hy
    have hpo := Po.mono s2 hpo
    cases qb : bindT tg items[i] e' with
    | none => rw [qb] at hpo; exact hpo.elim
    | some e3 =>
      rw [qb] at hpo
      dsimp only at hpo
      refine hg X ok F G2 H2 S σ' e' v items[i] e3 _ l2 dx qb fun σ3 _ l3 => ?_
      refine hb X ok hp F G2 H2 S σ3 e3 _ W tk l3 ?_
      have sG := s'.trans s2
      cases qe : ev cf body e3 with
      | bad => rw [qe] at hpo; exact hpo
      | rz z e4 => rw [qe] at hpo; exact hpo
      | ok w e4 =>
        rw [qe] at hpo
        cases w with
        | fl f =>
          cases f with
          | nx => exact fun σ4 H4 G4 s4 l4 => ⟨G4, e4, sG.trans s4, l4, Po.mono s4 hpo⟩
          | cont => exact fun σ4 H4 G4 s4 l4 => ⟨G4, e4, sG.trans s4, l4, Po.mono s4 hpo⟩
          | brk => exact hpo
          | ret r => exact hpo
        | _ => exact hpo
  · have ei : i = items.length := by omega
    subst ei
    rw [List.drop_length] at hpo
    exact .inl ⟨is, hpo σ' H' G' (Same.refl G') lr⟩
theorem st_while {t : List Stmt} (hc : GoodT c cf k a x) (hb : GoodB c cf k body t) : GoodS c cf k (.whileS a body) (.While x t [] pos) := by
  intro X ok hp F G H S σ e E W tk l hq
  refine ofS (ps_while hp pt_w (pss_w (sts := t))) ?_
  have hq : Po X F S W (pS X F S E) G (wLoop (fun e1 => testR (ev cf a e1)) (fun e1 => ev cf body e1) WF e) := hq
  refine ⟨fun m σ' H' => ∃ G' e', Same G G' ∧ Rl KZ F G' H' S σ' e' ∧ Po X F S W (pS X F S E) G' (wLoop (fun e1 => testR (ev cf a e1)) (fun e1 => ev cf body e1) m e'), ⟨WF, G, e, Same.refl G, l, hq⟩, ?_⟩
  rintro m σ' H' ⟨G', e', s', lr, hpo⟩
  cases m with
  | zero => exact hpo.elim
  | succ m =>
    have hpo : Po X F S W (pS X F S E) G' (match testR (ev cf a e') with
      | .ok true e1 => (match ev cf body e1 with
        | .ok (.fl .nx) e2 => wLoop (fun e1 => testR (ev cf a e1)) (fun e1 => ev cf body e1) m e2
        | .ok (.fl .cont) e2 => wLoop (fun e1 => testR (ev cf a e1)) (fun e1 => ev cf body e1) m e2
        | .ok (.fl .brk) e2 => .ok (.fl .nx) e2
        | .ok (.fl (.ret r)) e2 => .ok (.fl (.ret r)) e2
        | .rz x e2 => .rz x e2
        | _ => .bad)
      | .ok false e1 => .ok (.fl .nx) e1
      | .rz x e1 => .rz x e1
      | .bad => .bad) := hpo
    refine hc X ok F G' H' S σ' e' _ W tk lr ?_
    cases qt : testR (ev cf a e') with
    | bad => rw [qt] at hpo; exact hpo
    | rz z e1 => rw [qt] at hpo; exact hpo
    | ok q e1 =>
      rw [qt] at hpo
      intro H1 G1 s1 l1
      cases q with
      | false =>
        rw [if_neg Bool.false_ne_true]
        exact hpo σ' H1 G1 s1 l1
      | true =>
        rw [if_pos rfl]
        refine ⟨fun σ2 H2 => ∃ G2 e2, Same G G2 ∧ Rl KZ F G2 H2 S σ2 e2 ∧ Po X F S W (pS X F S E) G2 (wLoop (fun e1 => testR (ev cf a e1)) (fun e1 => ev cf body e1) m e2), fun σ2 H2 z => ⟨m, Nat.lt_succ_self m, z⟩, ?_⟩
        refine hb X ok hp F G1 H1 S σ' e1 _ W tk l1 ?_
        have hpo := Po.mono s1 hpo
        have sG := s'.trans s1
        dsimp only at hpo
        cases qe : ev cf body e1 with
        | bad => rw [qe] at hpo; exact hpo
        | rz z e4 => rw [qe] at hpo; exact hpo
        | ok w e4 =>
          rw [qe] at hpo
          cases w with
          | fl f =>
            cases f with
            | nx => exact fun σ4 H4 G4 s4 l4 => ⟨G4, e4, sG.trans s4, l4, Po.mono s4 hpo⟩
            | cont => exact fun σ4 H4 G4 s4 l4 => ⟨G4, e4, sG.trans s4, l4, Po.mono s4 hpo⟩
            | brk => exact hpo
            | ret r => exact hpo
          | _ => exact hpo
end
end L2.Mp
set_option Elab.async false
set_option linter.all false
set_option maxRecDepth 100000
set_option maxHeartbeats 4000000
namespace L2.Mp
open PySem PySem.Spec PyProof.Rows L2
section
variable {c : Ct} {cf : CF} {k : Nat} {a b d lo hi src body tg : T} {x y z tgx itx : Expr} {X : Cx} {F G H : Hp} {S σ : St} {e : Fm} {W : WX} {pos pos' p1 apos cpos : Pos}
/-! ### a text walked sign by sign -/
theorem strF_get {s : Str} {i : Nat} {d : D} (h : (strF s)[i]? = some d) : ∃ c, s.cps[i]? = some c ∧ d = .str ⟨#[c]⟩ := by
  unfold strF at h
  rw [List.getElem?_map] at h
  obtain ⟨c, h1, rfl⟩ := Option.map_eq_some_iff.mp h
  exact ⟨c, by rw [← Array.getElem?_toList]; exact h1, rfl⟩
theorem itd_str {G : Hp} {s : Str} : ItD KZ G (Its s) (strF s) := by
  have hl : (strF s).length = s.cps.size := by unfold strF; rw [List.length_map, Array.length_toList]
  intro G1 H1 s1 s2
  refine ⟨fun i hi => ?_, ?_, fun i d v H2 e hy => .inl ?_⟩
  · rw [hl] at hi
    exact hi
  · rw [hl]
    exact Nat.le_refl _
  · obtain ⟨e1, c, e2, e3⟩ := hy
    obtain ⟨c', e4, rfl⟩ := strF_get e
    rw [e2] at e4
    cases e4
    rw [e3]
    exact ⟨e1, .str _⟩
theorem src_str (ha : GoodE c cf k a x) : GoodI c cf k (.sStr a) tgx x := by
  intro X ok F G H S σ e Q W tk l hq
  refine ofI (pi_str pe_w) ?_
  refine rvE ha ok tk l hq fun ra e1 v H1 G1 s1 l1 r1 hp => ?_
  obtain ⟨G2, s2, l2, r2⟩ := r1.nrm l1
  cases q1 : rd ra e1 with
  | none => rw [q1] at hp; exact hp.elim
  | some w =>
    rw [q1] at hp
    cases w with
    | str t =>
      obtain rfl := (r2.rd l2 q1).str
      exact ⟨t, rfl, (Po.mono s2 hp) _ H1 G2 (Same.refl G2) l2 itd_str⟩
    | _ => exact hp.elim
/-! ### three lists stored at once -/
theorem st_par3 {i j m : Nat} {n1 n2 n3 : Str} {px py pz pt pt2 ln : Pos} {kt k2 : Nat} (ha : GoodE c cf k a x) (hb : GoodE c cf k b y) (hd : GoodE c cf k d z) (h1 : c.N[i]? = some n1) (h2 : c.N[j]? = some n2) (h3 : c.N[m]? = some n3) (hij : i ≠ j) (him : i ≠ m) (hjm : j ≠ m) (sx : isStar x = false) (sy : isStar y = false) (sz : isStar z = false)
    (g1 : c.sc.names.lookup n1 = some .local) (g2 : c.sc.names.lookup n2 = some .local) (g3 : c.sc.names.lookup n3 = some .local) (hw : ∀ X, XOk c cf k X → swappedStores [.Tuple [.Name n1 px, .Name n2 py, .Name n3 pz] kt pt] (.Tuple [x, y, z] k2 pt2) X.env = pure (some [n1, n2, n3])) :
    GoodS c cf k (.par3 i j m a b d) (.Assign [.Tuple [.Name n1 px, .Name n2 py, .Name n3 pz] kt pt] (.Tuple [x, y, z] k2 pt2) ln) := by
  intro X ok hp F G H S σ e E W tk l hq
  refine ofS (ps_par3 ok.calm ok.nd' (ok.at h1) (ok.at h2) (ok.at h3) hij him hjm ((ok.sc _ _ g1).1 (by decide)) ((ok.sc _ _ g2).1 (by decide)) ((ok.sc _ _ g3).1 (by decide)) (pa_cons pe_w (pa_cons pe_w (pa_cons pe_w pa_nil (star_cons sz)) (star_cons sy)) (star_cons sx)) (hw X ok)) ?_
  have hq : Po X F S W (pS X F S E) G ((ev cf a e).rv fun ra e1 => (ev cf b e1).rv fun rb e2 => (ev cf d e2).rv fun rc e3 => (match ra, rb, rc with
    | .o x, .o y, .o z => if storable e3[i]? && storable e3[j]? && storable e3[m]? then .ok (.fl .nx) (((e3.set i (.own false x)).set j (.own false y)).set m (.own false z)) else .bad
    | _, _, _ => .bad)) := hq
  refine rvE ha ok tk l hq fun ra e1 v H1 G1 s1 l1 r1 hp1 => ?_
  cases ra with
  | v dd => exact rvE hb ok tk l1 hp1 fun rb e2 u H2 G2 s2 l2 r2 hp2 => rvE hd ok tk l2 hp2 fun rc e3 t H3 G3 s3 l3 r3 hp3 => hp3.elim
  | b t => exact rvE hb ok tk l1 hp1 fun rb e2 u H2 G2 s2 l2 r2 hp2 => rvE hd ok tk l2 hp2 fun rc e3 t H3 G3 s3 l3 r3 hp3 => hp3.elim
  | o da =>
    obtain ⟨p, us, rfl, a1, a2, a3, a4, a5⟩ := r1
    refine hb X ok (upd F p (.lst us)) G1 H1 S σ e1 _ W tk (l1.hold a1 a2 a4) ?_
    cases qb : ev cf b e1 with
    | bad => rw [qb] at hp1; exact hp1.elim
    | rz z e2 =>
      rw [qb] at hp1
      exact fun cls dd σ' H' G' sm l' xo => hp1 cls dd σ' H' G' sm (l'.drop a3).1 xo
    | ok w e2 =>
      rw [qb] at hp1
      cases w with
      | rv rb =>
        intro u H2 G2 s2 l2 r2
        have hp2 := Po.mono s2 hp1
        cases rb with
        | v dd =>
          have l2' := (l2.drop a3).1
          exact rvE hd ok tk l2' hp2 fun rc e3 t H3 G3 s3 l3 r3 hp3 => hp3.elim
        | b t =>
          have l2' := (l2.drop a3).1
          exact rvE hd ok tk l2' hp2 fun rc e3 t H3 G3 s3 l3 r3 hp3 => hp3.elim
        | o db =>
          obtain ⟨p2, us2, rfl, b1, b2, b3, b4, b5⟩ := r2
          have ne : p2 ≠ p := fun z => by
            rw [z, upd_same] at b3
            cases b3
          have b3' : F p2 = none := by rw [upd_ne ne] at b3; exact b3
          refine hd X ok (upd (upd F p (.lst us)) p2 (.lst us2)) G2 H2 S σ e2 _ W tk (l2.hold b1 b2 b4) ?_
          have hp2 : Po X F S W (pS X F S E) G2 ((ev cf d e2).rv fun rc e3 => (match rc with
            | .o z => if storable e3[i]? && storable e3[j]? && storable e3[m]? then .ok (.fl .nx) (((e3.set i (.own false da)).set j (.own false db)).set m (.own false z)) else .bad
            | _ => .bad)) := by
            change Po X F S W (pS X F S E) G2 ((ev cf d e2).rv _) at hp2
            cases qd : ev cf d e2 with
            | bad => rw [qd] at hp2; exact hp2
            | rz z e3 => rw [qd] at hp2; exact hp2
            | ok w e3 =>
              rw [qd] at hp2
              cases w with
              | rv rc => cases rc <;> exact hp2
              | _ => exact hp2
          cases qd : ev cf d e2 with
          | bad => rw [qd] at hp2; exact hp2.elim
          | rz z e3 =>
            rw [qd] at hp2
            exact fun cls dd σ' H' G' sm l' xo => hp2 cls dd σ' H' G' sm ((l'.drop b3).1.drop a3).1 xo
          | ok w e3 =>
            rw [qd] at hp2
            cases w with
            | rv rc =>
              intro t H3 G3 s3 l3 r3
              have hp3 := Po.mono s3 hp2
              cases rc with
              | v dd => exact hp3.elim
              | b t => exact hp3.elim
              | o dc =>
                obtain ⟨p3, us3, rfl, c1, c2, c3, c4, c5⟩ := r3
                have ne2 : p3 ≠ p2 := fun z => by
                  rw [z, upd_same] at c3
                  cases c3
                rw [upd_ne ne2] at c3
                have ne3 : p3 ≠ p := fun z => by
                  rw [z, upd_same] at c3
                  cases c3
                rw [upd_ne ne3] at c3
                obtain ⟨l4, f1, f2, f3⟩ := l3.drop b3
                obtain ⟨l5, g1, g2, g3⟩ := l4.drop a3
                have hp3 : Po X F S W (pS X F S E) G3 (if storable e3[i]? && storable e3[j]? && storable e3[m]? then R.ok (Val.fl .nx) (((e3.set i (.own false da)).set j (.own false db)).set m (.own false dc)) else .bad) := hp3
                split at hp3
                case isFalse => exact hp3.elim
                have l6 := l5.setOwn (i := i) g1 g2 a3 g3 (Dp.sameAll (s2.trans s3) _ _ a5)
                have l7 := l6.setOwn (i := j) f1 f2 b3' (storeNo f3 (.inr fun z => ne (by cases z; rfl))) (Dp.sameAll s3 _ _ b5)
                have l8 := l7.setOwn (i := m) c1 c2 c3 (storeNo (storeNo c4 (.inr fun z => ne3 (by cases z; rfl))) (.inr fun z => ne2 (by cases z; rfl))) c5
                exact ⟨_, _, _, rfl, hp3 _ H3 G3 (Same.refl G3) l8⟩
            | _ => exact hp2.elim
      | _ => exact hp1.elim
theorem swap3_is {n1 n2 n3 : Str} {px py pz pt pt2 : Pos} {kt k2 : Nat} (h1 : c.sc.names.lookup n1 = some .local) (h2 : c.sc.names.lookup n2 = some .local) (h3 : c.sc.names.lookup n3 = some .local) (hl : (py.line == px.line) = true) (hl2 : (pz.line == px.line) = true) (ne : n1 ≠ n2) (ne2 : n1 ≠ n3) (ne3 : n2 ≠ n3) (sx : isStar x = false) (sy : isStar y = false) (sz : isStar z = false)
    (hf : (foldedForSure 8 x && (foldedForSure 8 y && foldedForSure 8 z)) = false) (hc : (constantsAlone 8 x && (constantsAlone 8 y && constantsAlone 8 z)) = false) :
    ∀ X, XOk c cf k X → swappedStores [.Tuple [.Name n1 px, .Name n2 py, .Name n3 pz] kt pt] (.Tuple [x, y, z] k2 pt2) X.env = pure (some [n1, n2, n3]) := by
  intro X ok
  have hb : X.env.blockKind = .function := by unfold Env.blockKind; rw [ok.kind]; rfl
  have k1 : X.env.kindOf n1 = some .local := (ok.sc _ _ h1).1 (by decide)
  have k2 : X.env.kindOf n2 = some .local := (ok.sc _ _ h2).1 (by decide)
  have k3 : X.env.kindOf n3 = some .local := (ok.sc _ _ h3).1 (by decide)
  have st : ([x, y, z].any fun
    | .Starred .. => true
    | _ => false) = false := by
    cases x <;> cases y <;> cases z <;> first | rfl | exact Bool.noConfusion sy | exact Bool.noConfusion sx | exact Bool.noConfusion sz
  have e2 : (n2 == n1) = false := by simpa using Ne.symm ne
  have e3 : (n3 == n1) = false := by simpa using Ne.symm ne2
  have e4 : (n3 == n2) = false := by simpa using Ne.symm ne3
  have e1 : ([n1, n2, n3] : List Str).eraseDups = [n1, n2, n3] := by
    simp [List.eraseDups_cons, e2, e3, e4]
  have hl0 : (px.line == px.line) = true := beq_self_eq_true _
  have kk : (some NameKind.local == some NameKind.local) = true := by decide
  unfold swappedStores
  simp only [hb, List.filterMap, k1, k2, k3, List.head?, Option.map, Option.getD, Expr.pos, hl, hl2, hl0, kk, Bool.and_self, if_true, List.all_cons, List.all_nil, Bool.and_true, hf, hc, e1]
  refine (if_neg (by simp)).trans ((if_neg fun z => Bool.noConfusion (st.symm.trans z)).trans ((if_neg (by simp)).trans ?_))
  rfl
/-! ### pop -/
theorem DpAll.erase {G : Hp} : ∀ {vs : List V} {ds : List D} (i : Nat), DpAll KZ G vs ds → DpAll KZ G (vs.eraseIdx i) (ds.eraseIdx i)
  | [], [], _, _ => .nil
  | _ :: _, _ :: _, 0, .cons _ h2 => h2
  | _ :: _, _ :: _, i + 1, .cons h1 h2 => .cons h1 (DpAll.erase i h2)
theorem good_pop {i : Nat} {n : Str} (ha : GoodE c cf k a x) (hN : c.N[i]? = some n) (hv : visB c.sc n = true) (hd : (n == ("__debug__" : Str)) = false) (hcd : (n == ("__classdict__" : Str)) = false) (hs : isStar x = false) (hl : (apos.endLine == cpos.line) = true) :
    GoodE c cf k (.pop i a) (.Call (.Attribute (.Name n p1) "pop" apos) [x] [] cpos) := by
  intro X ok F G H S σ e Q W tk l hq
  have hq : Po X F S W (pE X F S σ Q) G (if isOwnS e[i]? then (ev cf a e).rv fun r e1 => (match rd r e1, e1[i]? with
    | some (.int n), some (.own io ds) => (match ixN ds.length n with
      | some j => (match ds[j]? with
        | some d => if -(2 ^ 63) ≤ n ∧ n < 2 ^ 63 then R.ok (Val.rv (.v d)) (e1.set i (.own io (ds.eraseIdx j))) else .bad
        | none => .bad)
      | none => .bad)
    | _, _ => .bad) else .bad) := hq
  split at hq
  case isFalse => exact hq.elim
  rename_i hi
  obtain ⟨p, us, g1, g2⟩ := own_of l hi
  refine ofE (pe_bm PySem.F.plainAttrs_list PySem.F.slot_list_pop PySem.F.type_list_pop mt_popAt (pe_var (ok.at hN) (ok.vis hv) hd hcd) (pa_cons pe_w pa_nil (star_cons hs)) attr_name
    (by rw [starOne hs]; rfl) hl (star_cons hs) rfl) ?_
  refine ⟨_, g1, .inl ⟨rfl, us, .inl (.inl g2)⟩, ?_⟩
  refine rvE ha ok tk l hq fun r e1 v H1 G1 s1 l1 r1 hp1 => ?_
  obtain ⟨G2, s2, l2, r2⟩ := r1.nrm l1
  cases q1 : rd r e1 with
  | none => rw [q1] at hp1; exact hp1.elim
  | some w =>
    rw [q1] at hp1
    cases w with
    | int z =>
      obtain rfl := (r2.rd l2 q1).int
      cases q2 : e1[i]? with
      | none => rw [q2] at hp1; exact hp1.elim
      | some s =>
        rw [q2] at hp1
        cases s with
        | own io ds =>
          dsimp only at hp1
          obtain ⟨p', us', h1, h2, h3, h4, h5, h6⟩ := l2.own i io ds q2
          rw [g1] at h1
          cases h1
          cases q3 : ixN ds.length z with
          | none => rw [q3] at hp1; exact hp1.elim
          | some j =>
            rw [q3] at hp1
            dsimp only at hp1
            cases q4 : ds[j]? with
            | none => rw [q4] at hp1; exact hp1.elim
            | some dd =>
              rw [q4] at hp1
              dsimp only at hp1
              split at hp1
              case isFalse => exact hp1.elim
              rename_i hz
              obtain ⟨v, e3, dv⟩ := DpAll.get h5 q4
              exact ⟨p, us', z, j, v, rfl, rfl, h2, hz.1, hz.2, by rw [DpAll.length h5]; exact (ixN_seq q3).1, e3, (Po.mono s2 hp1) v _ G2 (Same.refl G2) (l2.putOwn q2 g1 (DpAll.erase j h5)) dv⟩
        | _ => exact hp1.elim
    | _ => exact hp1.elim
/-- a slot forgotten, whatever it holds -/
theorem Rl.setNo (r : Rl KZ F G H S σ e) (i : Nat) (o : Option V) : Rl KZ F G H S (σ.set i o) (e.set i .no) where
  g := r.g
  f := r.f
  fg := r.fg
  len := by rw [List.length_set, List.length_set]; exact r.len
  val := fun j x h => by
    rcases get_set h with ⟨rfl, z, hl⟩ | ⟨hj, h⟩
    · cases z
    · rw [List.getElem?_set_ne (Ne.symm hj)]
      exact r.val j x h
  own := fun j jo es h => by
    rcases get_set h with ⟨rfl, z, hl⟩ | ⟨hj, h⟩
    · cases z
    · rw [List.getElem?_set_ne (Ne.symm hj)]
      exact r.own j jo es h
  inj := fun j k jo ko es fs b q1 q2 h1 h2 => by
    rcases get_set q1 with ⟨rfl, z, _⟩ | ⟨hj, q1⟩
    · cases z
    · rcases get_set q2 with ⟨rfl, z, _⟩ | ⟨hk, q2⟩
      · cases z
      · rw [List.getElem?_set_ne (Ne.symm hj)] at h1
        rw [List.getElem?_set_ne (Ne.symm hk)] at h2
        exact r.inj j k jo ko es fs b q1 q2 h1 h2
/-- take = one if .. else other; found.append(take.pop(0)) -/
theorem blk_popE {tk fd i j : Nat} {nt nf ni nj : Str} {q0 : Nat} {pt p2 p3 pi pj pi2 ln apos2 cpos2 : Pos} {sts : List Stmt} (hd : GoodT c cf k d z) (hr : GoodB c cf k a sts)
    (hT : c.N[tk]? = some nt) (hF : c.N[fd]? = some nf) (hI : c.N[i]? = some ni) (hJ : c.N[j]? = some nj)
    (lt : locB c.sc nt = true) (vt : visB c.sc nt = true) (dt : (nt == ("__debug__" : Str)) = false) (ct : (nt == ("__classdict__" : Str)) = false)
    (vf : visB c.sc nf = true) (df : (nf == ("__debug__" : Str)) = false) (cf' : (nf == ("__classdict__" : Str)) = false)
    (vi : visB c.sc ni = true) (di : (ni == ("__debug__" : Str)) = false) (ci : (ni == ("__classdict__" : Str)) = false)
    (vj : visB c.sc nj = true) (dj : (nj == ("__debug__" : Str)) = false) (cj : (nj == ("__classdict__" : Str)) = false)
    (n1 : i ≠ fd) (n2 : j ≠ fd) (n3 : tk ≠ i) (n4 : tk ≠ j) (n5 : tk ≠ fd) (hl : (apos.endLine == cpos.line) = true) (hl2 : (apos2.endLine == cpos2.line) = true) :
    GoodB c cf k (.popE tk fd d i j a) (.Assign [.Name nt pt] (.IfExp z (.Name ni pi) (.Name nj pj) pi2) ln :: .Expr (.Call (.Attribute (.Name nf p1) "append" apos) [.Call (.Attribute (.Name nt p2) "pop" apos2) [.Constant (.int 0) q0 p3] [] cpos2] [] cpos) pos :: sts) := by
  intro X ok hp F G H S σ e E W tkk l hq
  obtain ⟨t1, t2⟩ := ok.loc lt
  refine ofB (pss_cons (ps_w (st := .Assign [.Name nt pt] (.IfExp z (.Name ni pi) (.Name nj pj) pi2) ln)) (pss_w (sts := .Expr (.Call (.Attribute (.Name nf p1) "append" apos) [.Call (.Attribute (.Name nt p2) "pop" apos2) [.Constant (.int 0) q0 p3] [] cpos2] [] cpos) pos :: sts))) ?_
  refine ofS (ps_asg (pe_ifExp pt_w (pe_var (ok.at hI) (ok.vis vi) di ci) (pe_var (ok.at hJ) (ok.vis vj) dj cj)) (pg_name (pos := pt) ok.nd' (ok.at hT) t1 t2) (sole (sw_none rfl)) (no_swap rfl X.env) rfl) ?_
  have key : ∀ (m : Nat) (G1 H1 : Hp) (e1 : Fm), m ≠ fd → tk ≠ m → Rl KZ F G1 H1 S σ e1 → Po X F S W (pS X F S E) G1 (match e1[m]?, e1[fd]? with
      | some (.own io (x :: xs)), some (.own io2 acc) => if storable e1[tk]? && decide (acc.length < LINE) then ev cf a (((e1.set tk .no).set m (.own io xs)).set fd (.own io2 (acc ++ [x]))) else .bad
      | _, _ => .bad) → ∃ v, σ[m]? = some (some v) ∧ wxB X (.Expr (.Call (.Attribute (.Name nf p1) "append" apos) [.Call (.Attribute (.Name nt p2) "pop" apos2) [.Constant (.int 0) q0 p3] [] cpos2] [] cpos) pos :: sts) E (σ.set tk (some v)) H1 := by
    intro m G1 H1 e1 hm ht l1 hp1
    split at hp1
    case h_2 => exact hp1.elim
    rename_i io x xs io2 acc q1 q2
    split at hp1
    case isFalse => exact hp1.elim
    rename_i hz
    simp only [Bool.and_eq_true, decide_eq_true_eq] at hz
    obtain ⟨p, us, a1, a2, a3, a4, a5, a6⟩ := l1.own m io _ q1
    obtain ⟨p', us2, b1, b2, b3, b4, b5, b6⟩ := l1.own fd io2 _ q2
    cases a5 with
    | @cons v0 us' _ _ d0 ds =>
      have hne : p' ≠ p := fun z => hm (l1.inj m fd io io2 _ _ p q1 q2 a1 (by rw [b1, z]))
      have tl : tk < σ.length := by
        cases w : e1[tk]? with
        | none => rw [w] at hz; cases hz.1
        | some s => rw [← l1.len]; exact (List.getElem?_eq_some_iff.mp w).1
      refine ⟨.ref p, a1, ?_⟩
      refine ofB (pss_cons (ps_w (st := .Expr (.Call (.Attribute (.Name nf p1) "append" apos) [.Call (.Attribute (.Name nt p2) "pop" apos2) [.Constant (.int 0) q0 p3] [] cpos2] [] cpos) pos)) (pss_w (sts := sts))) ?_
      refine ofS (ps_expr (pe_bm PySem.F.plainAttrs_list PySem.F.slot_list_append PySem.F.type_list_append mt_append (pe_var (ok.at hF) (ok.vis vf) df cf')
        (pa_cons (pe_bm PySem.F.plainAttrs_list PySem.F.slot_list_pop PySem.F.type_list_pop mt_popAt (pe_var (ok.at hT) (ok.vis vt) dt ct) (pa_cons pe_int pa_nil (star_cons rfl)) attr_name (by rw [starOne rfl]; rfl) hl2 (star_cons rfl) rfl) pa_nil (star_cons rfl)) attr_name
        (by rw [starOne rfl]; rfl) hl (star_cons rfl) rfl) rfl) ?_
      refine ⟨.ref p', by rw [List.getElem?_set_ne n5]; exact b1, .inl ⟨rfl, us2, .inl (.inl b2)⟩, ?_⟩
      refine ⟨.ref p, by rw [List.getElem?_set_self tl], .inl ⟨rfl, v0 :: us', .inl (.inl a2)⟩, ?_⟩
      refine ⟨p, v0 :: us', 0, 0, v0, rfl, rfl, a2, by decide, by decide, (ixN_seq (by simp [ixN])).1, rfl, ?_⟩
      refine ⟨p', us2, v0, rfl, rfl, by rw [upd_ne hne]; exact b2, by rw [DpAll.length b5, ← line_eq]; exact hz.2, ?_⟩
      have l2 := l1.setNo tk (some (.ref p))
      have l3 := l2.putOwn (i := m) (io := io) (ds := x :: xs) (ds' := xs) (vs' := us') (a := p) (by rw [List.getElem?_set_ne ht]; exact q1) (by rw [List.getElem?_set_ne ht]; exact a1) ds
      have l4 := l3.putOwn (i := fd) (io := io2) (ds := acc) (ds' := acc ++ [x]) (vs' := us2 ++ [v0]) (a := p') (by rw [List.getElem?_set_ne hm, List.getElem?_set_ne n5]; exact q2) (by rw [List.getElem?_set_ne n5]; exact b1) (DpAll.append b5 (.cons d0 .nil))
      exact hr X ok hp F G1 _ S _ _ E W tkk l4 hp1
  refine bndT hd ok tkk l hq fun q e1 H1 G1 s1 l1 hp1 => ?_
  cases q with
  | true =>
    rw [if_pos rfl]
    exact key i G1 H1 e1 n1 n3 l1 hp1
  | false =>
    rw [if_neg Bool.false_ne_true]
    exact key j G1 H1 e1 n2 n4 l1 hp1
end
end L2.Mp
set_option Elab.async false
set_option linter.all false
set_option maxRecDepth 100000
set_option maxHeartbeats 4000000
namespace L2.Mp
open PySem PySem.Spec PySem.W PyProof.Rows L2
/-! ### sorted(a list or a tuple) of alike data -/
section
variable {prog : Program} {w : World} {A : Around} {E : Value → Shared → Prop} {s : Shared} {R : Value → D → Prop}
theorem sorted_two {l : Addr} {T : String} {o : Obj} {vs : List Value} {ds : List D} {n : Nat} {Q : Value → Shared → Prop} (hT : T = "list" ∨ T = "tuple") (ho : s.heap.get? l = some o) (hc : o.cls = .type T) (hd : o.data = .seq vs.toArray n)
    (e : EachIs R vs ds) (er : EachIs (fun v b => ∃ as, Reads s.heap v (id b) as) vs ds) (hal : AllAlike (ds.map id)) (hk : Sortable (ds.map id)) (hL : ds.length ≤ sizeLine) (hu : ∀ b, b ∈ ds → A.units + 2 + (id b).depth < cLine)
    (h : ∀ (out : List Value) (h1 h' : Heap) (a : Addr), out.length = ds.length → EachIs R out (ds.mergeSort (dataLe false id)) → (∀ b u, s.heap.get? b = some u → h1.get? b = some u) → h1.objs.size ≤ a → (∀ b u, h1.get? b = some u → h'.get? b = some u) → (∃ m, h'.get? a = some (seqObj "list" out.toArray m)) → Q (.ref a) { s with heap := h' }) :
    wpAny (model prog w) A (call (.builtin "sorted") [.ref l]) Q E s := by
  have hl : vs.length ≤ sizeLine := by rw [e.length]; exact hL
  refine PyProof.Rows.call_function_entry_kw kind_sorted plain_sorted entry_sorted (args_sorted1 _) ?_
  unfold Builtin.«sorted»
  refine wpAny_bind (m := checkCount "sorted" 1 1 _) (wpAny_pure ?_)
  refine wpAny_bind (wpAny_collect_seq l hT ho hc hd (fun h1 k1 => ?_) (by rw [List.size_toArray]; exact hl))
  refine wpAny_bind (wpAny_newList ?_ hl)
  have hat : (h1.push (seqObj "list" vs.toArray 0)).get? h1.objs.size = some (seqObj "list" vs.toArray 0) := Heap.get?_push_size _ rfl
  have old : ∀ b u, s.heap.get? b = some u → b ≠ h1.objs.size ∧ (h1.push (seqObj "list" vs.toArray 0)).get? b = some u := fun b u q => ⟨Nat.ne_of_lt (Heap.lt_size (k1 b u q)), Heap.get?_push_of_some _ (k1 b u q)⟩
  have er' : EachIs (fun v b => ∃ as, Reads (sortingHeap (h1.push (seqObj "list" vs.toArray 0)) h1.objs.size vs) v (id b) as) vs ds := er.mono fun _ _ ⟨as, r⟩ => ⟨as, PyProof.Rows.Reads.keeps (fun b u q => sortingHeap_old (old b u q).1 (old b u q).2) r⟩
  show wpAny (model prog w) A.in1 _ _ _ { s with heap := h1.push (seqObj "list" vs.toArray 0) }
  refine wpAny_bind (wpAny_holding (PyProof.Rows.wpAny_call_entry_kw slot_list_sort ⟨_, hat, rfl⟩ entry_list_sort ?body (args_list_sort _)))
  case body =>
    show wpAny (model prog w) A.in1.in1 (Builtin.«list.sort» ⟨[.ref h1.objs.size], []⟩) _ _ _
    refine wpAny_mono (list_sort_vals (s := { s with heap := h1.push (seqObj "list" vs.toArray 0) }) (P := fun f s' => f = .done (.ret .none) ∧ Q (.ref h1.objs.size) s') hat
      (SortsAt.data (s := { s with heap := sortingHeap (h1.push (seqObj "list" vs.toArray 0)) h1.objs.size vs }) (each_map (R := fun v d => ∃ as, Reads (sortingHeap (h1.push (seqObj "list" vs.toArray 0)) h1.objs.size vs) v d as) id er') hal hk (bound_map hu)) hl ⟨rfl, ?_⟩) (fun f s' hf => ?_) fun _ _ e => e
    · refine h _ h1 _ _ (by rw [sortVals_length false rfl]; exact e.length) (sortVals_data false e er' hal) k1 (Nat.le_refl _) (fun b u q => ?_) (sortedHeap_at hat)
      have q2 : (h1.push (seqObj "list" vs.toArray 0)).get? b = some u := Heap.get?_push_of_some _ q
      rw [sortedHeap_old (Nat.ne_of_lt (Heap.lt_size q)) (Heap.lt_size q2)]
      exact q2
    · obtain ⟨rfl, hq⟩ := hf
      exact ⟨_, rfl, wpAny_pure ⟨_, rfl, hq⟩⟩
end
section
variable {X : Cx} {F G H : Hp} {S σ : St} {e : Fm}
theorem each_dp {G : Hp} : ∀ {us : List V} {its : List Value} {ds : List D}, DpAll KZ G us ds → Vals us its → EachIs (fun v b => ∃ x : V, RelV x v ∧ Dp KZ G x b) its ds
  | _, _, _, .nil, r => by cases r; exact .nil
  | _, _, _, .cons h1 h2, r => by
    cases r with
    | cons r1 r2 => exact .cons ⟨_, r1, h1⟩ (each_dp h2 r2)
theorem dp_each {G : Hp} : ∀ {its : List Value} {ds : List D}, EachIs (fun v b => ∃ x : V, RelV x v ∧ Dp KZ G x b) its ds → ∃ us, Vals us its ∧ DpAll KZ G us ds
  | _, _, .nil => ⟨[], .nil, .nil⟩
  | _, _, .cons ⟨x, r, h⟩ t => by
    obtain ⟨us, r2, h2⟩ := dp_each t
    exact ⟨x :: us, .cons r r2, .cons h h2⟩
theorem each_reads {pins : List (Addr × Obj)} {s : Shared} (I : Inv X pins σ H s) (sm : Same G H) : ∀ {its : List Value} {ds : List D}, EachIs (fun v b => ∃ x : V, RelV x v ∧ Dp KZ G x b) its ds → EachIs (fun v b => ∃ as, Reads s.heap v (id b) as) its ds
  | _, _, .nil => .nil
  | _, _, .cons ⟨x, r, h⟩ t => .cons (Dp.reads I _ x _ (toK _ x (Dp.same sm _ _ h)) r) (each_reads I sm t)
theorem pr_sorted : PrimOk .sorted (.builtin "sorted") := by
  intro X k hc hr F G H S σ e vs ds r Q l dv hb q
  unfold primD at hb
  split at hb
  case h_18 =>
    obtain ⟨xs, h1, h2⟩ := Option.bind_eq_some_iff.mp hb
    split at h2
    case isFalse => cases h2
    rename_i hm
    cases h2
    simp only [Bool.and_eq_true, decide_eq_true_eq] at hm
    obtain ⟨⟨m1, m2⟩, m3⟩ := hm
    obtain ⟨v, rfl, h⟩ := dq1 dv
    have hal : AllAlike (xs.map id) := fun d hd d' hd' => by
      rw [List.map_id] at hd hd'
      have := List.all_eq_true.mp m1 d hd
      simp only [Bool.and_eq_true] at this
      exact List.all_eq_true.mp this.2 d' hd'
    have tup : ∀ d ∈ xs, (∃ x r, d = .tuple (x :: r)) ∧ d.depth ≤ 100 := fun d hd => by
      have := List.all_eq_true.mp m2 d hd
      split at this
      · exact ⟨⟨_, _, rfl⟩, of_decide_eq_true this⟩
      · cases this
    have hk : Sortable (xs.map id) := .inl fun d hd => by
      rw [List.map_id] at hd
      exact (tup d hd).1
    have hu : ∀ b, b ∈ xs → X.A.units + 2 + (id b).depth < cLine := fun b hb => by
      have h1 := (tup b hb).2
      have h2 := hr.un
      show X.A.units + 2 + b.depth < cLine
      omega
    have hL : xs.length ≤ sizeLine := by rw [← line_eq]; exact m3
    intro pins s σ' us' I rv
    have fin : ∀ (us : List V), DpAll KZ G us xs → ∀ (out : List Value) (h1 h' : Heap) (a : Addr), out.length = xs.length → EachIs (fun v b => ∃ x : V, RelV x v ∧ Dp KZ G x b) out (xs.mergeSort (dataLe false id)) → (∀ b u, s.heap.get? b = some u → h1.get? b = some u) → h1.objs.size ≤ a → (∀ b u, h1.get? b = some u → h'.get? b = some u) → (∃ m, h'.get? a = some (seqObj "list" out.toArray m)) → EP X pins σ' Q (.ref a) { s with heap := h' } := by
      intro us du out h1 h' a lo ec k1 ha k2 hm
      obtain ⟨m, hm⟩ := hm
      obtain ⟨ws, rw1, dw⟩ := dp_each ec
      have I1 : Inv X pins σ' H { s with heap := h1, toks := s.toks } := I.kept k1
      have hn : H a = none := I1.hok.fresh ha
      have hlen : ws.length ≤ sizeLine := by rw [rw1.length, lo]; exact hL
      exact ⟨.ref a, upd H a (.lst ws), I1.laid (t' := s.toks) k2 ha ⟨hlen, out, m, rw1, hm⟩, rfl, fin_l l hn dw q⟩
    rcases items_of h l.g h1 with ⟨p, us, rfl, rfl, h5, h6⟩ | ⟨p, us, rfl, rfl, h5, h6⟩
    · obtain rfl := Vals.ref1 rv
      obtain ⟨_, its, n, r1, e1⟩ := rd_lst h5 I.hok
      have ed := each_dp h6 r1
      exact sorted_two (T := "list") (.inl rfl) e1 rfl rfl ed (each_reads I l.g ed) hal hk hL hu (fin us h6)
    · obtain rfl := Vals.ref1 rv
      obtain ⟨its, r1, ⟨o, ho, hc', n, hd'⟩⟩ := rd_tup (P := X.prog) (w := X.w) (h := s.heap) I (Rd.same l.g h5)
      have ed := each_dp h6 r1
      exact sorted_two (T := "tuple") (.inr rfl) ho hc' hd' ed (each_reads I l.g ed) hal hk hL hu (fin us h6)
  all_goals first | (exfalso; contradiction) | cases hb
end
end L2.Mp
set_option Elab.async false
set_option linter.all false
set_option maxRecDepth 100000
set_option maxHeartbeats 4000000
namespace L2.Mp
open PySem PySem.Spec PyProof.Rows L2

/-! ### the checker -/
inductive Node where
  | e (x : Expr)
  | t (x : Expr)
  | w (x : Expr)
  | l (xs : List Expr)
  | i (tg x : Expr)
  | g (x : Expr)
  | gs (xs : List Expr)
  | s (st : Stmt)
  | b (sts : List Stmt)
  | cs (n : Str) (py : Pos) (x : Expr) (ln : Pos)
def Holds (c : Ct) (cf : CF) (k : Nat) (t : T) : Node → Prop
  | .e x => GoodE c cf k t x
  | .t x => GoodT c cf k t x
  | .w x => GoodW c cf k t x
  | .l xs => GoodL c cf k t xs
  | .i tg x => GoodI c cf k t tg x
  | .g x => GoodG c cf k t x
  | .gs xs => GoodGs c cf k t xs
  | .s st => GoodS c cf k t st
  | .b sts => GoodB c cf k t sts
  | .cs n py x ln => ∀ i, c.N[i]? = some n → locB c.sc n = true → GoodS c cf k (.asg (.tN i) t) (.Assign [.Name n py] x ln)
def plainB : Expr → Bool
  | .UnaryOp .Not _ _ => false
  | .BoolOp _ _ _ => false
  | .IfExp _ _ _ _ => false
  | .Compare _ _ _ _ => false
  | _ => true
theorem plain_by {x : Expr} (h : plainB x = true) : Plainly x := by
  intro env wh
  cases x with
  | UnaryOp op y p => cases op <;> first | rfl | exact Bool.noConfusion h
  | _ => first | rfl | exact Bool.noConfusion h
def onE (f : Expr → Bool) : Node → Bool
  | .e x => f x
  | .t x => plainB x && f x
  | _ => false
def onET (f g : Expr → Bool) : Node → Bool
  | .e x => f x
  | .t x => g x
  | _ => false
def onB (f g : Expr → Bool) : Node → Bool
  | .e x => f x
  | .t x => g x
  | .w x => g x
  | _ => false
def onC (f : Expr → Bool) : Node → Bool
  | .e x => f x
  | .t x => plainB x && f x
  | .cs _ _ x _ => f x
  | _ => false
def onI (f : Expr → Expr → Bool) : Node → Bool
  | .i tg x => f tg x
  | _ => false
def onG (f : Expr → Bool) : Node → Bool
  | .g x => f x
  | _ => false
def onS (f : Stmt → Bool) : Node → Bool
  | .s x => f x
  | _ => false
section
variable {c : Ct} {cf : CF} {k : Nat} {t : T} {f g : Expr → Bool} {n : Node}
theorem onE_ok (h : ∀ x, f x = true → GoodE c cf k t x) (hn : onE f n = true) : Holds c cf k t n := by
  cases n with
  | e x => exact h x hn
  | t x =>
    simp only [onE, Bool.and_eq_true] at hn
    exact goodT_of (h x hn.2) (plain_by hn.1)
  | _ => cases hn
theorem onET_ok (h : ∀ x, f x = true → GoodE c cf k t x) (h' : ∀ x, g x = true → GoodT c cf k t x) (hn : onET f g n = true) : Holds c cf k t n := by
  cases n with
  | e x => exact h x hn
  | t x => exact h' x hn
  | _ => cases hn
theorem onB_ok (h : ∀ x, f x = true → GoodE c cf k t x) (h' : ∀ x, g x = true → GoodW c cf k t x) (hn : onB f g n = true) : Holds c cf k t n := by
  cases n with
  | e x => exact h x hn
  | t x => exact goodT_of_W (h' x hn)
  | w x => exact h' x hn
  | _ => cases hn
theorem onC_ok (h : ∀ x, f x = true → GoodE c cf k t x) (h' : ∀ n py x ln, f x = true → Holds c cf k t (.cs n py x ln)) (hn : onC f n = true) : Holds c cf k t n := by
  cases n with
  | e x => exact h x hn
  | t x =>
    simp only [onC, Bool.and_eq_true] at hn
    exact goodT_of (h x hn.2) (plain_by hn.1)
  | cs m py x ln => exact h' m py x ln hn
  | _ => cases hn
theorem onI_ok {f : Expr → Expr → Bool} (h : ∀ tg x, f tg x = true → GoodI c cf k t tg x) (hn : onI f n = true) : Holds c cf k t n := by
  cases n with
  | i tg x => exact h tg x hn
  | _ => cases hn
theorem onG_ok (h : ∀ x, f x = true → GoodG c cf k t x) (hn : onG f n = true) : Holds c cf k t n := by
  cases n with
  | g x => exact h x hn
  | _ => cases hn
theorem onS_ok {f : Stmt → Bool} (h : ∀ x, f x = true → GoodS c cf k t x) (hn : onS f n = true) : Holds c cf k t n := by
  cases n with
  | s x => exact h x hn
  | _ => cases hn
end
def isAbs : T → Bool
  | .absent => true
  | _ => false
theorem abs_c {a : T} (h : isAbs a = false) (cf : CF) (e : Fm) : evC cf a e = testR (ev cf a e) := by cases a <;> first | rfl | cases h
theorem abs_o {a : T} (h : isAbs a = false) (cf : CF) (e : Fm) : evO cf a e = partR (ev cf a e) := by cases a <;> first | rfl | cases h
theorem abs_is {a : T} (h : isAbs a = true) : a = .absent := by cases a <;> first | rfl | cases h
mutual
def eqD : D → D → Bool
  | .none, .none => true
  | .bool a, .bool b => decide (a = b)
  | .int a, .int b => decide (a = b)
  | .str a, .str b => decide (a = b)
  | .tuple a, .tuple b => eqDs a b
  | .list a, .list b => eqDs a b
  | _, _ => false
def eqDs : List D → List D → Bool
  | [], [] => true
  | x :: r, y :: s => eqD x y && eqDs r s
  | _, _ => false
end
mutual
theorem eqD_ok : ∀ {a b : D}, eqD a b = true → a = b
  | .none, b, h => by cases b <;> first | rfl | exact Bool.noConfusion h
  | .bool x, b, h => by cases b <;> first | exact congrArg PyData.bool (of_decide_eq_true h) | exact Bool.noConfusion h
  | .int x, b, h => by cases b <;> first | exact congrArg PyData.int (of_decide_eq_true h) | exact Bool.noConfusion h
  | .str x, b, h => by cases b <;> first | exact congrArg PyData.str (of_decide_eq_true h) | exact Bool.noConfusion h
  | .tuple x, b, h => by cases b <;> first | exact congrArg PyData.tuple (eqDs_ok h) | exact Bool.noConfusion h
  | .list x, b, h => by cases b <;> first | exact congrArg PyData.list (eqDs_ok h) | exact Bool.noConfusion h
  | .dict x, b, h => by cases b <;> exact Bool.noConfusion h
theorem eqDs_ok : ∀ {a b : List D}, eqDs a b = true → a = b
  | [], [], _ => rfl
  | x :: r, y :: s, h => by
    simp only [eqDs, Bool.and_eq_true] at h
    rw [eqD_ok h.1, eqDs_ok h.2]
  | [], _ :: _, h => by cases h
  | _ :: _, [], h => by cases h
end
def constD : Const → D → Bool
  | .none, .none => true
  | .bool a, .bool b => decide (a = b)
  | .int a, .int b => decide (a = b)
  | .str a, .str b => decide (a = b)
  | _, _ => false
theorem const_ok {c : Ct} {cf : CF} {k : Nat} {q : Const} {d : D} {j : Nat} {pos : Pos} (h : constD q d = true) : GoodE c cf k (.const d) (.Constant q j pos) := by
  cases q <;> cases d <;> first | (exact Bool.noConfusion h) | skip
  · exact good_non
  · rw [of_decide_eq_true h]; exact good_bl
  · rw [of_decide_eq_true h]; exact good_int
  · rw [of_decide_eq_true h]; exact good_str
def dbg (n : Str) : Bool := n == ("__debug__" : Str)
def tlen : T → Nat
  | .cons _ r => tlen r + 1
  | _ => 0
theorem tlen_ok : ∀ {a : T} {ds : List D} {e e' : Fm}, bindTs a ds e = some e' → ds.length = tlen a := by
  intro a
  induction a with
  | nil =>
    intro ds e e' h
    cases ds with
    | nil => rfl
    | cons _ _ => cases h
  | cons a r _ ih =>
    intro ds e e' h
    cases ds with
    | nil => cases h
    | cons d ds =>
      have h : (match bindT a d e with
        | some e1 => bindTs r ds e1
        | none => none) = some e' := h
      cases q : bindT a d e with
      | none => rw [q] at h; cases h
      | some e1 =>
        rw [q] at h
        exact congrArg (· + 1) (ih h)
  | _ =>
    intro ds e e' h
    cases ds <;> cases h
def primT : Prim → Option (Str × Bool × String)
  | .len => some ("len", false, "len")
  | .abs => some ("abs", false, "abs")
  | .int => some ("int", true, "int")
  | .tuple => some ("tuple", true, "tuple")
  | .list => some ("list", true, "list")
  | .sum => some ("sum", false, "sum")
  | .all => some ("all", false, "all")
  | .any => some ("any", false, "any")
  | .max1 => some ("max", false, "max")
  | .min1 => some ("min", false, "min")
  | .max2 => some ("max", false, "max")
  | .min2 => some ("min", false, "min")
  | .sorted => some ("sorted", false, "sorted")
theorem boot_abs : bootBuiltins ("abs" : Str) = some (.builtin "abs") := by decide +kernel
theorem prim_ok {c : Ct} {cf : CF} {k : Nat} {p : Prim} {nm : Str} {ty : Bool} {id : String} {a : T} {y : Expr} {ys : List Expr} {pos pos' : Pos} (hp : primT p = some (nm, ty, id)) (ha : GoodL c cf k a (y :: ys)) (hf : nm ∈ c.fr) (hg : gloB c.sc nm = true) (hs : ∀ z ∈ y :: ys, isStar z = false) :
    GoodE c cf k (.prim p a) (.Call (.Name nm pos') (y :: ys) [] pos) := by
  cases p
  · cases hp; exact good_primB pr_len boot_len ha hf hg (by decide) (by decide) hs
  · cases hp; exact good_primB pr_abs boot_abs ha hf hg (by decide) (by decide) hs
  · cases hp; exact good_primT pr_int PyProof.Rows.boot_int ha hf hg (by decide) (by decide) hs
  · cases hp; exact good_primT pr_tuple PyProof.Rows.boot_tuple ha hf hg (by decide) (by decide) hs
  · cases hp; exact good_primT pr_list PyProof.Rows.boot_list ha hf hg (by decide) (by decide) hs
  · cases hp; exact good_primB pr_sum PyProof.Rows.boot_sum ha hf hg (by decide) (by decide) hs
  · cases hp; exact good_primB pr_all PyProof.Rows.boot_all ha hf hg (by decide) (by decide) hs
  · cases hp; exact good_primB pr_any PyProof.Rows.boot_any ha hf hg (by decide) (by decide) hs
  · cases hp; exact good_primB pr_max1 PyProof.Rows.boot_max ha hf hg (by decide) (by decide) hs
  · cases hp; exact good_primB pr_min1 PyProof.Rows.boot_min ha hf hg (by decide) (by decide) hs
  · cases hp; exact good_primB pr_max2 PyProof.Rows.boot_max ha hf hg (by decide) (by decide) hs
  · cases hp; exact good_primB pr_min2 PyProof.Rows.boot_min ha hf hg (by decide) (by decide) hs
  · cases hp; exact good_primB pr_sorted PyProof.Rows.boot_sorted ha hf hg (by decide) (by decide) hs
end L2.Mp
set_option Elab.async false
set_option linter.all false
set_option maxRecDepth 100000
set_option maxHeartbeats 4000000
namespace L2
open PySem PySem.Spec PyProof.Rows
/-! ### set(xs), xs a tuple of tuples of ints (the library has it of lists) -/
abbrev freshSet (w : World) : Obj := { cls := .type "set", dict := none, data := .set #[] 0 (.fresh 0 0 (!w.params.followText "set-order")) }
section
variable {P : Program} {w : World} {A : Around} {E : Value → Shared → Prop} {s : Shared}
theorem set_of_tup {l : Addr} {its : Array Value} (rows : List (Addr × List Int)) {Q : Value → Shared → Prop} (calm0 : A.handled = none) (isT0 : s.heap.IsTuple l its) (isR : its.toList = rows.map fun p => Value.ref p.1)
    (hk : ∀ p ∈ rows, IsT P w s.heap p.2 p.1) (few : rows.length < 64) (unitB : A.units + 3 < cLine)
    (h : ∀ (h' : Heap) (tk : Nat) L rs epz t, SetTR P w h' s.heap.objs.size L rs epz t → Got rows rows.length L → (∀ b o, s.heap.get? b = some o → h'.get? b = some o) → Q (.ref s.heap.objs.size) { s with heap := h', toks := tk }) :
    wpAny (model P w) A (call (.type "set") [.ref l]) Q E s := by
  have szK : its.size = rows.length := by
    have q := congrArg List.length isR
    rw [Array.length_toList, List.length_map] at q
    exact q
  obtain ⟨c, tl, mroS⟩ := F.called_set.mro
  have mk := F.called_set.made
  have subT := F.called_set.sub
  refine wpAny_call (codeAny_of_tree ?_)
  show wpAny _ _ (callAny (.type "set") _) _ _ _
  refine wpAny_pure ⟨Code.quiet_builtin _ (by decide +kernel), codeAny_builtin F.entry_type_call ?_⟩
  rw [Around.under_plain (weight_type_call_type "set" [.ref l] []) rfl]
  have c1 := F.called_set.notType
  have c2 := F.called_set.canCreate
  have chkT := F.typeCall_set_1 (.ref l)
  repeat (any_goals (first | assumption | wp_step))

  refine codeAny_mono (code_set_led1 (.ref l) (E := E) (Q₁ := fun made1 st1 => made1 = .ref s.heap.objs.size ∧ st1 = { s with heap := s.heap.push (freshSet w) }) ⟨rfl, rfl⟩) fun r st1 end1 => ?_
  cases r with
  | error e => exact end1
  | ok fl =>
    cases fl with
    | ret made1 =>
      obtain ⟨rfl, rfl⟩ := end1
      have atS : (s.heap.push (freshSet w)).get? s.heap.objs.size = some (freshSet w) := Heap.get?_push_size _ rfl
      have isSet : Shared.TypeIs { s with heap := s.heap.push (freshSet w) } (.ref s.heap.objs.size) "set" := ⟨_, atS, rfl⟩
      have look := F.called_set.init.lookup
      have bindS := F.called_set.init.bind (.ref s.heap.objs.size)
      repeat (any_goals (first | assumption | wp_step))

      refine codeAny_mono (codeAny_call_builtin (R := wants (fun r st2 => r = .none ∧ ∃ h' tk L rs epz t, st2 = { s with heap := h', toks := tk } ∧ SetTR P w h' s.heap.objs.size L rs epz t ∧ Got rows rows.length L ∧
          (∀ b o, s.heap.get? b = some o → h'.get? b = some o)) E) F.called_set.init.plain F.entry_set_init (check_set_init_1 isSet ?_)) fun res2 st2 end2 => ?_
      · obtain ⟨oL, atL, clsL, cap, datL⟩ := isT0
        obtain ⟨oc, od, ot, osl⟩ := oL
        simp only at clsL datL
        subst clsL; subst datL
        have atL' : (s.heap.push (freshSet w)).get? l = some { cls := .type "tuple", dict := od, data := .seq its cap, slots := osl } := Heap.get?_push_of_some _ atL
        have notSet1 := F.sub_tuple_set
        have notSet2 := F.sub_tuple_frozenset
        have notDict : (Value.type "tuple" == Value.type "dict") = false := by decide
        have tupL : (s.heap.push (freshSet w)).IsTuple l its := ⟨_, atL', rfl, cap, rfl⟩
        unfold Builtin.«set.__init__» noKeywords Builtin.Frozenset.updateFrom
        generalize hPI : pyIter = PI
        wp_walk
        subst hPI

        refine wpAny_pyIter_tuple tupL ?_
        refine wpAny_bind (wpAny_runValue ?_)
        have ltS : l < s.heap.objs.size := Heap.lt_size atL
        have calm3 : A.in1.in1.in1.handled = none := by simp [calm0]
        have szS : (s.heap.push (freshSet w)).objs.size = s.heap.objs.size + 1 := Heap.size_push ..
        have neI : l ≠ (s.heap.push (freshSet w)).objs.size := by
          rw [Heap.size_push]; exact Nat.ne_of_lt (Nat.lt_succ_of_lt ltS)
        have offF : s.heap.objs.size ∉ [(s.heap.push (freshSet w)).objs.size, l] := by
          rw [Heap.size_push]; simp only [List.mem_cons, List.mem_singleton, List.not_mem_nil, or_false, not_or]
          exact ⟨Nat.ne_of_lt (Nat.lt_succ_self _), Nat.ne_of_gt ltS⟩
        have refAt : ∀ (i : Nat) (v : Value), its[i]? = some v → ∃ p, rows[i]? = some p ∧ v = .ref p.1 := fun i v atI => by
          have q : its.toList[i]? = some v := by rw [Array.getElem?_toList]; exact atI
          rw [isR, List.getElem?_map] at q
          cases rowI : rows[i]? with
          | none => rw [rowI] at q; cases q
          | some p =>
            rw [rowI] at q
            exact ⟨p, rfl, (Option.some.inj q).symm⟩
        have fresh0 : ∀ b, s.heap.objs.size ≤ b → s.heap.get? b = none := fun b geB => by
          cases q : s.heap.get? b with
          | none => rfl
          | some o => exact absurd (Nat.lt_of_lt_of_le (Heap.lt_size q) geB) (Nat.lt_irrefl _)
        refine set_update_tups ((Walks.tuple calm3 _ l neI its).toS) s.heap.objs.size
          offF rows szK few refAt s.heap hk (fresh0 _ (Nat.le_refl _)) (fun b geB => fresh0 b (by
            rw [List.mem_singleton.mp geB, Heap.size_push]
            exact Nat.le_succ _)) unitB (its.size - 0) 0 _ (by omega) (Nat.zero_le _)
          ⟨⟨_, Heap.get?_push_size _ rfl, rfl, rfl⟩, (tupL.push _)⟩ (fun b o e => Heap.get?_push_of_some _ (Heap.get?_push_of_some _ e)) ?base0 ?fin
        case base0 =>
          have atS2 : ((s.heap.push (freshSet w)).push { cls := .type "tuple_iterator", data := .fields #[.ref l, .int 0 0] }).get? s.heap.objs.size
              = some (freshSet w) := Heap.get?_push_of_some _ atS
          exact ⟨[], #[], 0, _, setTR_fresh atS2, Got.zero rows⟩
        case fin =>
          intro s' L rs epz t hm setZ gotZ hkp
          obtain ⟨h', gZ, dZ, tkZ, osZ⟩ := s'
          have eqG : gZ = s.gens := hm.gens
          have eqD : dZ = s.drawn := hm.drawn
          have eqO : osZ = s.os := hm.os
          subst eqG; subst eqD; subst eqO
          show wpAny _ _ _ _ _ _
          refine wpAny_pure ?_
          show wpAny _ _ (ret Value.none) _ _ _
          rw [szK] at gotZ
          exact wpAny_pure ⟨rfl, h', tkZ, L, rs, epz, t, rfl, setZ, gotZ, hkp⟩

      · cases res2 with
        | error e => exact end2
        | ok fl₂ =>
          cases fl₂ with
          | ret r =>
            obtain ⟨rfl, h', tk, L, rs, epz, t, rfl, setZ, gotZ, keepZ⟩ := end2
            repeat (any_goals (first | assumption | wp_step))
            exact h _ _ _ _ _ _ setZ gotZ keepZ
          | _ => exact end2.elim
    | _ => exact end1.elim
end
end L2
set_option Elab.async false
set_option linter.all false
set_option maxRecDepth 100000
set_option maxHeartbeats 4000000
namespace L2.Mp
open PySem PySem.Spec PyProof.Rows L2
/-! ### rows of ints in their order -/
theorem ltL_irr : ∀ x : List Int, ltL x x = false
  | [] => rfl
  | a :: r => by simp [ltL, ltL_irr r]
theorem ltL_cons {a b : Int} {r s : List Int} : ltL (a :: r) (b :: s) = true ↔ a < b ∨ (a = b ∧ ltL r s = true) := by simp [ltL]
theorem ltL_asy : ∀ {x y : List Int}, ltL x y = true → ltL y x = true → False
  | [], _, h, _ => by cases h
  | _ :: _, [], h, _ => by cases h
  | a :: r, b :: s, h, h' => by
    rcases ltL_cons.mp h with q | ⟨e, q⟩
    · rcases ltL_cons.mp h' with q' | ⟨e', q'⟩ <;> omega
    · rcases ltL_cons.mp h' with q' | ⟨e', q'⟩
      · omega
      · exact ltL_asy q q'
theorem ltL_tr : ∀ {x y z : List Int}, ltL x y = true → ltL y z = true → ltL x z = true
  | [], _, _, h, _ => by cases h
  | _ :: _, [], _, h, _ => by cases h
  | _ :: _, _ :: _, [], _, h => by cases h
  | a :: r, b :: s, c :: t, h, h' => by
    refine ltL_cons.mpr ?_
    rcases ltL_cons.mp h with q | ⟨e, q⟩
    · rcases ltL_cons.mp h' with q' | ⟨e', q'⟩
      · exact .inl (by omega)
      · exact .inl (by omega)
    · rcases ltL_cons.mp h' with q' | ⟨e', q'⟩
      · exact .inl (by omega)
      · exact .inr ⟨e.trans e', ltL_tr q q'⟩
theorem ltL_tri : ∀ {x y : List Int}, x.length = y.length → x = y ∨ ltL x y = true ∨ ltL y x = true
  | [], [], _ => .inl rfl
  | a :: r, b :: s, h => by
    by_cases h1 : a < b
    · exact .inr (.inl (ltL_cons.mpr (.inl h1)))
    · by_cases h2 : b < a
      · exact .inr (.inr (ltL_cons.mpr (.inl h2)))
      · have e : a = b := by omega
        subst e
        rcases ltL_tri (x := r) (y := s) (by simpa using h) with h3 | h3 | h3
        · exact .inl (by rw [h3])
        · exact .inr (.inl (ltL_cons.mpr (.inr ⟨rfl, h3⟩)))
        · exact .inr (.inr (ltL_cons.mpr (.inr ⟨rfl, h3⟩)))
  | [], _ :: _, h => by cases h
  | _ :: _, [], h => by cases h
abbrev SortedU (l : List (List Int)) : Prop := l.Pairwise fun x y => ltL x y = true
theorem insU_mem {x z : List Int} : ∀ {l : List (List Int)}, z ∈ insU x l ↔ z = x ∨ z ∈ l
  | [] => by simp [insU]
  | y :: r => by
    unfold insU
    split
    · rename_i h
      subst h
      simp
    · split
      · simp
      · rw [List.mem_cons, insU_mem, List.mem_cons]
        constructor
        · rintro (h | h | h)
          · exact .inr (.inl h)
          · exact .inl h
          · exact .inr (.inr h)
        · rintro (h | h | h)
          · exact .inr (.inl h)
          · exact .inl h
          · exact .inr (.inr h)
theorem insU_sorted {d : Nat} {x : List Int} (hx : x.length = d) : ∀ {l : List (List Int)}, (∀ y ∈ l, y.length = d) → SortedU l → SortedU (insU x l)
  | [], _, _ => List.pairwise_singleton _ _
  | y :: r, hl, h => by
    unfold insU
    split
    · exact h
    · rename_i ne
      split
      · rename_i lt
        refine List.pairwise_cons.mpr ⟨fun z hz => ?_, h⟩
        rcases List.mem_cons.mp hz with rfl | hz
        · exact lt
        · exact ltL_tr lt ((List.pairwise_cons.mp h).1 z hz)
      · rename_i nlt
        refine List.pairwise_cons.mpr ⟨fun z hz => ?_, insU_sorted hx (fun z hz => hl z (List.mem_cons_of_mem _ hz)) (List.pairwise_cons.mp h).2⟩
        rcases insU_mem.mp hz with rfl | hz
        · rcases ltL_tri (x := z) (y := y) (hx.trans (hl y List.mem_cons_self).symm) with e | e | e
          · exact absurd e ne
          · exact absurd e nlt
          · exact e
        · exact (List.pairwise_cons.mp h).1 z hz
theorem sortU_go {d : Nat} : ∀ (rs acc : List (List Int)), (∀ y ∈ rs, y.length = d) → (∀ y ∈ acc, y.length = d) → SortedU acc → SortedU (rs.foldl (fun acc x => insU x acc) acc) ∧ ∀ z, z ∈ rs.foldl (fun acc x => insU x acc) acc ↔ z ∈ rs ∨ z ∈ acc
  | [], acc, _, _, h => ⟨h, fun z => by simp⟩
  | x :: rs, acc, hr, ha, h => by
    have hx := hr x List.mem_cons_self
    obtain ⟨h1, h2⟩ := sortU_go rs (insU x acc) (fun y hy => hr y (List.mem_cons_of_mem _ hy)) (fun y hy => by
      rcases insU_mem.mp hy with rfl | hy
      · exact hx
      · exact ha y hy) (insU_sorted hx ha h)
    refine ⟨h1, fun z => ?_⟩
    rw [List.foldl_cons, h2, insU_mem, List.mem_cons]
    constructor
    · rintro (h | h | h)
      · exact .inl (.inr h)
      · exact .inl (.inl h)
      · exact .inr h
    · rintro ((h | h) | h)
      · exact .inr (.inl h)
      · exact .inl h
      · exact .inr (.inr h)
theorem sortU_ok {d : Nat} {rs : List (List Int)} (h : ∀ y ∈ rs, y.length = d) : SortedU (sortU rs) ∧ ∀ z, z ∈ sortU rs ↔ z ∈ rs := by
  obtain ⟨h1, h2⟩ := sortU_go rs [] h (fun _ z => nomatch z) List.Pairwise.nil
  exact ⟨h1, fun z => by rw [sortU, h2]; simp⟩
theorem sorted_uniq : ∀ {l m : List (List Int)}, SortedU l → SortedU m → (∀ z, z ∈ l ↔ z ∈ m) → l = m
  | [], [], _, _, _ => rfl
  | [], b :: _, _, _, h => by simpa using (h b).mpr List.mem_cons_self
  | a :: _, [], _, _, h => by simpa using (h a).mp List.mem_cons_self
  | a :: r, b :: s, hl, hm, h => by
    obtain ⟨h1, h2⟩ := List.pairwise_cons.mp hl
    obtain ⟨h3, h4⟩ := List.pairwise_cons.mp hm
    have e : a = b := by
      rcases List.mem_cons.mp ((h a).mp List.mem_cons_self) with e | e
      · exact e
      · rcases List.mem_cons.mp ((h b).mpr List.mem_cons_self) with e2 | e2
        · exact e2.symm
        · exact (ltL_asy (h1 b e2) (h3 a e)).elim
    subst e
    rw [sorted_uniq h2 h4 fun z => ?_]
    constructor
    · intro hz
      rcases List.mem_cons.mp ((h z).mp (List.mem_cons_of_mem _ hz)) with e | e
      · subst e
        have := h1 z hz
        rw [ltL_irr] at this
        cases this
      · exact e
    · intro hz
      rcases List.mem_cons.mp ((h z).mpr (List.mem_cons_of_mem _ hz)) with e | e
      · subst e
        have := h3 z hz
        rw [ltL_irr] at this
        cases this
      · exact e
end L2.Mp
set_option Elab.async false
set_option linter.all false
set_option maxRecDepth 100000
set_option maxHeartbeats 4000000
namespace L2.Mp
open PySem PySem.Spec PyProof.Rows L2
section
variable {c : Ct} {cf : CF} {k : Nat} {a : T} {x : Expr} {pos pos1 pos2 pos3 : Pos}

/-! ### len(set(xs)), xs a list of ints -/
theorem dedI_first (ns : List Int) : ∀ i, i ≤ ns.length → PyProof.Rows.firstMet (fun i => ns.getD i 0) i = dedI (ns.take i)
  | 0, _ => rfl
  | i + 1, h => by
    have hi : i < ns.length := h
    rw [PyProof.Rows.firstMet_succ, dedI_first ns i (Nat.le_of_lt hi)]
    have e : ns.take (i + 1) = ns.take i ++ [ns.getD i 0] := by
      rw [List.take_succ, List.getD_eq_getElem?_getD, List.getElem?_eq_getElem hi]
      rfl
    rw [e]
    unfold dedI
    rw [List.foldl_append]
    rfl
theorem pe_lenSetD {X : Cx} {t : TE} (gl : Gl X "len") (fl : X.mg "len" = none) (gs : Gl X "set") (fs : X.mg "set" = none) (ha : PE X x t) (hc : X.calm = true) (na : isStar x = false) :
    PE X (.Call (.Name "len" pos) [.Call (.Name "set" pos1) [x] [] pos2] [] pos3) (fun σ H Q => t σ H fun v H1 => ∃ (l : Addr) (ns : List Int), v = .ref l ∧ Rd H1 l (.lst (ns.map V.int)) ∧ ns.length ≤ 4000 ∧ Q (.int (dedI ns).length) H1) := by
  refine ⟨fun pins s σ H Q I h => ?_⟩
  have one : starEach [x] X.env = (false, eval x X.env) :: starEach [] X.env := star_cons na
  refine Call_ (ld_blt I gl fl boot_len (PyProof.Rows.callWith_builtin1 (PyProof.Rows.args_cons ?_ rfl) rfl rfl))
  refine Call_ (ld_blt I gs fs boot_set (PyProof.Rows.callWith_type1 (PyProof.Rows.args_cons (thn (ha.run pins s σ H _ I h) fun v s1 ⟨w, H1, J1, r1, q1⟩ => PyProof.Rows.args_nil ?_) one) one rfl))
  obtain ⟨l, ns, rfl, hq, few, q1⟩ := q1
  cases r1
  obtain ⟨its, r, pl, _⟩ := J1.list (.inl hq)
  have szI : its.toArray.size = ns.length := by rw [List.size_toArray, ← r.length, List.length_map]
  refine call_set_list (J1.ok.hd hc) pl.isList (by simpa using RZ.intsAre_vals r) (by rw [szI]; unfold scanBound; omega) fun h' tk isS old => PyProof.Rows.args_nil ?_
  rw [szI, dedI_first ns ns.length (Nat.le_refl _), List.take_length] at isS
  obtain ⟨o, es, ep, t, ho, hex, hd, _, _, _, hf, hn⟩ := isS
  have J2 : Inv X pins σ H1 { s1 with heap := h', toks := tk } := J1.kept fun b o e => old b o (Heap.lt_size e) e
  have small : (dedI ns).length ≤ 4000 := by
    have h1 := PyProof.Rows.firstMet_length_le (fun i => ns.getD i 0) ns.length
    rw [dedI_first ns ns.length (Nat.le_refl _), List.take_length] at h1
    omega
  exact call_len_set ho hex hd hf (by rw [hn]; omega) ⟨.int (dedI ns).length, H1, J2.tok _, ⟨_, by rw [hn]⟩, q1⟩
theorem good_lenSet (ha : GoodE c cf k a x) (na : isStar x = false) (hl : ("len" : Str) ∈ c.fr) (gl : gloB c.sc "len" = true) (hs : ("set" : Str) ∈ c.fr) (gs : gloB c.sc "set" = true) :
    GoodE c cf k (.lenSet a) (.Call (.Name "len" pos) [.Call (.Name "set" pos1) [x] [] pos2] [] pos3) := by
  intro X ok F G H S σ e Q W tk l hq
  refine ofE (pe_lenSetD (ok.glo gl) (ok.gb.fr _ hl) (ok.glo gs) (ok.gb.fr _ hs) pe_w ok.calm na) ?_
  refine rvE ha ok tk l hq fun ra e1 v H1 G1 s1 l1 r1 hp => ?_
  obtain ⟨G2, s2, l2, r2⟩ := r1.nrm l1
  cases q1 : rd ra e1 with
  | none => rw [q1] at hp; exact hp.elim
  | some w =>
    rw [q1] at hp
    dsimp only [Option.bind] at hp
    cases q2 : lenSetD w with
    | none => rw [q2] at hp; exact hp.elim
    | some n =>
      rw [q2] at hp
      cases w with
      | list xs =>
        obtain ⟨ns, h1, h2⟩ := Option.bind_eq_some_iff.mp (show (intsOf xs).bind (fun is => if is.length ≤ 4000 then some ((dedI is).length : Int) else none) = some n from q2)
        split at h2
        · rename_i few
          cases h2
          obtain ⟨p, us, rfl, h3, h4⟩ := (r2.rd l2 q1).lst l2.g
          obtain ⟨rfl, rfl⟩ := ints_of h4 h1
          exact ⟨p, ns, rfl, h3, few, (Po.mono s2 hp) _ H1 G2 (Same.refl G2) l2 (.int _)⟩
        · cases h2
      | _ => cases q2

/-! ### sorted(set(xs)) of tuples of ints -/
theorem cr_setOfTup {X : Cx} (hc : X.calm = true) (room : X.A.units + 64 < cLine) : CallR X (.type "set") (fun xs H Q => ∃ (l : Addr) (rows : List (Addr × List Int)), xs = [V.ref l] ∧ Rd H l (.tup (rows.map fun p => V.ref p.1)) ∧ (∀ p ∈ rows, SqT X.K H p.1 (p.2.map V.int)) ∧ rows.length < 64 ∧
    ∀ a L, H a = none → (∀ p ∈ L, p ∈ rows) → (∀ p ∈ rows, p.2 ∈ L.map (·.2)) → Q (.ref a) (upd H a (SetTO X.prog X.w a L))) := by
  intro pins s σ H xs us Q I r h
  obtain ⟨l, rows, rfl, isT, each, few, q⟩ := h
  rw [Vals.ref1 r]
  obtain ⟨its, rv, pl, _⟩ := I.tuple (.inl isT)
  have new : H s.heap.objs.size = none := I.hok.fresh (Nat.le_refl _)
  refine set_of_tup (P := X.prog) (w := X.w) rows (I.ok.hd hc) (show s.heap.IsTuple l its.toArray from pl) (by simpa using refs_of_vals rv) (fun p hp => I.isT (each p hp)) few (by omega) fun h' tk L es ep t R got old => ?_
  exact ⟨.ref s.heap.objs.size, upd H s.heap.objs.size (SetTO X.prog X.w s.heap.objs.size L), I.laid (t' := tk) old (Nat.le_refl _) (setTO_new R.t0), rfl, q _ L new (fun p hp => List.mem_of_mem_take (got.sub p hp)) fun p hp => got.all p (by rw [List.take_length]; exact hp)⟩
theorem rows_of {G : Hp} : ∀ {us : List V} {xs : List D} {rs : List (List Int)}, DpAll KZ G us xs → rowsI xs = some rs → ∃ rows : List (Addr × List Int), us = rows.map (fun p => V.ref p.1) ∧ rs = rows.map (·.2) ∧ ∀ p ∈ rows, Rd G p.1 (.tup (p.2.map V.int))
  | [], [], rs, _, h => by
    cases h
    exact ⟨[], rfl, rfl, fun _ z => nomatch z⟩
  | u :: us, d :: xs, rs, .cons h1 h2, h => by
    cases d with
    | tuple ds =>
      have h : (match intsOf ds, rowsI xs with
        | some is, some rs => some (is :: rs)
        | _, _ => none) = some rs := h
      cases q1 : intsOf ds with
      | none => rw [q1] at h; cases h
      | some is =>
        cases q2 : rowsI xs with
        | none => rw [q1, q2] at h; cases h
        | some rs' =>
          rw [q1, q2] at h
          cases h
          obtain ⟨rows, e1, e2, e3⟩ := rows_of h2 q2
          cases h1 with
          | @tup b vs _ hs ha =>
            obtain ⟨e4, _⟩ := ints_of ha q1
            subst e4
            refine ⟨(b, is) :: rows, by rw [e1]; rfl, by rw [e2]; rfl, fun p hp => ?_⟩
            rcases List.mem_cons.mp hp with rfl | hp
            · exact rt_of hs
            · exact e3 p hp
    | _ => cases h
theorem code_nn {B : Int} (hB : 0 < B) : ∀ {r : List Int}, TS.Bd B r → 0 ≤ TS.code B r ∧ TS.code B r < B ^ r.length
  | [], _ => by
    show (0 : Int) ≤ 0 ∧ (0 : Int) < B ^ 0
    simp
  | m :: r, h => by
    obtain ⟨h1, h2⟩ := code_nn hB h.tail
    obtain ⟨h3, h4⟩ := h.head
    have hp : (0 : Int) < B ^ r.length := Int.pow_pos hB
    show 0 ≤ m * B ^ r.length + TS.code B r ∧ m * B ^ r.length + TS.code B r < B ^ (r.length + 1)
    have h5 : 0 ≤ m * B ^ r.length := Int.mul_nonneg h3 (Int.le_of_lt hp)
    have h6 : (m + 1) * B ^ r.length ≤ B * B ^ r.length := Int.mul_le_mul_of_nonneg_right (by omega) (Int.le_of_lt hp)
    rw [Int.add_mul, Int.one_mul] at h6
    have h7 : B ^ (r.length + 1) = B * B ^ r.length := by rw [Int.pow_succ, Int.mul_comm]
    rw [h7]
    exact ⟨by omega, by omega⟩
theorem code_lt {B : Int} (hB : 0 < B) : ∀ {r s : List Int}, r.length = s.length → TS.Bd B r → TS.Bd B s → ltL r s = true → TS.code B r < TS.code B s
  | [], _, _, _, _, h => by cases h
  | _ :: _, [], h, _, _, _ => by cases h
  | m :: r, n :: s, hl, h1, h2, h => by
    have hl : r.length = s.length := by simpa using hl
    show m * B ^ r.length + TS.code B r < n * B ^ s.length + TS.code B s
    rcases ltL_cons.mp h with q | ⟨e, q⟩
    · obtain ⟨_, c1⟩ := code_nn hB h1.tail
      obtain ⟨c2, _⟩ := code_nn hB h2.tail
      have hp : (0 : Int) < B ^ r.length := Int.pow_pos hB
      have h6 : (m + 1) * B ^ r.length ≤ n * B ^ r.length := Int.mul_le_mul_of_nonneg_right (by omega) (Int.le_of_lt hp)
      rw [Int.add_mul, Int.one_mul] at h6
      rw [← hl]
      omega
    · have := code_lt hB hl h1.tail h2.tail q
      rw [e, hl]
      omega
theorem le_sum : ∀ {l : List Int} {n : Int}, (∀ m ∈ l, 0 ≤ m) → n ∈ l → n ≤ l.sum
  | m :: l, n, h, hn => by
    have s0 : 0 ≤ l.sum := by
      have h' : ∀ m ∈ l, 0 ≤ m := fun m hm => h m (List.mem_cons_of_mem _ hm)
      clear h hn
      induction l with
      | nil => exact Int.le_refl 0
      | cons a r ih =>
        rw [List.sum_cons]
        have := h' a List.mem_cons_self
        have := ih fun m hm => h' m (List.mem_cons_of_mem _ hm)
        omega
    rw [List.sum_cons]
    rcases List.mem_cons.mp hn with rfl | hn
    · omega
    · have := le_sum (fun m hm => h m (List.mem_cons_of_mem _ hm)) hn
      have := h m List.mem_cons_self
      omega
theorem even_ok {rs : List (List Int)} (h : evenRows rs = true) : ∃ (d : Nat) (B : Int), 1 ≤ d ∧ 0 < B ∧ ∀ r ∈ rs, r.length = d ∧ TS.Bd B r := by
  cases rs with
  | nil => exact ⟨1, 1, Nat.le_refl _, by omega, fun _ z => nomatch z⟩
  | cons r0 t =>
    simp only [evenRows, Bool.and_eq_true, decide_eq_true_eq, List.all_eq_true] at h
    obtain ⟨h1, h2⟩ := h
    have nn : ∀ m ∈ (r0 :: t).flatten, 0 ≤ m := fun m hm => by
      obtain ⟨r, hr, hm⟩ := List.mem_flatten.mp hm
      exact (h2 r hr).2 m hm
    have s0 : 0 ≤ (r0 :: t).flatten.sum := by
      cases q : (r0 :: t).flatten with
      | nil => exact Int.le_refl 0
      | cons a l =>
        have h3 := nn a (by rw [q]; exact List.mem_cons_self)
        have h4 := le_sum (l := a :: l) (n := a) (by rw [← q]; exact nn) List.mem_cons_self
        omega
    refine ⟨r0.length, (r0 :: t).flatten.sum + 1, h1, by omega, fun r hr => ⟨(h2 r hr).1, fun m hm => ⟨(h2 r hr).2 m hm, ?_⟩⟩⟩
    have := le_sum nn (List.mem_flatten.mpr ⟨r, hr, hm⟩)
    omega
theorem boot_sorted' : bootBuiltins ("sorted" : Str) = some (.builtin "sorted") := PyProof.Rows.boot_sorted
theorem dps_rows {G : Hp} : ∀ L : List (Addr × List Int), (∀ p ∈ L, Rd G p.1 (.tup (p.2.map V.int))) → DpAll KZ G (L.map fun q => V.ref q.1) ((L.map (·.2)).map rowD)
  | [], _ => .nil
  | p :: L, h => .cons (.tup (.inl (h p List.mem_cons_self)) (dpInts p.2)) (dps_rows L fun q hq => h q (List.mem_cons_of_mem _ hq))
where dpInts {G : Hp} : ∀ ns : List Int, DpAll KZ G (ns.map V.int) (ns.map .int)
  | [] => .nil
  | n :: ns => .cons (.int n) (dpInts ns)
theorem good_sortSet (ha : GoodE c cf k a x) (na : isStar x = false) (hl : ("sorted" : Str) ∈ c.fr) (gl : gloB c.sc "sorted" = true) (hs : ("set" : Str) ∈ c.fr) (gs : gloB c.sc "set" = true) :
    GoodE c cf k (.sortSet a) (.Call (.Name "sorted" pos) [.Call (.Name "set" pos1) [x] [] pos2] [] pos3) := by
  intro X ok F G H S σ e Q W tk l hq
  refine ofE (pe_callB (id := "sorted") oC_ok (ok.glo gl) (ok.gb.fr _ hl) boot_sorted' (pa_cons (pe_callTy (T := "set") oC_ok (ok.glo gs) (ok.gb.fr _ hs) boot_set (pa_cons pe_w pa_nil (star_cons na)) (by decide) (by decide) (star_cons na) rfl) pa_nil rfl)) ?_
  refine rvE ha ok tk l hq fun ra e1 v H1 G1 s1 l1 r1 hp => ?_
  obtain ⟨G2, s2, l2, r2⟩ := r1.nrm l1
  cases q1 : rd ra e1 with
  | none => rw [q1] at hp; exact hp.elim
  | some w =>
    rw [q1] at hp
    dsimp only [Option.bind] at hp
    cases q2 : sortSetD w with
    | none => rw [q2] at hp; exact hp.elim
    | some out =>
      rw [q2] at hp
      have hp := Po.mono s2 hp
      obtain ⟨xs, h1, h2⟩ := Option.bind_eq_some_iff.mp q2
      obtain ⟨rs, h3, h4⟩ := Option.bind_eq_some_iff.mp h2
      split at h4
      case isFalse => cases h4
      rename_i hc
      obtain ⟨few, ev⟩ := hc
      cases h4
      obtain ⟨d, B, hd, hB, each⟩ := even_ok ev
      have room : X.A.units + 64 < cLine := by
        have := ok.room.un
        omega
      -- behind set(..), whatever it was made of
      have last : ∀ (rows : List (Addr × List Int)) (b : Addr) (L : List (Addr × List Int)), rs = rows.map (·.2) → (∀ p ∈ rows, Rd G2 p.1 (.tup (p.2.map V.int))) → H1 b = none → (∀ p ∈ L, p ∈ rows) → (∀ p ∈ rows, p.2 ∈ L.map (·.2)) → oC X (.builtin "sorted") [.ref b] (upd H1 b (SetTO X.prog X.w b L)) Q := by
        intro rows b L er rdr hb sub all
        have inR : ∀ p ∈ L, p.2.length = d ∧ TS.Bd B p.2 := fun p hp => each p.2 (by rw [er]; exact List.mem_map.mpr ⟨p, sub p hp, rfl⟩)
        have l3 := l2.newH (o := SetTO X.prog X.w b L) hb
        refine oC_of (cr_sortedT ok.calm) ⟨b, L, d, B, rfl, upd_same, fun p hp => .inl (Rd.same l3.g (rdr p (sub p hp))), hd, inR, fun L' p pm nd lt pw hp' => ?_⟩
        have mem : ∀ q, q ∈ L' ↔ q ∈ L := fun q => pm.mem_iff
        have srt : SortedU (L'.map (·.2)) := by
          rw [SortedU, List.pairwise_map]
          have nd' := List.pairwise_map.mp nd
          refine List.Pairwise.imp_of_mem (fun {u v} hu hv h => ?_) (List.Pairwise.and nd' pw)
          obtain ⟨ne, le⟩ := h
          obtain ⟨a1, a2⟩ := inR u ((mem u).mp hu)
          obtain ⟨b1, b2⟩ := inR v ((mem v).mp hv)
          rcases ltL_tri (x := u.2) (y := v.2) (a1.trans b1.symm) with e | e | e
          · exact absurd e ne
          · exact e
          · have := code_lt hB (b1.trans a1.symm) b2 a2 e
            omega
        obtain ⟨su1, su2⟩ := sortU_ok (rs := rs) (d := d) fun r hr => (each r hr).1
        have eq : L'.map (·.2) = sortU rs := sorted_uniq srt su1 fun z => by
          rw [su2, er, List.mem_map, List.mem_map]
          constructor
          · rintro ⟨q, hq, rfl⟩
            exact ⟨q, sub q ((mem q).mp hq), rfl⟩
          · rintro ⟨q, hq, rfl⟩
            obtain ⟨q', hq', e⟩ := List.mem_map.mp (all q hq)
            exact ⟨q', (mem q').mpr hq', e⟩
        have dps := dps_rows (G := G2) L' fun q hq => rdr q (sub q ((mem q).mp hq))
        rw [eq] at dps
        exact fin_l l3 hp' dps fun z H' G' s' l' r' => hp z H' G' s' l' r'
      rcases items_of (r2.rd l2 q1) l2.g h1 with ⟨p, us, rfl, rfl, h5, h6⟩ | ⟨p, us, rfl, rfl, h5, h6⟩
      · obtain ⟨rows, rfl, er, rdr⟩ := rows_of h6 h3
        exact oC_of (cr_setOfT ok.calm room) ⟨p, rows, rfl, .inl h5, fun q hq => .inl (Rd.same l2.g (rdr q hq)), by rw [er, List.length_map] at few; exact few, fun b L hb sub all => last rows b L er rdr hb sub all⟩
      · obtain ⟨rows, rfl, er, rdr⟩ := rows_of h6 h3
        exact oC_of (cr_setOfTup ok.calm room) ⟨p, rows, rfl, Rd.same l2.g h5, fun q hq => .inl (Rd.same l2.g (rdr q hq)), by rw [er, List.length_map] at few; exact few, fun b L hb sub all => last rows b L er rdr hb sub all⟩
end
end L2.Mp
set_option Elab.async false
set_option linter.all false
set_option maxRecDepth 100000
set_option maxHeartbeats 4000000
namespace L2.Mp
open PySem PySem.Spec PyProof.Rows L2
def free (c : Ct) (n : Str) : Bool := c.fr.contains n && gloB c.sc n
def isTT : T → Bool
  | .tT _ => true
  | _ => false
def chk : T → Ct → Node → Bool
  | .var i, c => onE fun x => match x with
    | .Name n _ => decide (c.N[i]? = some n) && visB c.sc n && !dbg n && !(n == ("__classdict__" : Str))
    | _ => false
  | .glo _ d, c => onE fun x => match x with
    | .Name n _ => gloB c.sc n && !dbg n && (match c.gl.lookup n with
      | some d' => eqD d' d
      | none => false)
    | _ => false
  | .const d, _ => onE fun x => match x with
    | .Constant q _ _ => constD q d
    | _ => false
  | .bin op a b, c => onE fun x => match x with
    | .BinOp y o z _ => decide (o = op) && chk a c (.e y) && chk b c (.e z)
    | _ => false
  | .neg a, c => onE fun x => match x with
    | .UnaryOp .USub y _ => chk a c (.e y)
    | _ => false
  | .notT a, c => onET (fun x => match x with
    | .UnaryOp .Not y _ => chk a c (.e y)
    | _ => false) (fun x => match x with
    | .UnaryOp .Not y _ => chk a c (.t y)
    | _ => false)
  | .cmp op a b, c => onET (fun x => match x with
    | .Compare y [o] [z] _ => decide (o = op) && chk a c (.e y) && chk b c (.e z) && !behindInMarks op z
    | _ => false) (fun x => match x with
    | .Compare y [o] [z] _ => decide (o = op) && chk a c (.e y) && chk b c (.e z) && !behindInMarks op z
    | _ => false)
  | .chain op op' a b d, c => onET (fun x => match x with
    | .Compare y [o, o'] [z, u] _ => decide (o = op) && decide (o' = op') && chk a c (.e y) && chk b c (.e z) && chk d c (.e u) && !lastMarks [op, op'] [z, u]
    | _ => false) (fun x => match x with
    | .Compare y [o, o'] [z, u] _ => decide (o = op) && decide (o' = op') && chk a c (.e y) && chk b c (.e z) && chk d c (.e u) && !lastMarks [op, op'] [z, u]
    | _ => false)
  | .one a, c => onB (fun x => match x with
    | .BoolOp _ [y] _ => chk a c (.e y)
    | _ => false) (fun x => match x with
    | .BoolOp _ [y] _ => chk a c (.t y)
    | _ => false)
  | .and a b, c => onB (fun x => match x with
    | .BoolOp .And (y :: z :: r) p => chk a c (.e y) && chk b c (.e (.BoolOp .And (z :: r) p))
    | _ => false) (fun x => match x with
    | .BoolOp .And (y :: z :: r) p => chk a c (.t y) && chk b c (.w (.BoolOp .And (z :: r) p))
    | _ => false)
  | .or a b, c => onB (fun x => match x with
    | .BoolOp .Or (y :: z :: r) p => chk a c (.e y) && chk b c (.e (.BoolOp .Or (z :: r) p))
    | _ => false) (fun x => match x with
    | .BoolOp .Or (y :: z :: r) p => chk a c (.t y) && chk b c (.w (.BoolOp .Or (z :: r) p))
    | _ => false)
  | .ite d a b, c => onET (fun x => match x with
    | .IfExp z x y _ => chk d c (.t z) && chk a c (.e x) && chk b c (.e y)
    | _ => false) (fun x => match x with
    | .IfExp z x y _ => chk d c (.t z) && chk a c (.t x) && chk b c (.t y)
    | _ => false)
  | .call f fl as, c => onE fun x => match x with
    | .Call (.Name n _) (y :: ys) [] _ => decide (n = f) && chk as c (.l (y :: ys)) && decide (c.fns.lookup f = some fl.length) && gloB c.sc f && !dbg f && (y :: ys).all fun z => !isStar z
    | _ => false
  | .prim p as, c => onE fun x => match x with
    | .Call (.Name n _) (y :: ys) [] _ => (match primT p with
      | some (nm, _, _) => decide (n = nm)
      | none => false) && chk as c (.l (y :: ys)) && free c n && (y :: ys).all fun z => !isStar z
    | _ => false
  | .isi a ts, c => onE fun x => match x with
    | .Call (.Name n _) [x, y] [] _ => decide (n = "isinstance") && chk a c (.e x) && !isStar x && free c "isinstance" && (match y with
      | .Tuple ys _ _ => areNames c ts ys && decide (ts.length ≤ 100)
      | y => (match ts with
        | [u] => isName c u y
        | _ => false))
    | _ => false
  | .lenSet a, c => onE fun x => match x with
    | .Call (.Name n _) [.Call (.Name m _) [y] [] _] [] _ => decide (n = "len") && decide (m = "set") && chk a c (.e y) && !isStar y && free c "len" && free c "set"
    | _ => false
  | .sortSet a, c => onE fun x => match x with
    | .Call (.Name n _) [.Call (.Name m _) [y] [] _] [] _ => decide (n = "sorted") && decide (m = "set") && chk a c (.e y) && !isStar y && free c "sorted" && free c "set"
    | _ => false
  | .tup es, c => onE fun x => match x with
    | .Tuple xs _ _ => chk es c (.l xs)
    | _ => false
  | .lst es, c => onE fun x => match x with
    | .List xs _ => chk es c (.l xs)
    | _ => false
  | .lrep es b, c => onE fun x => match x with
    | .BinOp (.List xs _) .Mult y _ => chk es c (.l xs) && chk b c (.e y)
    | _ => false
  | .idx a b, c => onE fun x => match x with
    | .Subscript x y _ => chk a c (.e x) && chk b c (.e y) && !isSlice y
    | _ => false
  | .slc a lo hi, c => onE fun x => match x with
    | .Subscript x (.Slice ol oh none _) _ => chk a c (.e x) && (match ol with
      | none => isAbs lo
      | some y => !isAbs lo && chk lo c (.e y)) && (match oh with
      | none => isAbs hi
      | some y => !isAbs hi && chk hi c (.e y))
    | _ => false
  | .comp elt tg src cond own, c => onC fun x => match x with
    | .ListComp ex [⟨tgx, itx, ifs, 0⟩] scope _ => chk src c (.i tgx itx) && blkC c.N c.sc scope (ownOf c.N own) && chk tg { c with sc := scope } (.g tgx) && (match ifs with
      | [] => isAbs cond
      | [z] => !isAbs cond && chk cond { c with sc := scope } (.t z)
      | _ => false) && chk elt { c with sc := scope } (.e ex) && (idxs tg).all (fun i => own.contains i) && notSet itx
    | _ => false
  | .comp2 elt tg src cond tg2 src2 cond2 own own2, c => onC fun x => match x with
    | .ListComp ex [⟨tgx, itx, ifs, 0⟩, ⟨tg2x, it2, ifs2, 0⟩] scope _ => chk src c (.i tgx itx) && blkC c.N c.sc scope (ownOf c.N own) && chk tg { c with sc := scope } (.g tgx) && (match ifs with
      | [] => isAbs cond
      | [z] => !isAbs cond && chk cond { c with sc := scope } (.t z)
      | _ => false) && chk src2 { c with sc := scope } (.i tg2x it2) && chk tg2 { c with sc := scope } (.g tg2x) && (match ifs2 with
      | [] => isAbs cond2
      | [z] => !isAbs cond2 && chk cond2 { c with sc := scope } (.t z)
      | _ => false) && chk elt { c with sc := scope } (.e ex) && (idxs tg).all (fun i => own.contains i) && (idxs tg2).all (fun i => own2.contains i) && own2.all (fun i => own.contains i) && notSet itx && notSet it2
    | _ => false
  | .absent, _ => fun _ => false
  | .nil, _ => fun n => match n with
    | .l [] => true
    | .gs [] => true
    | _ => false
  | .cons a r, c => fun n => match n with
    | .l (x :: xs) => chk a c (.e x) && chk r c (.l xs) && !isStar x
    | .gs (x :: xs) => chk a c (.g x) && chk r c (.gs xs) && !isStar x
    | _ => false
  | .sSeq a, c => onI fun _ x => chk a c (.e x)
  | .sStr a, c => onI fun _ x => chk a c (.e x)
  | .sR1 a, c => onI fun _ x => match x with
    | .Call (.Name n _) [x] [] _ => decide (n = "range") && chk a c (.e x) && !isStar x && free c "range"
    | _ => false
  | .sR2 a b, c => onI fun _ x => match x with
    | .Call (.Name n _) [x, y] [] _ => decide (n = "range") && chk a c (.e x) && chk b c (.e y) && !isStar x && !isStar y && free c "range"
    | _ => false
  | .sZip a b, c => onI fun tg x => match tg, x with
    | .Tuple _ _ _, .Call (.Name n _) [x, y] [] _ => decide (n = "zip") && chk a c (.e x) && chk b c (.e y) && !isStar x && !isStar y && free c "zip"
    | _, _ => false
  | .sEnum a, c => onI fun tg x => match tg, x with
    | .Tuple _ _ _, .Call (.Name n _) [x] [] _ => decide (n = "enumerate") && chk a c (.e x) && !isStar x && free c "enumerate"
    | _, _ => false
  | .tN i, c => onG fun x => match x with
    | .Name n _ => decide (c.N[i]? = some n) && locB c.sc n
    | _ => false
  | .tT es, c => onG fun x => match x with
    | .Tuple xs _ _ => chk es c (.gs xs) && xs.all (fun z => !isStar z) && tlen es == xs.length
    | _ => false
  | .asg tg x, c => onS fun st => match st with
    | .Assign [t] v ln => (match t with
      | .Name n py => (match tg with
        | .tN i => decide (c.N[i]? = some n) && locB c.sc n && (if notComp v then chk x c (.e v) else chk x c (.cs n py v ln))
        | _ => false)
      | .Tuple xs j p => isTT tg && chk tg c (.g (.Tuple xs j p)) && chk x c (.e v) && (noSwap (.Tuple xs j p) v || (xs.any (cellT c) || decide (4 ≤ xs.length)))
      | _ => false)
    | _ => false
  | .par i j a b, c => onS fun st => match st with
    | .Assign [.Tuple [.Name n px, .Name m py] _ _] (.Tuple [x, y] _ _) _ => decide (c.N[i]? = some n) && decide (c.N[j]? = some m) && decide (i ≠ j) && decide (n ≠ m) && decide (c.sc.names.lookup n = some .local) && decide (c.sc.names.lookup m = some .local) && (py.line == px.line)
      && !isStar x && !isStar y && !(foldedForSure 8 x && foldedForSure 8 y) && !(constantsAlone 8 x && constantsAlone 8 y) && chk a c (.e x) && chk b c (.e y)
    | _ => false
  | .par3 i j m a b d, c => onS fun st => match st with
    | .Assign [.Tuple [.Name n1 px, .Name n2 py, .Name n3 pz] _ _] (.Tuple [x, y, z] _ _) _ => decide (c.N[i]? = some n1) && decide (c.N[j]? = some n2) && decide (c.N[m]? = some n3) && decide (i ≠ j) && decide (i ≠ m) && decide (j ≠ m) && decide (n1 ≠ n2) && decide (n1 ≠ n3) && decide (n2 ≠ n3)
      && decide (c.sc.names.lookup n1 = some .local) && decide (c.sc.names.lookup n2 = some .local) && decide (c.sc.names.lookup n3 = some .local) && (py.line == px.line) && (pz.line == px.line)
      && !isStar x && !isStar y && !isStar z && !(foldedForSure 8 x && (foldedForSure 8 y && foldedForSure 8 z)) && !(constantsAlone 8 x && (constantsAlone 8 y && constantsAlone 8 z)) && chk a c (.e x) && chk b c (.e y) && chk d c (.e z)
    | _ => false
  | .popE tk fd d i j a, c => fun n => match n with
    | .b (.Assign [.Name nt _] (.IfExp z (.Name ni _) (.Name nj _) _) _ :: .Expr (.Call (.Attribute (.Name nf _) m1 apos) [.Call (.Attribute (.Name nt2 _) m2 apos2) [.Constant (.int q) _ _] [] cpos2] [] cpos) _ :: sts) =>
      decide (m1 = "append") && decide (m2 = "pop") && decide (nt2 = nt) && decide (q = 0) && decide (c.N[tk]? = some nt) && decide (c.N[fd]? = some nf) && decide (c.N[i]? = some ni) && decide (c.N[j]? = some nj)
      && locB c.sc nt && (visB c.sc nt && !dbg nt && !(nt == ("__classdict__" : Str))) && (visB c.sc nf && !dbg nf && !(nf == ("__classdict__" : Str))) && (visB c.sc ni && !dbg ni && !(ni == ("__classdict__" : Str))) && (visB c.sc nj && !dbg nj && !(nj == ("__classdict__" : Str)))
      && decide (i ≠ fd) && decide (j ≠ fd) && decide (tk ≠ i) && decide (tk ≠ j) && decide (tk ≠ fd) && (apos.endLine == cpos.line) && (apos2.endLine == cpos2.line) && chk d c (.t z) && chk a c (.b sts)
    | _ => false
  | .ifS d a b, c => onS fun st => match st with
    | .If x t u _ => chk d c (.t x) && chk a c (.b t) && chk b c (.b u)
    | _ => false
  | .forS tg src body, c => onS fun st => match st with
    | .For tgx itx t [] _ => chk src c (.i tgx itx) && chk tg c (.g tgx) && chk body c (.b t) && notSet itx
    | _ => false
  | .whileS a body, c => onS fun st => match st with
    | .While x t [] _ => chk a c (.t x) && chk body c (.b t)
    | _ => false
  | .ret a, c => onS fun st => match st with
    | .Return (some x) _ => chk a c (.e x)
    | .Return none _ => (match a with
      | .const .none => true
      | _ => false)
    | _ => false
  | .expr a, c => onS fun st => match st with
    | .Expr x _ => notComp x && chk a c (.e x)
    | _ => false
  | .app i a, c => onS fun st => match st with
    | .Expr (.Call (.Attribute (.Name n _) m apos) [x] [] cpos) _ => decide (m = "append") && decide (c.N[i]? = some n) && visB c.sc n && !dbg n && !(n == ("__classdict__" : Str)) && !isStar x && (apos.endLine == cpos.line) && chk a c (.e x)
    | _ => false
  | .ext i a, c => onS fun st => match st with
    | .Expr (.Call (.Attribute (.Name n _) m apos) [x] [] cpos) _ => decide (m = "extend") && decide (c.N[i]? = some n) && visB c.sc n && !dbg n && !(n == ("__classdict__" : Str)) && !isStar x && (apos.endLine == cpos.line) && chk a c (.e x)
    | _ => false
  | .setIx i b a, c => onS fun st => match st with
    | .Assign [.Subscript (.Name n _) y _] v _ => decide (c.N[i]? = some n) && visB c.sc n && !dbg n && !(n == ("__classdict__" : Str)) && notComp v && !isSlice y && chk b c (.e y) && chk a c (.e v)
    | _ => false
  | .pop i a, c => onE fun x => match x with
    | .Call (.Attribute (.Name n _) m apos) [x] [] cpos => decide (m = "pop") && decide (c.N[i]? = some n) && visB c.sc n && !dbg n && !(n == ("__classdict__" : Str)) && !isStar x && (apos.endLine == cpos.line) && chk a c (.e x)
    | _ => false
  | .never, _ => fun n => match n with
    | .e _ => true
    | .t _ => true
    | .w _ => true
    | .l _ => true
    | .i _ _ => true
    | .s _ => true
    | .b _ => true
    | _ => false
  | .brk, _ => onS fun st => match st with
    | .Break _ => true
    | _ => false
  | .cont, _ => onS fun st => match st with
    | .Continue _ => true
    | _ => false
  | .pass, _ => onS fun st => match st with
    | .Pass _ => true
    | _ => false
  | .done, _ => fun n => match n with
    | .b [] => true
    | _ => false
  | .seq a b, c => fun n => match n with
    | .b (st :: sts) => chk a c (.s st) && chk b c (.b sts)
    | _ => false
end L2.Mp
set_option Elab.async false
set_option linter.all false
set_option maxRecDepth 100000
set_option maxHeartbeats 4000000
namespace L2.Mp
open PySem PySem.Spec PyProof.Rows L2
theorem free_of {c : Ct} {n : Str} (h : free c n = true) : n ∈ c.fr ∧ gloB c.sc n = true := by
  simp only [free, Bool.and_eq_true, List.contains_iff_mem] at h
  exact h
theorem prim_nm {p : Prim} {n : Str} (h : (match primT p with
      | some (nm, _, _) => decide (n = nm)
      | none => false) = true) : ∃ ty id, primT p = some (n, ty, id) := by
  cases q : primT p with
  | none => rw [q] at h; cases h
  | some w =>
    obtain ⟨nm, ty, id⟩ := w
    rw [q] at h
    rw [of_decide_eq_true h]
    exact ⟨ty, id, rfl⟩
theorem stars {ys : List Expr} (h : (ys.all fun z => !isStar z) = true) : ∀ z ∈ ys, isStar z = false := fun z hz => by simpa using (List.all_eq_true.mp h) z hz
theorem conds {c : Ct} {cf : CF} {k : Nat} {a : T} {ifs : List Expr} (ih : ∀ n, chk a c n = true → Holds c cf k a n) (h : (match ifs with
      | [] => isAbs a
      | [z] => !isAbs a && chk a c (.t z)
      | _ => false) = true) : GoodC c cf k a ifs := by
  split at h
  · rw [abs_is h]
    exact good_noif
  · simp only [Bool.and_eq_true, Bool.not_eq_true'] at h
    exact good_if (ih (.t _) h.2) (abs_c h.1 cf)
  · cases h
theorem parts {c : Ct} {cf : CF} {k : Nat} {a : T} {o : Option Expr} (ih : ∀ n, chk a c n = true → Holds c cf k a n) (h : (match o with
      | none => isAbs a
      | some y => !isAbs a && chk a c (.e y)) = true) : GoodO c cf k a o := by
  split at h
  · rw [abs_is h]
    exact good_absent
  · simp only [Bool.and_eq_true, Bool.not_eq_true'] at h
    exact good_part (ih (.e _) h.2) (abs_o h.1 cf)
theorem t_never {c : Ct} {cf : CF} {k : Nat} : ∀ n : Node, chk .never c n = true → Holds c cf k .never n
  | .e x, _ => ex_never
  | .t x, _ => fun X ok F G H S σ e Q W tk l hq => hq.elim
  | .w x, _ => fun X ok F G H S σ e Q W tk l hq => hq.elim
  | .l x, _ => fun X ok F G H S σ e Q W tk l hq => hq.elim
  | .i _ x, _ => fun X ok F G H S σ e Q W tk l hq => hq.elim
  | .s x, _ => st_never
  | .b x, _ => fun X ok hp F G H S σ e E W tk l hq => hq.elim
  | .g _, h => by cases h
  | .gs _, h => by cases h
  | .cs _ _ _ _, h => by cases h
theorem chk_ok {cf : CF} {k : Nat} : ∀ (t : T) (c : Ct) (n : Node), chk t c n = true → Holds c cf k t n := by
  intro t
  induction t with
  | var i =>
    intro c n h
    refine onE_ok (fun x h => ?_) h
    split at h
    · simp only [Bool.and_eq_true, decide_eq_true_eq, Bool.not_eq_true'] at h
      exact good_var h.1.1.1 h.1.1.2 h.1.2 h.2
    · cases h
  | glo g d =>
    intro c n h
    refine onE_ok (fun x h => ?_) h
    split at h
    · rename_i m p
      simp only [Bool.and_eq_true, Bool.not_eq_true'] at h
      obtain ⟨⟨h1, h2⟩, h3⟩ := h
      cases q : c.gl.lookup m with
      | none => rw [q] at h3; cases h3
      | some d' =>
        rw [q] at h3
        rw [← eqD_ok h3]
        exact good_glo (n := m) h1 q h2
    · cases h
  | const d =>
    intro c n h
    refine onE_ok (fun x h => ?_) h
    split at h
    · exact const_ok h
    · cases h
  | bin op a b iha ihb =>
    intro c n h
    refine onE_ok (fun x h => ?_) h
    split at h
    · simp only [Bool.and_eq_true, decide_eq_true_eq] at h
      obtain ⟨⟨rfl, h1⟩, h2⟩ := h
      exact good_bin (iha c _ h1) (ihb c _ h2)
    · cases h
  | neg a iha =>
    intro c n h
    refine onE_ok (fun x h => ?_) h
    split at h
    · exact good_neg (iha c _ h)
    · cases h
  | notT a iha =>
    intro c n h
    refine onET_ok (fun x h => ?_) (fun x h => ?_) h
    · split at h
      · exact good_not (iha c _ h)
      · cases h
    · split at h
      · exact goodT_not (iha c _ h)
      · cases h
  | cmp op a b iha ihb =>
    intro c n h
    refine onET_ok (fun x h => ?_) (fun x h => ?_) h
    · split at h
      · simp only [Bool.and_eq_true, decide_eq_true_eq, Bool.not_eq_true'] at h
        obtain ⟨⟨⟨rfl, h1⟩, h2⟩, h3⟩ := h
        exact good_cmp (iha c _ h1) (ihb c _ h2) h3
      · cases h
    · split at h
      · simp only [Bool.and_eq_true, decide_eq_true_eq, Bool.not_eq_true'] at h
        obtain ⟨⟨⟨rfl, h1⟩, h2⟩, h3⟩ := h
        exact goodT_cmp (iha c _ h1) (ihb c _ h2) h3
      · cases h
  | chain op op' a b d iha ihb ihd =>
    intro c n h
    refine onET_ok (fun x h => ?_) (fun x h => ?_) h
    · split at h
      · simp only [Bool.and_eq_true, decide_eq_true_eq, Bool.not_eq_true'] at h
        obtain ⟨⟨⟨⟨⟨rfl, rfl⟩, h1⟩, h2⟩, h3⟩, h4⟩ := h
        exact good_chain (iha c _ h1) (ihb c _ h2) (ihd c _ h3) h4
      · cases h
    · split at h
      · simp only [Bool.and_eq_true, decide_eq_true_eq, Bool.not_eq_true'] at h
        obtain ⟨⟨⟨⟨⟨rfl, rfl⟩, h1⟩, h2⟩, h3⟩, h4⟩ := h
        exact goodT_chain (iha c _ h1) (ihb c _ h2) (ihd c _ h3) h4
      · cases h
  | one a iha =>
    intro c n h
    refine onB_ok (fun x h => ?_) (fun x h => ?_) h
    · split at h
      · exact good_one (iha c _ h)
      · cases h
    · split at h
      · exact goodW_one (iha c _ h)
      · cases h
  | and a b iha ihb =>
    intro c n h
    refine onB_ok (fun x h => ?_) (fun x h => ?_) h
    · split at h
      · simp only [Bool.and_eq_true] at h
        exact good_and (iha c _ h.1) (ihb c _ h.2)
      · cases h
    · split at h
      · simp only [Bool.and_eq_true] at h
        exact goodW_and (iha c _ h.1) (ihb c _ h.2)
      · cases h
  | or a b iha ihb =>
    intro c n h
    refine onB_ok (fun x h => ?_) (fun x h => ?_) h
    · split at h
      · simp only [Bool.and_eq_true] at h
        exact good_or (iha c _ h.1) (ihb c _ h.2)
      · cases h
    · split at h
      · simp only [Bool.and_eq_true] at h
        exact goodW_or (iha c _ h.1) (ihb c _ h.2)
      · cases h
  | ite d a b ihd iha ihb =>
    intro c n h
    refine onET_ok (fun x h => ?_) (fun x h => ?_) h
    · split at h
      · simp only [Bool.and_eq_true] at h
        exact good_ite (ihd c _ h.1.1) (iha c _ h.1.2) (ihb c _ h.2)
      · cases h
    · split at h
      · simp only [Bool.and_eq_true] at h
        exact goodT_ite (ihd c _ h.1.1) (iha c _ h.1.2) (ihb c _ h.2)
      · cases h
  | call f fl as iha =>
    intro c n h
    refine onE_ok (fun x h => ?_) h
    split at h
    · simp only [Bool.and_eq_true, decide_eq_true_eq, Bool.not_eq_true'] at h
      obtain ⟨⟨⟨⟨⟨rfl, h1⟩, h2⟩, h3⟩, h4⟩, h5⟩ := h
      exact good_call (iha c _ h1) (PySem.mem_of_lookup h2) rfl h3 h4 (stars h5)
    · cases h
  | prim p as iha =>
    intro c n h
    refine onE_ok (fun x h => ?_) h
    split at h
    · simp only [Bool.and_eq_true] at h
      obtain ⟨⟨⟨h1, h2⟩, h3⟩, h4⟩ := h
      obtain ⟨ty, id, h5⟩ := prim_nm h1
      exact prim_ok h5 (iha c _ h2) (free_of h3).1 (free_of h3).2 (stars h4)
    · cases h
  | isi a ts iha =>
    intro c n h
    refine onE_ok (fun x h => ?_) h
    split at h
    · simp only [Bool.and_eq_true, decide_eq_true_eq, Bool.not_eq_true'] at h
      obtain ⟨⟨⟨⟨rfl, h1⟩, h2⟩, h3⟩, h4⟩ := h
      split at h4
      · simp only [Bool.and_eq_true, decide_eq_true_eq] at h4
        exact good_isiT (iha c _ h1) h2 h4.1 h4.2 (free_of h3).1 (free_of h3).2
      · split at h4
        · exact good_isi (iha c _ h1) h2 h4 (free_of h3).1 (free_of h3).2
        · cases h4
    · cases h
  | lenSet a iha =>
    intro c n h
    refine onE_ok (fun x h => ?_) h
    split at h
    · simp only [Bool.and_eq_true, decide_eq_true_eq, Bool.not_eq_true'] at h
      obtain ⟨⟨⟨⟨⟨rfl, rfl⟩, h1⟩, h2⟩, h3⟩, h4⟩ := h
      exact good_lenSet (iha c _ h1) h2 (free_of h3).1 (free_of h3).2 (free_of h4).1 (free_of h4).2
    · cases h
  | sortSet a iha =>
    intro c n h
    refine onE_ok (fun x h => ?_) h
    split at h
    · simp only [Bool.and_eq_true, decide_eq_true_eq, Bool.not_eq_true'] at h
      obtain ⟨⟨⟨⟨⟨rfl, rfl⟩, h1⟩, h2⟩, h3⟩, h4⟩ := h
      exact good_sortSet (iha c _ h1) h2 (free_of h3).1 (free_of h3).2 (free_of h4).1 (free_of h4).2
    · cases h
  | tup es ih =>
    intro c n h
    refine onE_ok (fun x h => ?_) h
    split at h
    · exact good_tup (ih c _ h)
    · cases h
  | lst es ih =>
    intro c n h
    refine onE_ok (fun x h => ?_) h
    split at h
    · exact good_lst (ih c _ h)
    · cases h
  | lrep es b ih ihb =>
    intro c n h
    refine onE_ok (fun x h => ?_) h
    split at h
    · simp only [Bool.and_eq_true] at h
      exact good_lrep (ih c _ h.1) (ihb c _ h.2)
    · cases h
  | idx a b iha ihb =>
    intro c n h
    refine onE_ok (fun x h => ?_) h
    split at h
    · simp only [Bool.and_eq_true, Bool.not_eq_true'] at h
      exact good_idx (iha c _ h.1.1) (ihb c _ h.1.2) h.2
    · cases h
  | slc a lo hi iha ihl ihh =>
    intro c n h
    refine onE_ok (fun x h => ?_) h
    split at h
    · simp only [Bool.and_eq_true] at h
      exact good_slc (iha c _ h.1.1) (parts (ihl c) h.1.2) (parts (ihh c) h.2)
    · cases h
  | comp elt tg src cond own ihe ihg ihs ihc =>
    intro c n h
    refine onC_ok (fun x h => ?_) (fun n py x ln h => ?_) h
    · split at h
      · simp only [Bool.and_eq_true, List.all_eq_true, List.contains_iff_mem] at h
        obtain ⟨⟨⟨⟨⟨⟨h1, h2⟩, h3⟩, h4⟩, h5⟩, h6⟩, h7⟩ := h
        exact good_comp (ihs c _ h1) h2 (ihg _ _ h3) (conds (ihc _) h4) (ihe _ _ h5) h6 h7
      · cases h
    · split at h
      · simp only [Bool.and_eq_true, List.all_eq_true, List.contains_iff_mem] at h
        obtain ⟨⟨⟨⟨⟨⟨h1, h2⟩, h3⟩, h4⟩, h5⟩, h6⟩, h7⟩ := h
        exact fun i hN hl => st_asgC hN hl (ihs c _ h1) h2 (ihg _ _ h3) (conds (ihc _) h4) (ihe _ _ h5) h6 h7
      · cases h
  | comp2 elt tg src cond tg2 src2 cond2 own own2 ihe ihg ihs ihc ihg2 ihs2 ihc2 =>
    intro c n h
    refine onC_ok (fun x h => ?_) (fun n py x ln h => ?_) h
    · split at h
      · simp only [Bool.and_eq_true, List.all_eq_true, List.contains_iff_mem] at h
        obtain ⟨⟨⟨⟨⟨⟨⟨⟨⟨⟨⟨⟨h1, h2⟩, h3⟩, h4⟩, h5⟩, h6⟩, h7⟩, h8⟩, h9⟩, h10⟩, h11⟩, h12⟩, h13⟩ := h
        exact good_comp2 (ihs c _ h1) h2 (ihg _ _ h3) (conds (ihc _) h4) (ihs2 _ _ h5) (ihg2 _ _ h6) (conds (ihc2 _) h7) (ihe _ _ h8) h9 h10 h11 h12 h13
      · cases h
    · split at h
      · simp only [Bool.and_eq_true, List.all_eq_true, List.contains_iff_mem] at h
        obtain ⟨⟨⟨⟨⟨⟨⟨⟨⟨⟨⟨⟨h1, h2⟩, h3⟩, h4⟩, h5⟩, h6⟩, h7⟩, h8⟩, h9⟩, h10⟩, h11⟩, h12⟩, h13⟩ := h
        exact fun i hN hl => st_asgC2 hN hl (ihs c _ h1) h2 (ihg _ _ h3) (conds (ihc _) h4) (ihs2 _ _ h5) (ihg2 _ _ h6) (conds (ihc2 _) h7) (ihe _ _ h8) h9 h10 h11 h12 h13
      · cases h
  | absent => intro c n h; cases h
  | nil =>
    intro c n h
    cases n with
    | l xs =>
      cases xs with
      | nil => exact good_nil
      | cons _ _ => cases h
    | gs xs =>
      cases xs with
      | nil => exact tgts_nil
      | cons _ _ => cases h
    | _ => cases h
  | cons a r iha ihr =>
    intro c n h
    cases n with
    | l xs =>
      cases xs with
      | nil => cases h
      | cons x xs =>
        have h : (chk a c (.e x) && chk r c (.l xs) && !isStar x) = true := h
        simp only [Bool.and_eq_true, Bool.not_eq_true'] at h
        exact good_cons (iha c _ h.1.1) (ihr c _ h.1.2) h.2
    | gs xs =>
      cases xs with
      | nil => cases h
      | cons x xs =>
        have h : (chk a c (.g x) && chk r c (.gs xs) && !isStar x) = true := h
        simp only [Bool.and_eq_true, Bool.not_eq_true'] at h
        exact tgts_cons (iha c _ h.1.1) (ihr c _ h.1.2) h.2
    | _ => cases h
  | sSeq a iha =>
    intro c n h
    exact onI_ok (fun tg x h => src_seq (iha c (.e x) h)) h
  | sStr a iha =>
    intro c n h
    exact onI_ok (fun tg x h => src_str (iha c (.e x) h)) h
  | sR1 a iha =>
    intro c n h
    refine onI_ok (fun tg x h => ?_) h
    split at h
    · simp only [Bool.and_eq_true, decide_eq_true_eq, Bool.not_eq_true'] at h
      obtain ⟨⟨⟨rfl, h1⟩, h2⟩, h3⟩ := h
      exact src_r1 (iha c _ h1) h2 (free_of h3).1 (free_of h3).2
    · cases h
  | sR2 a b iha ihb =>
    intro c n h
    refine onI_ok (fun tg x h => ?_) h
    split at h
    · simp only [Bool.and_eq_true, decide_eq_true_eq, Bool.not_eq_true'] at h
      obtain ⟨⟨⟨⟨⟨rfl, h1⟩, h2⟩, h3⟩, h4⟩, h5⟩ := h
      exact src_r2 (iha c _ h1) (ihb c _ h2) h3 h4 (free_of h5).1 (free_of h5).2
    · cases h
  | sZip a b iha ihb =>
    intro c n h
    refine onI_ok (fun tg x h => ?_) h
    split at h
    · simp only [Bool.and_eq_true, decide_eq_true_eq, Bool.not_eq_true'] at h
      obtain ⟨⟨⟨⟨⟨rfl, h1⟩, h2⟩, h3⟩, h4⟩, h5⟩ := h
      exact src_zip (iha c _ h1) (ihb c _ h2) h3 h4 (free_of h5).1 (free_of h5).2
    · cases h
  | sEnum a iha =>
    intro c n h
    refine onI_ok (fun tg x h => ?_) h
    split at h
    · simp only [Bool.and_eq_true, decide_eq_true_eq, Bool.not_eq_true'] at h
      obtain ⟨⟨⟨rfl, h1⟩, h2⟩, h3⟩ := h
      exact src_enum (iha c _ h1) h2 (free_of h3).1 (free_of h3).2
    · cases h
  | tN i =>
    intro c n h
    refine onG_ok (fun x h => ?_) h
    split at h
    · simp only [Bool.and_eq_true, decide_eq_true_eq] at h
      exact tgt_name h.1 h.2
    · cases h
  | tT es ih =>
    intro c n h
    refine onG_ok (fun x h => ?_) h
    split at h
    · simp only [Bool.and_eq_true, beq_iff_eq] at h
      exact tgt_tup (ih c _ h.1.1) (stars h.1.2) fun ds e e' hb => (tlen_ok hb).trans h.2
    · cases h
  | asg tg x ihg ihx =>
    intro c n h
    refine onS_ok (fun st h => ?_) h
    split at h
    · split at h
      · split at h
        · simp only [Bool.and_eq_true, decide_eq_true_eq] at h
          obtain ⟨⟨h1, h2⟩, h3⟩ := h
          split at h3
          · rename_i hn
            exact st_asgN (ihx c _ h3) h1 h2 hn
          · exact ihx c _ h3 _ h1 h2
        · cases h
      · simp only [Bool.and_eq_true] at h
        obtain ⟨⟨⟨h1, h2⟩, h3⟩, h4⟩ := h
        cases tg with
        | tT es =>
          refine st_asgT (ihx c _ h3) (ihg c _ h2) fun X ok => ?_
          rcases (Bool.or_eq_true _ _).mp h4 with h4 | h4
          · exact no_swap h4 X.env
          · rcases (Bool.or_eq_true _ _).mp h4 with h4 | h4
            · exact no_swapC ok h4
            · exact no_swap4 (of_decide_eq_true h4) X.env
        | _ => cases h1
      · cases h
    · cases h
  | par i j a b iha ihb =>
    intro c n h
    refine onS_ok (fun st h => ?_) h
    split at h
    · simp only [Bool.and_eq_true, decide_eq_true_eq, Bool.not_eq_true'] at h
      obtain ⟨⟨⟨⟨⟨⟨⟨⟨⟨⟨⟨⟨h1, h2⟩, h3⟩, h4⟩, h5⟩, h6⟩, h7⟩, h8⟩, h9⟩, h10⟩, h11⟩, h12⟩, h13⟩ := h
      exact st_par (iha c _ h12) (ihb c _ h13) h1 h2 h3 h8 h9 h5 h6 (swap_is h5 h6 h7 h4 h8 h9 h10 h11)
    · cases h
  | par3 i j m a b d iha ihb ihd =>
    intro c n h
    refine onS_ok (fun st h => ?_) h
    split at h
    · simp only [Bool.and_eq_true, decide_eq_true_eq, Bool.not_eq_true'] at h
      obtain ⟨⟨⟨⟨⟨⟨⟨⟨⟨⟨⟨⟨⟨⟨⟨⟨⟨⟨⟨⟨⟨h1, h2⟩, h3⟩, h4⟩, h5⟩, h6⟩, h7⟩, h8⟩, h9⟩, h10⟩, h11⟩, h12⟩, h13⟩, h14⟩, h15⟩, h16⟩, h17⟩, h18⟩, h19⟩, h20⟩, h21⟩, h22⟩ := h
      exact st_par3 (iha c _ h20) (ihb c _ h21) (ihd c _ h22) h1 h2 h3 h4 h5 h6 h15 h16 h17 h10 h11 h12 (swap3_is h10 h11 h12 h13 h14 h7 h8 h9 h15 h16 h17 h18 h19)
    · cases h
  | popE tk fd d i j a ihd iha =>
    intro c n h
    unfold chk at h
    split at h
    · rename_i nt _ z ni _ nj _ _ _ nf _ m1 apos nt2 _ m2 apos2 q _ _ cpos2 cpos _ sts
      simp only [Bool.and_eq_true, decide_eq_true_eq, Bool.not_eq_true'] at h
      obtain ⟨⟨⟨⟨⟨⟨⟨⟨⟨⟨⟨⟨⟨⟨⟨⟨⟨⟨⟨⟨⟨rfl, rfl⟩, rfl⟩, rfl⟩, h1⟩, h2⟩, h3⟩, h4⟩, h5⟩, ⟨h6, h7⟩, h8⟩, ⟨h9, h10⟩, h11⟩, ⟨h12, h13⟩, h14⟩, ⟨h15, h16⟩, h17⟩, h18⟩, h19⟩, h20⟩, h21⟩, h22⟩, h23⟩, h24⟩, h25⟩, h26⟩ := h
      exact blk_popE (ihd c (.t z) h25) (iha c (.b sts) h26) h1 h2 h3 h4 h5 h6 h7 h8 h9 h10 h11 h12 h13 h14 h15 h16 h17 h18 h19 h20 h21 h22 h23 h24
    · cases h
  | ifS d a b ihd iha ihb =>
    intro c n h
    refine onS_ok (fun st h => ?_) h
    split at h
    · simp only [Bool.and_eq_true] at h
      exact st_if (ihd c _ h.1.1) (iha c _ h.1.2) (ihb c _ h.2)
    · cases h
  | forS tg src body ihg ihs ihb =>
    intro c n h
    refine onS_ok (fun st h => ?_) h
    split at h
    · simp only [Bool.and_eq_true] at h
      exact st_for (ihs c _ h.1.1.1) (ihg c _ h.1.1.2) (ihb c _ h.1.2) h.2
    · cases h
  | whileS a body iha ihb =>
    intro c n h
    refine onS_ok (fun st h => ?_) h
    split at h
    · simp only [Bool.and_eq_true] at h
      exact st_while (iha c _ h.1) (ihb c _ h.2)
    · cases h
  | ret a iha =>
    intro c n h
    refine onS_ok (fun st h => ?_) h
    split at h
    · exact st_ret (iha c _ h)
    · split at h
      · exact st_ret0
      · cases h
    · cases h
  | expr a iha =>
    intro c n h
    refine onS_ok (fun st h => ?_) h
    split at h
    · simp only [Bool.and_eq_true] at h
      exact st_expr (iha c _ h.2) h.1
    · cases h
  | app i a iha =>
    intro c n h
    refine onS_ok (fun st h => ?_) h
    split at h
    · simp only [Bool.and_eq_true, decide_eq_true_eq, Bool.not_eq_true'] at h
      obtain ⟨⟨⟨⟨⟨⟨⟨rfl, h1⟩, h2⟩, h3⟩, h4⟩, h5⟩, h6⟩, h7⟩ := h
      exact st_app (iha c _ h7) h1 h2 h3 h4 h5 h6
    · cases h
  | ext i a iha =>
    intro c n h
    refine onS_ok (fun st h => ?_) h
    split at h
    · simp only [Bool.and_eq_true, decide_eq_true_eq, Bool.not_eq_true'] at h
      obtain ⟨⟨⟨⟨⟨⟨⟨rfl, h1⟩, h2⟩, h3⟩, h4⟩, h5⟩, h6⟩, h7⟩ := h
      exact st_ext (iha c _ h7) h1 h2 h3 h4 h5 h6
    · cases h
  | setIx i b a ihb iha =>
    intro c n h
    refine onS_ok (fun st h => ?_) h
    split at h
    · simp only [Bool.and_eq_true, decide_eq_true_eq, Bool.not_eq_true'] at h
      obtain ⟨⟨⟨⟨⟨⟨⟨h1, h2⟩, h3⟩, h4⟩, h5⟩, h6⟩, h7⟩, h8⟩ := h
      exact st_setIx (ihb c _ h7) (iha c _ h8) h1 h2 h3 h4 h5 h6
    · cases h
  | pop i a iha =>
    intro c n h
    refine onE_ok (fun x h => ?_) h
    split at h
    · simp only [Bool.and_eq_true, decide_eq_true_eq, Bool.not_eq_true'] at h
      obtain ⟨⟨⟨⟨⟨⟨⟨rfl, h1⟩, h2⟩, h3⟩, h4⟩, h5⟩, h6⟩, h7⟩ := h
      exact good_pop (iha c _ h7) h1 h2 h3 h4 h5 h6
    · cases h
  | never => intro c n h; exact t_never n h
  | brk =>
    intro c n h
    refine onS_ok (fun st h => ?_) h
    split at h
    · exact fun X ok hp F G H S σ e E W tk l hq => ofS ps_break (hq σ H G (Same.refl G) l)
    · cases h
  | cont =>
    intro c n h
    refine onS_ok (fun st h => ?_) h
    split at h
    · exact fun X ok hp F G H S σ e E W tk l hq => ofS ps_continue (hq σ H G (Same.refl G) l)
    · cases h
  | pass =>
    intro c n h
    refine onS_ok (fun st h => ?_) h
    split at h
    · exact fun X ok hp F G H S σ e E W tk l hq => ofS ps_pass (hq σ H G (Same.refl G) l)
    · cases h
  | done =>
    intro c n h
    cases n with
    | b xs =>
      cases xs with
      | nil => exact st_done
      | cons _ _ => cases h
    | _ => cases h
  | seq a b iha ihb =>
    intro c n h
    cases n with
    | b xs =>
      cases xs with
      | nil => cases h
      | cons st sts =>
        have h : (chk a c (.s st) && chk b c (.b sts)) = true := h
        simp only [Bool.and_eq_true] at h
        exact st_seq (iha c _ h.1) (ihb c _ h.2)
    | _ => cases h
end L2.Mp
set_option Elab.async false
set_option linter.all false
set_option maxRecDepth 100000
set_option maxHeartbeats 4000000
namespace L2.Mp
open PySem PySem.Spec PyProof.Rows L2

/-! ### the entry of a def -/
theorem paired_get {α β : Type} {R : α → β → Prop} : ∀ {xs : List α} {ys : List β} {i : Nat} {y : β}, Paired R xs ys → ys[i]? = some y → ∃ x, xs[i]? = some x ∧ R x y
  | _, _, 0, y, .cons h _, e => by
    cases e
    exact ⟨_, rfl, h⟩
  | _, _, i + 1, y, .cons _ h, e => paired_get (i := i) h e
  | _, _, _, _, .nil, e => by simp at e
theorem paired_len {α β : Type} {R : α → β → Prop} : ∀ {xs : List α} {ys : List β}, Paired R xs ys → xs.length = ys.length
  | _, _, .nil => rfl
  | _, _, .cons _ h => congrArg (· + 1) (paired_len h)
def slotOf : Arg → Slot
  | .d d => .val d
  | .io ds => .own true ds
theorem startF_eq (n : Nat) (as : List Arg) : startF n as = as.map slotOf ++ List.replicate (n - as.length) Slot.no := by
  unfold startF
  congr 2
theorem startF_get {n : Nat} {as : List Arg} {i : Nat} {s : Slot} (h : (startF n as)[i]? = some s) : (∃ a, as[i]? = some a ∧ s = slotOf a) ∨ s = .no := by
  rw [startF_eq] at h
  by_cases hi : i < (as.map slotOf).length
  · rw [List.getElem?_append_left hi, List.getElem?_map] at h
    cases q : as[i]? with
    | none => rw [q] at h; cases h
    | some a =>
      rw [q] at h
      cases h
      exact .inl ⟨a, rfl, rfl⟩
  · rw [List.getElem?_append_right (by omega)] at h
    exact .inr (List.mem_replicate.mp (List.mem_of_getElem? h)).2
theorem start_get {N : List Str} {vs : List V} {i : Nat} {v : V} (h : vs[i]? = some v) : (start N vs)[i]? = some (some v) := by
  have hi : i < vs.length := (List.getElem?_eq_some_iff.mp h).1
  unfold start
  rw [List.getElem?_append_left (by rw [List.length_map]; exact hi), List.getElem?_map, h]
  rfl
theorem rl_start {F G H : Hp} {N : List Str} {vs : List V} {as : List Arg} (g : Same G H) (f : Same F H) (fg : ∀ b o, G b = some o → F b = none) (pa : Paired (ArgOk KZ F G H) vs as)
    (once : ∀ (i j : Nat) (a : Addr) (ds es : List D), as[i]? = some (.io ds) → as[j]? = some (.io es) → vs[i]? = some (.ref a) → vs[j]? = some (.ref a) → i = j) : Rl KZ F G H (start N vs) (start N vs) (startF N.length as) := by
  have io : ∀ (i : Nat) (q : Bool) (ds : List D), (startF N.length as)[i]? = some (.own q ds) → as[i]? = some (.io ds) ∧ ∃ (a : Addr) (us : List V), vs[i]? = some (.ref a) ∧ H a = some (.lst us) ∧ G a = none ∧ F a = none ∧ DpAll KZ G us ds := fun i q ds h => by
    rcases startF_get h with ⟨a, h1, h2⟩ | h2
    · cases a with
      | d d => cases h2
      | io es =>
        cases h2
        obtain ⟨v, h3, a, us, rfl, h4⟩ := paired_get pa h1
        exact ⟨h1, a, us, h3, h4⟩
    · cases h2
  refine ⟨g, f, fg, ?_, fun i d h => ?_, fun i q ds h => ?_, fun i j q r ds es a h1 h2 h3 h4 => ?_⟩
  · have := paired_len pa
    rw [startF_eq, List.length_append, List.length_map, List.length_replicate]
    unfold start
    rw [List.length_append, List.length_map, List.length_replicate]
    omega
  · rcases startF_get h with ⟨a, h1, h2⟩ | h2
    · cases a with
      | d d' =>
        cases h2
        obtain ⟨v, h3, h4⟩ := paired_get pa h1
        exact ⟨v, start_get h3, h4⟩
      | io es => cases h2
    · cases h2
  · obtain ⟨h1, a, us, h2, h3, h4, h5, h6⟩ := io i q ds h
    exact ⟨a, us, start_get h2, h3, h4, h5, h6, fun _ => start_get h2⟩
  · obtain ⟨p1, a1, _, p2, _⟩ := io i q ds h1
    obtain ⟨p3, a2, _, p4, _⟩ := io j r es h2
    rw [start_get p2] at h3
    rw [start_get p4] at h4
    cases h3
    cases h4
    exact once i j a ds es p1 p3 p2 p4
/-! ### its end -/
theorem outs_all {F G H : Hp} {S σ : St} {e : Fm} (l : Rl KZ F G H S σ e) : ∀ {fl : List Bool} {as : List Arg} {vs : List V} {outs : List (List D)} (j : Nat), argsFit fl as = true → vs.length = as.length → (∀ (t : Nat) v, vs[t]? = some v → S[j + t]? = some (some v)) → outsF fl j e = some outs →
    OutsOk KZ G H vs as outs ∧ ∀ (t : Nat) (ds : List D), as[t]? = some (.io ds) → ∃ es, e[j + t]? = some (.own true es)
  | [], [], vs, outs, j, _, hl, _, ho => by
    cases vs with
    | nil =>
      cases ho
      exact ⟨trivial, fun t ds h => by simp at h⟩
    | cons _ _ => cases hl
  | true :: fl, .io ds :: as, vs, outs, j, hf, hl, hs, ho => by
    cases vs with
    | nil => cases hl
    | cons v vs =>
      have ho : (match e[j]?, outsF fl (j + 1) e with
        | some (.own true ds), some r => some (ds :: r)
        | _, _ => none) = some outs := ho
      cases q : e[j]? with
      | none => rw [q] at ho; cases ho
      | some s =>
        rw [q] at ho
        cases s with
        | own io es =>
          cases io with
          | false => cases ho
          | true =>
            cases q2 : outsF fl (j + 1) e with
            | none => rw [q2] at ho; cases ho
            | some r =>
              rw [q2] at ho
              cases ho
              obtain ⟨h1, h2⟩ := outs_all l (fl := fl) (as := as) (vs := vs) (j + 1) hf (by simpa using hl) (fun t v h => by
                have := hs (t + 1) v h
                rw [show j + 1 + t = j + (t + 1) by omega]
                exact this) q2
              obtain ⟨a, us, h3, h4, h5, h6, h7, h8⟩ := l.own j true es q
              have h9 := h8 rfl
              rw [show j = j + 0 by rfl, hs 0 v rfl] at h9
              cases h9
              refine ⟨⟨⟨a, us, rfl, h4, h5, h7⟩, h1⟩, fun t ds' h => ?_⟩
              cases t with
              | zero => exact ⟨es, q⟩
              | succ t =>
                obtain ⟨es', h10⟩ := h2 t ds' h
                exact ⟨es', by rw [show j + (t + 1) = j + 1 + t by omega]; exact h10⟩
        | _ => cases ho
  | false :: fl, .d d :: as, vs, outs, j, hf, hl, hs, ho => by
    cases vs with
    | nil => cases hl
    | cons v vs =>
      obtain ⟨h1, h2⟩ := outs_all l (fl := fl) (as := as) (vs := vs) (j + 1) hf (by simpa using hl) (fun t v h => by
        have := hs (t + 1) v h
        rw [show j + 1 + t = j + (t + 1) by omega]
        exact this) (show outsF fl (j + 1) e = some outs from ho)
      refine ⟨h1, fun t ds' h => ?_⟩
      cases t with
      | zero => cases h
      | succ t =>
        obtain ⟨es', h10⟩ := h2 t ds' h
        exact ⟨es', by rw [show j + (t + 1) = j + 1 + t by omega]; exact h10⟩
  | [], _ :: _, _, _, _, h, _, _, _ => by cases h
  | true :: _, [], _, _, _, h, _, _, _ => by cases h
  | false :: _, [], _, _, _, h, _, _, _ => by cases h
  | true :: _, .d _ :: _, _, _, _, h, _, _, _ => by cases h
  | false :: _, .io _ :: _, _, _, _, h, _, _, _ => by cases h
theorem notIo_of {F G H : Hp} {S σ : St} {e : Fm} (l : Rl KZ F G H S σ e) {vs : List V} {as : List Arg} (hs : ∀ (t : Nat) v, vs[t]? = some v → S[t]? = some (some v)) (hi : ∀ (t : Nat) (ds : List D), as[t]? = some (.io ds) → ∃ es, e[t]? = some (.own true es)) {a : Addr} (no : NoOwn σ e a) : NotIo vs as a := by
  intro i ds h1 h2
  obtain ⟨es, h3⟩ := hi i ds h1
  obtain ⟨b, us, h4, _, _, _, _, h8⟩ := l.own i true es h3
  have h9 := h8 rfl
  rw [hs i _ h2] at h9
  cases h9
  exact no i true es h3 h4
section
variable {X : Cx} {F G H : Hp} {N : List Str} {vs : List V} {as : List Arg} {Q : VK} {E : XK} {fl : List Bool}
theorem end_ok (hlen : vs.length = as.length) (hf : argsFit fl as = true) {r : R Val} (hp : CPost X.mg KZ F G vs as Q E (endF fl r)) : Po X F (start N vs) (fun cls d _ H => E cls d H) (pS X F (start N vs) { nx := fun _ H' => Q .non H', rt := Q }) G r := by
  have st : ∀ (t : Nat) v, vs[t]? = some v → (start N vs)[0 + t]? = some (some v) := fun t v h => by
    rw [Nat.zero_add]
    exact start_get h
  have st' : ∀ (t : Nat) v, vs[t]? = some v → (start N vs)[t]? = some (some v) := fun t v h => start_get h
  have outs : ∀ {e1 : Fm} {σ : St} {H' G' : Hp} {o : List (List D)}, Rl KZ F G' H' (start N vs) σ e1 → outsF fl 0 e1 = some o → OutsOk KZ G' H' vs as o ∧ ∀ (t : Nat) (ds : List D), as[t]? = some (.io ds) → ∃ es, e1[t]? = some (.own true es) := fun {e1 σ H' G' o} l q => by
    obtain ⟨h1, h2⟩ := outs_all l 0 hf hlen st q
    refine ⟨h1, fun t ds h => ?_⟩
    obtain ⟨es, h3⟩ := h2 t ds h
    rw [Nat.zero_add] at h3
    exact ⟨es, h3⟩
  cases r with
  | bad => exact hp
  | rz x e1 =>
    have hp : CPost X.mg KZ F G vs as Q E (match outsF fl 0 e1 with
      | some outs => .rz x outs
      | none => .bad) := hp
    cases q : outsF fl 0 e1 with
    | none => rw [q] at hp; exact hp.elim
    | some o =>
      rw [q] at hp
      exact fun cls dd σ H' G' s l xo => hp cls dd H' G' s l.g l.f l.fg xo (outs l q).1
  | ok v e1 =>
    cases v with
    | fl f =>
      cases f with
      | nx =>
        have hp : CPost X.mg KZ F G vs as Q E (match outsF fl 0 e1 with
          | some outs => .ok (.v .none) outs
          | none => .bad) := hp
        cases q : outsF fl 0 e1 with
        | none => rw [q] at hp; exact hp.elim
        | some o =>
          rw [q] at hp
          exact fun σ H' G' s l => hp .non H' G' s l.g l.f l.fg .non (outs l q).1
      | ret r =>
        cases r with
        | v d =>
          have hp : CPost X.mg KZ F G vs as Q E (match outsF fl 0 e1 with
            | some outs => .ok (.v d) outs
            | none => .bad) := hp
          cases q : outsF fl 0 e1 with
          | none => rw [q] at hp; exact hp.elim
          | some o =>
            rw [q] at hp
            exact fun σ u H' G' s l r => hp u H' G' s l.g l.f l.fg r (outs l q).1
        | o ds =>
          have hp : CPost X.mg KZ F G vs as Q E (match outsF fl 0 e1 with
            | some outs => .ok (.o ds) outs
            | none => .bad) := hp
          cases q : outsF fl 0 e1 with
          | none => rw [q] at hp; exact hp.elim
          | some o =>
            rw [q] at hp
            intro σ u H' G' s l r
            obtain ⟨a, us, rfl, h1, h2, h3, h4, h5⟩ := r
            obtain ⟨h6, h7⟩ := outs l q
            exact hp _ H' G' s l.g l.f l.fg ⟨a, us, rfl, h1, h2, h3, notIo_of l st' h7 h4, h5⟩ h6
        | b i => exact hp.elim
      | _ => exact hp.elim
    | _ => exact hp.elim
end
end L2.Mp
set_option Elab.async false
set_option linter.all false
set_option maxRecDepth 100000
set_option maxHeartbeats 4000000
namespace L2.Mp
open PySem PySem.Spec PyProof.Rows L2

/-! ### plain parameters -/
theorem si_none : seqItems? Value.none = pure none := rfl
section
variable {x qual : Str} {body : List Stmt} {scope : Scope} (kV doc pm : Value) (an : Option Addr) (cdv ct : Value)
theorem bp0 : bindArgs (PySem.W.fnOf x qual ⟨[], [], none, [], [], none, []⟩ body scope .none kV doc pm an cdv ct) ⟨[], []⟩ = pure [] := by
  unfold bindArgs PySem.W.fnOf
  simp only [si_none, List.map, List.nil_append, List.zip, List.zipWith, List.lookup, List.forIn_nil, pure_bind, List.length, Option.getD, List.append_nil]
  simp [List.lookup, List.filterMap]
theorem bp1 {a0 : PySem.Arg} {u0 : Value} : bindArgs (PySem.W.fnOf x qual ⟨[], [a0], none, [], [], none, []⟩ body scope .none kV doc pm an cdv ct) ⟨[u0], []⟩ = pure [(a0.arg, u0)] := by
  have e0 : (a0.arg == a0.arg) = true := beq_self_eq_true _
  unfold bindArgs PySem.W.fnOf
  simp only [si_none, List.map, List.nil_append, List.zip, List.zipWith, List.lookup, List.forIn_nil, pure_bind, List.length, Option.getD, List.append_nil, e0]
  simp [List.lookup, List.filterMap, e0]
theorem bp2 {a0 a1 : PySem.Arg} {u0 u1 : Value} (h10 : (a1.arg == a0.arg) = false) : bindArgs (PySem.W.fnOf x qual ⟨[], [a0, a1], none, [], [], none, []⟩ body scope .none kV doc pm an cdv ct) ⟨[u0, u1], []⟩ = pure [(a0.arg, u0), (a1.arg, u1)] := by
  have e0 : (a0.arg == a0.arg) = true := beq_self_eq_true _
  have e1 : (a1.arg == a1.arg) = true := beq_self_eq_true _
  unfold bindArgs PySem.W.fnOf
  simp only [si_none, List.map, List.nil_append, List.zip, List.zipWith, List.lookup, List.forIn_nil, pure_bind, List.length, Option.getD, List.append_nil, h10, e0, e1]
  simp [List.lookup, List.filterMap, h10, e0, e1]
theorem bp3 {a0 a1 a2 : PySem.Arg} {u0 u1 u2 : Value} (h10 : (a1.arg == a0.arg) = false) (h20 : (a2.arg == a0.arg) = false) (h21 : (a2.arg == a1.arg) = false) : bindArgs (PySem.W.fnOf x qual ⟨[], [a0, a1, a2], none, [], [], none, []⟩ body scope .none kV doc pm an cdv ct) ⟨[u0, u1, u2], []⟩ = pure [(a0.arg, u0), (a1.arg, u1), (a2.arg, u2)] := by
  have e0 : (a0.arg == a0.arg) = true := beq_self_eq_true _
  have e1 : (a1.arg == a1.arg) = true := beq_self_eq_true _
  have e2 : (a2.arg == a2.arg) = true := beq_self_eq_true _
  unfold bindArgs PySem.W.fnOf
  simp only [si_none, List.map, List.nil_append, List.zip, List.zipWith, List.lookup, List.forIn_nil, pure_bind, List.length, Option.getD, List.append_nil, h10, h20, h21, e0, e1, e2]
  simp [List.lookup, List.filterMap, h10, h20, h21, e0, e1, e2]
theorem bp4 {a0 a1 a2 a3 : PySem.Arg} {u0 u1 u2 u3 : Value} (h10 : (a1.arg == a0.arg) = false) (h20 : (a2.arg == a0.arg) = false) (h21 : (a2.arg == a1.arg) = false) (h30 : (a3.arg == a0.arg) = false) (h31 : (a3.arg == a1.arg) = false) (h32 : (a3.arg == a2.arg) = false) : bindArgs (PySem.W.fnOf x qual ⟨[], [a0, a1, a2, a3], none, [], [], none, []⟩ body scope .none kV doc pm an cdv ct) ⟨[u0, u1, u2, u3], []⟩ = pure [(a0.arg, u0), (a1.arg, u1), (a2.arg, u2), (a3.arg, u3)] := by
  have e0 : (a0.arg == a0.arg) = true := beq_self_eq_true _
  have e1 : (a1.arg == a1.arg) = true := beq_self_eq_true _
  have e2 : (a2.arg == a2.arg) = true := beq_self_eq_true _
  have e3 : (a3.arg == a3.arg) = true := beq_self_eq_true _
  unfold bindArgs PySem.W.fnOf
  simp only [si_none, List.map, List.nil_append, List.zip, List.zipWith, List.lookup, List.forIn_nil, pure_bind, List.length, Option.getD, List.append_nil, h10, h20, h21, h30, h31, h32, e0, e1, e2, e3]
  simp [List.lookup, List.filterMap, h10, h20, h21, h30, h31, h32, e0, e1, e2, e3]
theorem bp5 {a0 a1 a2 a3 a4 : PySem.Arg} {u0 u1 u2 u3 u4 : Value} (h10 : (a1.arg == a0.arg) = false) (h20 : (a2.arg == a0.arg) = false) (h21 : (a2.arg == a1.arg) = false) (h30 : (a3.arg == a0.arg) = false) (h31 : (a3.arg == a1.arg) = false) (h32 : (a3.arg == a2.arg) = false) (h40 : (a4.arg == a0.arg) = false) (h41 : (a4.arg == a1.arg) = false) (h42 : (a4.arg == a2.arg) = false) (h43 : (a4.arg == a3.arg) = false) : bindArgs (PySem.W.fnOf x qual ⟨[], [a0, a1, a2, a3, a4], none, [], [], none, []⟩ body scope .none kV doc pm an cdv ct) ⟨[u0, u1, u2, u3, u4], []⟩ = pure [(a0.arg, u0), (a1.arg, u1), (a2.arg, u2), (a3.arg, u3), (a4.arg, u4)] := by
  have e0 : (a0.arg == a0.arg) = true := beq_self_eq_true _
  have e1 : (a1.arg == a1.arg) = true := beq_self_eq_true _
  have e2 : (a2.arg == a2.arg) = true := beq_self_eq_true _
  have e3 : (a3.arg == a3.arg) = true := beq_self_eq_true _
  have e4 : (a4.arg == a4.arg) = true := beq_self_eq_true _
  unfold bindArgs PySem.W.fnOf
  simp only [si_none, List.map, List.nil_append, List.zip, List.zipWith, List.lookup, List.forIn_nil, pure_bind, List.length, Option.getD, List.append_nil, h10, h20, h21, h30, h31, h32, h40, h41, h42, h43, e0, e1, e2, e3, e4]
  simp [List.lookup, List.filterMap, h10, h20, h21, h30, h31, h32, h40, h41, h42, h43, e0, e1, e2, e3, e4]
theorem bp6 {a0 a1 a2 a3 a4 a5 : PySem.Arg} {u0 u1 u2 u3 u4 u5 : Value} (h10 : (a1.arg == a0.arg) = false) (h20 : (a2.arg == a0.arg) = false) (h21 : (a2.arg == a1.arg) = false) (h30 : (a3.arg == a0.arg) = false) (h31 : (a3.arg == a1.arg) = false) (h32 : (a3.arg == a2.arg) = false) (h40 : (a4.arg == a0.arg) = false) (h41 : (a4.arg == a1.arg) = false) (h42 : (a4.arg == a2.arg) = false) (h43 : (a4.arg == a3.arg) = false) (h50 : (a5.arg == a0.arg) = false) (h51 : (a5.arg == a1.arg) = false) (h52 : (a5.arg == a2.arg) = false) (h53 : (a5.arg == a3.arg) = false) (h54 : (a5.arg == a4.arg) = false) : bindArgs (PySem.W.fnOf x qual ⟨[], [a0, a1, a2, a3, a4, a5], none, [], [], none, []⟩ body scope .none kV doc pm an cdv ct) ⟨[u0, u1, u2, u3, u4, u5], []⟩ = pure [(a0.arg, u0), (a1.arg, u1), (a2.arg, u2), (a3.arg, u3), (a4.arg, u4), (a5.arg, u5)] := by
  have e0 : (a0.arg == a0.arg) = true := beq_self_eq_true _
  have e1 : (a1.arg == a1.arg) = true := beq_self_eq_true _
  have e2 : (a2.arg == a2.arg) = true := beq_self_eq_true _
  have e3 : (a3.arg == a3.arg) = true := beq_self_eq_true _
  have e4 : (a4.arg == a4.arg) = true := beq_self_eq_true _
  have e5 : (a5.arg == a5.arg) = true := beq_self_eq_true _
  unfold bindArgs PySem.W.fnOf
  simp only [si_none, List.map, List.nil_append, List.zip, List.zipWith, List.lookup, List.forIn_nil, pure_bind, List.length, Option.getD, List.append_nil, h10, h20, h21, h30, h31, h32, h40, h41, h42, h43, h50, h51, h52, h53, h54, e0, e1, e2, e3, e4, e5]
  simp [List.lookup, List.filterMap, h10, h20, h21, h30, h31, h32, h40, h41, h42, h43, h50, h51, h52, h53, h54, e0, e1, e2, e3, e4, e5]
theorem bp7 {a0 a1 a2 a3 a4 a5 a6 : PySem.Arg} {u0 u1 u2 u3 u4 u5 u6 : Value} (h10 : (a1.arg == a0.arg) = false) (h20 : (a2.arg == a0.arg) = false) (h21 : (a2.arg == a1.arg) = false) (h30 : (a3.arg == a0.arg) = false) (h31 : (a3.arg == a1.arg) = false) (h32 : (a3.arg == a2.arg) = false) (h40 : (a4.arg == a0.arg) = false) (h41 : (a4.arg == a1.arg) = false) (h42 : (a4.arg == a2.arg) = false) (h43 : (a4.arg == a3.arg) = false) (h50 : (a5.arg == a0.arg) = false) (h51 : (a5.arg == a1.arg) = false) (h52 : (a5.arg == a2.arg) = false) (h53 : (a5.arg == a3.arg) = false) (h54 : (a5.arg == a4.arg) = false) (h60 : (a6.arg == a0.arg) = false) (h61 : (a6.arg == a1.arg) = false) (h62 : (a6.arg == a2.arg) = false) (h63 : (a6.arg == a3.arg) = false) (h64 : (a6.arg == a4.arg) = false) (h65 : (a6.arg == a5.arg) = false) : bindArgs (PySem.W.fnOf x qual ⟨[], [a0, a1, a2, a3, a4, a5, a6], none, [], [], none, []⟩ body scope .none kV doc pm an cdv ct) ⟨[u0, u1, u2, u3, u4, u5, u6], []⟩ = pure [(a0.arg, u0), (a1.arg, u1), (a2.arg, u2), (a3.arg, u3), (a4.arg, u4), (a5.arg, u5), (a6.arg, u6)] := by
  have e0 : (a0.arg == a0.arg) = true := beq_self_eq_true _
  have e1 : (a1.arg == a1.arg) = true := beq_self_eq_true _
  have e2 : (a2.arg == a2.arg) = true := beq_self_eq_true _
  have e3 : (a3.arg == a3.arg) = true := beq_self_eq_true _
  have e4 : (a4.arg == a4.arg) = true := beq_self_eq_true _
  have e5 : (a5.arg == a5.arg) = true := beq_self_eq_true _
  have e6 : (a6.arg == a6.arg) = true := beq_self_eq_true _
  unfold bindArgs PySem.W.fnOf
  simp only [si_none, List.map, List.nil_append, List.zip, List.zipWith, List.lookup, List.forIn_nil, pure_bind, List.length, Option.getD, List.append_nil, h10, h20, h21, h30, h31, h32, h40, h41, h42, h43, h50, h51, h52, h53, h54, h60, h61, h62, h63, h64, h65, e0, e1, e2, e3, e4, e5, e6]
  simp [List.lookup, List.filterMap, h10, h20, h21, h30, h31, h32, h40, h41, h42, h43, h50, h51, h52, h53, h54, h60, h61, h62, h63, h64, h65, e0, e1, e2, e3, e4, e5, e6]
def plainPs (p : Arguments) (ps : List Str) : Bool := match p with
  | ⟨[], as, none, [], [], none, []⟩ => decide (as.map (·.arg) = ps) && decide (as.length ≤ 7) && decide ps.Nodup
  | _ => false
theorem nd_ne {l : List Str} (h : l.Nodup) {i j : Nat} {a b : Str} (ha : l[i]? = some a) (hb : l[j]? = some b) (hij : i < j) : (b == a) = false := by
  obtain ⟨h1, rfl⟩ := List.getElem?_eq_some_iff.mp ha
  obtain ⟨h2, rfl⟩ := List.getElem?_eq_some_iff.mp hb
  have := List.pairwise_iff_getElem.mp h i j h1 h2 hij
  simpa using Ne.symm this
theorem binds_plain {p : Arguments} {ps : List Str} (h : plainPs p ps = true) (us : List Value) (hl : us.length = ps.length) :
    bindArgs (PySem.W.fnOf x qual p body scope .none kV doc pm an cdv ct) ⟨us, []⟩ = pure (ps.zip us) := by
  unfold plainPs at h
  split at h
  case h_2 => cases h
  rename_i as
  simp only [Bool.and_eq_true, decide_eq_true_eq] at h
  obtain ⟨⟨rfl, h2⟩, nd⟩ := h
  rw [List.length_map] at hl
  match as, us, hl, h2, nd with
  | [], [], _, _, nd => exact bp0 kV doc pm an cdv ct 
  | [a0], [u0], _, _, nd => exact bp1 kV doc pm an cdv ct 
  | [a0, a1], [u0, u1], _, _, nd => exact bp2 kV doc pm an cdv ct (nd_ne nd (i := 0) (j := 1) rfl rfl (by decide))
  | [a0, a1, a2], [u0, u1, u2], _, _, nd => exact bp3 kV doc pm an cdv ct (nd_ne nd (i := 0) (j := 1) rfl rfl (by decide)) (nd_ne nd (i := 0) (j := 2) rfl rfl (by decide)) (nd_ne nd (i := 1) (j := 2) rfl rfl (by decide))
  | [a0, a1, a2, a3], [u0, u1, u2, u3], _, _, nd => exact bp4 kV doc pm an cdv ct (nd_ne nd (i := 0) (j := 1) rfl rfl (by decide)) (nd_ne nd (i := 0) (j := 2) rfl rfl (by decide)) (nd_ne nd (i := 1) (j := 2) rfl rfl (by decide)) (nd_ne nd (i := 0) (j := 3) rfl rfl (by decide)) (nd_ne nd (i := 1) (j := 3) rfl rfl (by decide)) (nd_ne nd (i := 2) (j := 3) rfl rfl (by decide))
  | [a0, a1, a2, a3, a4], [u0, u1, u2, u3, u4], _, _, nd => exact bp5 kV doc pm an cdv ct (nd_ne nd (i := 0) (j := 1) rfl rfl (by decide)) (nd_ne nd (i := 0) (j := 2) rfl rfl (by decide)) (nd_ne nd (i := 1) (j := 2) rfl rfl (by decide)) (nd_ne nd (i := 0) (j := 3) rfl rfl (by decide)) (nd_ne nd (i := 1) (j := 3) rfl rfl (by decide)) (nd_ne nd (i := 2) (j := 3) rfl rfl (by decide)) (nd_ne nd (i := 0) (j := 4) rfl rfl (by decide)) (nd_ne nd (i := 1) (j := 4) rfl rfl (by decide)) (nd_ne nd (i := 2) (j := 4) rfl rfl (by decide)) (nd_ne nd (i := 3) (j := 4) rfl rfl (by decide))
  | [a0, a1, a2, a3, a4, a5], [u0, u1, u2, u3, u4, u5], _, _, nd => exact bp6 kV doc pm an cdv ct (nd_ne nd (i := 0) (j := 1) rfl rfl (by decide)) (nd_ne nd (i := 0) (j := 2) rfl rfl (by decide)) (nd_ne nd (i := 1) (j := 2) rfl rfl (by decide)) (nd_ne nd (i := 0) (j := 3) rfl rfl (by decide)) (nd_ne nd (i := 1) (j := 3) rfl rfl (by decide)) (nd_ne nd (i := 2) (j := 3) rfl rfl (by decide)) (nd_ne nd (i := 0) (j := 4) rfl rfl (by decide)) (nd_ne nd (i := 1) (j := 4) rfl rfl (by decide)) (nd_ne nd (i := 2) (j := 4) rfl rfl (by decide)) (nd_ne nd (i := 3) (j := 4) rfl rfl (by decide)) (nd_ne nd (i := 0) (j := 5) rfl rfl (by decide)) (nd_ne nd (i := 1) (j := 5) rfl rfl (by decide)) (nd_ne nd (i := 2) (j := 5) rfl rfl (by decide)) (nd_ne nd (i := 3) (j := 5) rfl rfl (by decide)) (nd_ne nd (i := 4) (j := 5) rfl rfl (by decide))
  | [a0, a1, a2, a3, a4, a5, a6], [u0, u1, u2, u3, u4, u5, u6], _, _, nd => exact bp7 kV doc pm an cdv ct (nd_ne nd (i := 0) (j := 1) rfl rfl (by decide)) (nd_ne nd (i := 0) (j := 2) rfl rfl (by decide)) (nd_ne nd (i := 1) (j := 2) rfl rfl (by decide)) (nd_ne nd (i := 0) (j := 3) rfl rfl (by decide)) (nd_ne nd (i := 1) (j := 3) rfl rfl (by decide)) (nd_ne nd (i := 2) (j := 3) rfl rfl (by decide)) (nd_ne nd (i := 0) (j := 4) rfl rfl (by decide)) (nd_ne nd (i := 1) (j := 4) rfl rfl (by decide)) (nd_ne nd (i := 2) (j := 4) rfl rfl (by decide)) (nd_ne nd (i := 3) (j := 4) rfl rfl (by decide)) (nd_ne nd (i := 0) (j := 5) rfl rfl (by decide)) (nd_ne nd (i := 1) (j := 5) rfl rfl (by decide)) (nd_ne nd (i := 2) (j := 5) rfl rfl (by decide)) (nd_ne nd (i := 3) (j := 5) rfl rfl (by decide)) (nd_ne nd (i := 4) (j := 5) rfl rfl (by decide)) (nd_ne nd (i := 0) (j := 6) rfl rfl (by decide)) (nd_ne nd (i := 1) (j := 6) rfl rfl (by decide)) (nd_ne nd (i := 2) (j := 6) rfl rfl (by decide)) (nd_ne nd (i := 3) (j := 6) rfl rfl (by decide)) (nd_ne nd (i := 4) (j := 6) rfl rfl (by decide)) (nd_ne nd (i := 5) (j := 6) rfl rfl (by decide))
  | _ :: _ :: _ :: _ :: _ :: _ :: _ :: _ :: _, _, _, h2, _ => simp at h2
end
end L2.Mp
set_option Elab.async false
set_option linter.all false
set_option maxRecDepth 100000
set_option maxHeartbeats 4000000
namespace L2.Mp
open PySem PySem.Spec PyProof.Rows L2

/-! ### the head's hook, lists left out -/
def noLst (o : Obj) : Bool := match o.cls with
  | .type n => !(n == "list")
  | _ => true
def frN (g : Addr → Option Obj) (as : List Addr) : PySem.W.Frag := (He.frG g as).filter fun q => noLst q.2
theorem frN_mem {g : Addr → Option Obj} {as : List Addr} {a : Addr} {o : Obj} (h : (frN g as).lookup a = some o) : g a = some o ∧ noLst o = true := by
  obtain ⟨h1, h2⟩ := List.mem_filter.mp (He.lookup_mem h)
  exact ⟨He.frG_mem h1, h2⟩
def obsN (n : Nat) (fa : List He.Fa) (fn : List He.DefD) (g : Addr → Option Obj) : He.AlD := He.obsD fa fn (frN g (He.asD g n))
def NoLists (K : PySem.W.Frag) : Prop := ∀ a o, K.lookup a = some o → noLst o = true
def hookN (n : Nat) (fa : List He.Fa) (fn : List He.DefD) : PySem.W.Hook where
  α := He.AlD
  obs := fun s => obsN n fa fn s.heap.get?
  val := fun _ => He.valD fn
  says := fun _ h => ∃ K : PySem.W.Frag, K.In h ∧ NoLists K ∧ He.SaysD fa fn K
  of := fun _ _ e => ⟨_, fun _ _ z => (frN_mem z).1, fun _ _ z => (frN_mem z).2, e⟩
  keeps := fun _ _ _ ⟨K, hK, hn, c⟩ k => ⟨K, PySem.W.Frag.In.keeps hK k, hn, c⟩
theorem obsN_eq {n : Nat} {fa : List He.Fa} {fn : List He.DefD} {g : Addr → Option Obj} {s : Shared} (h : ∀ a, g a = s.heap.get? a) : obsN n fa fn g = (hookN n fa fn).obs s := by
  have e : g = s.heap.get? := funext h
  rw [e] <;> rfl
theorem rd_script {K : PySem.W.Frag} (hn : NoLists K) {H : Hp} {a : Addr} {xs : List V} (h : SqL K H a xs) : Rd H a (.lst xs) := by
  rcases h with h | ⟨o, its, n, h1, h2, _⟩
  · exact h
  · have := hn a o h1
    unfold noLst at this
    rw [h2] at this
    cases this

/-! ### the table -/
def hasGlo (fa : List He.Fa) (x : Str) : Bool := fa.any fun f => match f with
  | .glo y => decide (y = x)
  | _ => false
def hasFree (fa : List He.Fa) (x : Str) : Bool := fa.any fun f => match f with
  | .free y => decide (y = x)
  | _ => false
def hasInt (fa : List He.Fa) (x : Str) (i : Int) : Bool := fa.any fun f => match f with
  | .int y j => decide (y = x) && decide (j = i)
  | _ => false
def hasStr (fa : List He.Fa) (x z : Str) : Bool := fa.any fun f => match f with
  | .str y j => decide (y = x) && decide (j = z)
  | _ => false
theorem hasGlo_ok {fa : List He.Fa} {x : Str} (h : hasGlo fa x = true) : He.Fa.glo x ∈ fa := by
  obtain ⟨f, hf, h⟩ := List.any_eq_true.mp h
  cases f with
  | glo y => rw [← of_decide_eq_true h]; exact hf
  | _ => cases h
theorem hasFree_ok {fa : List He.Fa} {x : Str} (h : hasFree fa x = true) : He.Fa.free x ∈ fa := by
  obtain ⟨f, hf, h⟩ := List.any_eq_true.mp h
  cases f with
  | free y => rw [← of_decide_eq_true h]; exact hf
  | _ => cases h
theorem hasInt_ok {fa : List He.Fa} {x : Str} {i : Int} (h : hasInt fa x i = true) : He.Fa.int x i ∈ fa := by
  obtain ⟨f, hf, h⟩ := List.any_eq_true.mp h
  cases f with
  | int y j =>
    simp only [Bool.and_eq_true, decide_eq_true_eq] at h
    rw [← h.1, ← h.2]
    exact hf
  | _ => cases h
theorem hasStr_ok {fa : List He.Fa} {x z : Str} (h : hasStr fa x z = true) : He.Fa.str x z ∈ fa := by
  obtain ⟨f, hf, h⟩ := List.any_eq_true.mp h
  cases f with
  | str y j =>
    simp only [Bool.and_eq_true, decide_eq_true_eq] at h
    rw [← h.1, ← h.2]
    exact hf
  | _ => cases h
/-- values of the module's top that the table may read -/
def gloD (fa : List He.Fa) (p : Str × D) : Bool := match p.2 with
  | .int i => hasInt fa p.1 i
  | .str z => hasStr fa p.1 z
  | _ => false
def ctOf (tb : List Fn) (gl : List (Str × D)) (fr : List Str) (f : Fn) (sc : Scope) : Ct := ⟨tb.map fun g => (g.name, g.fl.length), gl, fr, f.ns, sc⟩
def scopeB (N P : List Str) (sc : Scope) : Bool := (match sc.kind with
    | .function => true
    | _ => false) && !sc.isCoroutine && !sc.isGenerator && decide N.Nodup && decide (N.take P.length = P) && (P.all fun x => locB sc x) && sc.names.all fun y => match y.2 with
    | .free => false
    | _ => true
theorem scope_ok {N P : List Str} {sc : Scope} (h : scopeB N P sc = true) : FnScope N P sc := by
  simp only [scopeB, Bool.and_eq_true, decide_eq_true_eq, Bool.not_eq_true', List.all_eq_true] at h
  obtain ⟨⟨⟨⟨⟨⟨h1, h2⟩, h3⟩, h4⟩, h5⟩, h6⟩, h7⟩ := h
  refine ⟨?_, h2, h3, h4, h5, fun x hx => ?_, fun y hy z => ?_⟩
  · split at h1
    · assumption
    · cases h1
  · have := h6 x hx
    unfold locB at this
    cases q : sc.names.lookup x with
    | none => rw [q] at this; cases this
    | some w =>
      rw [q] at this
      cases w with
      | «local» => exact .inl rfl
      | cell => exact .inr rfl
      | _ => cases this
  · have := h7 y hy
    rw [z] at this
    cases this
/-- one def of the table is a def of the text -/
def fnB (fn : List He.DefD) (tb : List Fn) (gl : List (Str × D)) (fr : List Str) (f : Fn) : Bool := match fn.find? (fun d => decide (d.name = f.name)) with
  | some d => decide (d.at_ = (f.name, none)) && d.dfl.isEmpty && d.kwd.isEmpty && plainPs d.params (f.ns.take f.np) && decide (f.np ≤ f.ns.length) && decide (f.fl.length = f.np) && scopeB f.ns (f.ns.take f.np) d.scope && chk f.body (ctOf tb gl fr f d.scope) (.b d.body)
  | none => false
def tabB (fa : List He.Fa) (fn : List He.DefD) (tb : List Fn) (gl : List (Str × D)) (fr : List Str) : Bool := (tb.all fun f => hasGlo fa f.name) && gl.all (gloD fa) && fr.all (hasFree fa) && tb.all (fnB fn tb gl fr) && tb.all fun f => match tb.find? (fun g => decide (g.name = f.name)) with
  | some g => decide (g.fl.length = f.fl.length)
  | none => false
section
variable {fa : List He.Fa} {fn : List He.DefD} {tb : List Fn} {gl : List (Str × D)} {fr : List Str} {P : Program} {w : World} {K : PySem.W.Frag} {mg : Str → Option Value} {base h : Heap}
theorem spF_len {cf : CF} {f : Str} {n : Nat} {vs : List V} {H : Hp} {Q : VK} {E : XK} (z : spF mg KZ cf f n vs H Q E) : vs.length = n := z.1
theorem fn_ok (c : He.SaysD fa fn K) {f : Fn} (hb : fnB fn tb gl fr f = true) (hf : tb.find? (fun g => decide (g.name = f.name)) = some f) :
    ∃ (fd : FuncData) (ps : List Str), ps = f.ns.take f.np ∧ ps.length = f.fl.length ∧ PySem.W.keepIn K (.ref (He.ga K f.name)) = true ∧ Binds K fd ps [] ∧ (∀ (s : Shared) (us : List Value), us.length = ps.length → BindsTo s fd ⟨us, []⟩ (ps.zip us)) ∧
      ∀ base k, (∀ j, j < k → GbOk P w K mg base (runF tb j) j (tb.map fun g => (g.name, g.fl.length)) gl fr) → FnOk P w K mg base (L2.CX P w) k (He.ga K f.name) fd ps (spF mg KZ (runF tb k) f.name f.fl.length) := by
  unfold fnB at hb
  cases q : fn.find? (fun d => decide (d.name = f.name)) with
  | none => rw [q] at hb; cases hb
  | some d =>
    rw [q] at hb
    simp only [Bool.and_eq_true, decide_eq_true_eq, List.isEmpty_iff] at hb
    obtain ⟨⟨⟨⟨⟨⟨⟨h1, h2⟩, h3⟩, h4⟩, h5⟩, h6⟩, h7⟩, h8⟩ := hb
    have dn : d.name = f.name := by simpa using List.find?_some q
    obtain ⟨fd, F⟩ := c.defs (List.mem_of_find?_eq_some q)
    have e1 : d.dvs K = [] := by unfold He.DefD.dvs; rw [h2]; rfl
    have e2 : d.kws K = [] := by unfold He.DefD.kws; rw [h3]; rfl
    have e3 : He.fAd K d.at_ = He.ga K f.name := by rw [h1]; rfl
    rw [e1, e2, e3, dn] at F
    have S := scope_ok h7
    have pl : (f.ns.take f.np).length = f.fl.length := by rw [List.length_take, h6]; omega
    refine ⟨fd, f.ns.take f.np, rfl, pl, F.kp, F.bindsN fun kV doc pm an cdv ct us hl => binds_plain kV doc pm an cdv ct h4 us hl, F.bindsA fun kV doc pm an cdv ct us hl => binds_plain kV doc pm an cdv ct h4 us hl, fun base k gb => ?_⟩
    cases k with
    | zero => exact ⟨fun vs H Q E z => (spF_len z).trans pl.symm, fun A outer s H args us vs Q E hr e0 hb r z => by
        obtain ⟨_, F', G', as, _, _, _, _, _, z⟩ := z
        exact z.elim⟩
    | succ k =>
      refine F.ok S (fun vs H Q E z => (spF_len z).trans pl.symm) fun cdv A outer s H vs Q E hr z => ⟨_, pss_w, ?_⟩
      obtain ⟨hl, F', G', as, g, ff, fg, pa, once, z⟩ := z
      have xo : XOk (ctOf tb gl fr f d.scope) (runF tb k) k (cxOf (L2.CX P w) P w K mg base f.ns d.qual d.scope (He.ga K f.name) cdv A outer s H E) := {
        N := rfl
        nd := S.nd
        calm := rfl
        room := hr
        kind := S.kind
        sc := fun x r hx => ⟨fun _ => hx, fun hfree => absurd hfree (S.nofree (x, r) (PySem.mem_of_lookup hx))⟩
        fnc := fun _ _ => rfl
        gb := gb k (Nat.lt_succ_self k) }
      have good := chk_ok (cf := runF tb k) (k := k) f.body _ _ h8
      have z2 : CPost mg KZ F' G' vs as Q E (match tb.find? (fun fn => decide (fn.name = f.name)) with
        | none => .bad
        | some fn => if argsFit fn.fl as then endF fn.fl (ev (runF tb k) fn.body (startF fn.ns.length as)) else .bad) := z
      rw [hf] at z2
      dsimp only at z2
      split at z2
      case isFalse => exact z2.elim
      rename_i hfit
      exact good _ xo (passes_of rfl) F' G' H (start f.ns vs) (start f.ns vs) (startF f.ns.length as) _ _ (takes_of rfl rfl rfl rfl) (rl_start g ff fg pa once) (end_ok (paired_len pa) hfit z2)
theorem table_ok (X : K.In h) (G : h.Ns mainGlobals mg) (c : He.SaysD fa fn K) (tab : tabB fa fn tb gl fr = true) : ∀ k, GbOk P w K mg base (runF tb k) k (tb.map fun g => (g.name, g.fl.length)) gl fr := by
  simp only [tabB, Bool.and_eq_true, List.all_eq_true] at tab
  obtain ⟨⟨⟨⟨t1, t2⟩, t3⟩, t4⟩, t5⟩ := tab
  intro k
  induction k using Nat.strongRecOn with
  | ind k ih =>
    refine ⟨fun f n hm => ?_, fun x d hl => ?_, fun x hx => He.free_ok X G (c.facts (hasFree_ok (t3 x hx)))⟩
    · obtain ⟨g, hg, e⟩ := List.mem_map.mp hm
      cases e
      have h5 := t5 g hg
      cases q : tb.find? (fun g' => decide (g'.name = g.name)) with
      | none => rw [q] at h5; cases h5
      | some g' =>
        rw [q] at h5
        have hn : g'.name = g.name := by simpa using List.find?_some q
        have hl : g'.fl.length = g.fl.length := of_decide_eq_true h5
        have hm' := List.mem_of_find?_eq_some q
        obtain ⟨fd, ps, _, k1, k2, k3, _, k4⟩ := fn_ok (P := P) (w := w) (mg := mg) c (t4 g' hm') (by rw [hn]; exact q)
        have k5 := k4 base k fun j hj => ih j hj
        rw [hn] at k2 k5
        rw [hl] at k1 k5
        exact ⟨_, fd, ps, k1, He.glo_ok X G (c.facts (hasGlo_ok (t1 g hg))), k2, k3, k5⟩
    · have := t2 (x, d) (PySem.mem_of_lookup hl)
      cases d with
      | int i =>
        obtain ⟨t, ht⟩ := He.int_ok X G (c.facts (hasInt_ok this))
        exact ⟨.int i, _, ht, ⟨t, rfl⟩, fun G => .int i⟩
      | str z =>
        obtain ⟨t, ht⟩ := He.str_ok X G (c.facts (hasStr_ok this))
        exact ⟨.str z, _, ht, ⟨t, rfl⟩, fun G => .str z⟩
      | _ => cases this
/-- the law's def answers as the table does -/
def spLaw (ok : List Int → Prop) : Sp := fun vs H Q _ => ∃ (a : Addr) (ns : List Int), vs = [.ref a] ∧ Rd H a (.lst (ns.map V.int)) ∧ Only H ∧ ok ns ∧ ∀ H', Q (.bl true) H'
theorem dps_ints {K : PySem.W.Frag} {G : Hp} : ∀ ns : List Int, DpAll K G (ns.map V.int) (ns.map .int)
  | [] => .nil
  | n :: ns => .cons (.int n) (dps_ints ns)
theorem cx0_of {base : Heap} {k : Nat} {f : Addr} {fd : FuncData} {ps : List Str} {ok : List Int → Prop} (F : FnOk P w K mg base (L2.CX P w) k f fd ps (spLaw ok)) : FnOk P w K mg base CX0 k f fd ps (spLaw ok) := by
  refine ⟨F.len, fun A outer s H args us vs Q E hr e0 hb r z => codeAny_mono (F.run A outer s H args us vs Q (fun _ _ _ => False) hr e0 hb r z) fun r s' hq => ?_⟩
  cases r with
  | ok fl => cases fl <;> exact hq
  | error e =>
    obtain ⟨_, _, _, _, _, _, _, _, _, _, _, _, z⟩ := hq
    exact z.elim
theorem law_ok (X : K.In h) (G : h.Ns mainGlobals mg) (nl : NoLists K) (c : He.SaysD fa fn K) (tab : tabB fa fn tb gl fr = true) {nm ar : Str} {f : Fn} (hf : tb.find? (fun g => decide (g.name = nm)) = some f) (hn : f.ns.take f.np = [ar]) {k m : Nat}
    (law : ∀ ns : List Int, ns.length ≤ m → runF tb k nm [.d (.list (ns.map .int))] = .ok (.v (.bool true)) []) {fa' : Addr} (hg : mg nm = some (.ref fa')) :
    ∃ (K : PySem.W.Frag) (fd : FuncData) (sp : Sp), K.In h ∧ (∀ (s : Shared) (v : Value), BindsTo s fd ⟨[v], []⟩ [(ar, v)]) ∧
      (∀ (H : Hp) (a : Addr) (ns : List Int), ns.length ≤ m → Only H → SqL K H a (ns.map V.int) → sp [.ref a] H (fun v _ => v = .bl true) fun _ _ _ => False) ∧
      ∀ base : Heap, K.In base → base.Ns mainGlobals mg → FnOk P w K mg base CX0 k fa' fd [ar] sp := by
  have tab' := tab
  simp only [tabB, Bool.and_eq_true, List.all_eq_true] at tab
  obtain ⟨⟨⟨⟨t1, t2⟩, t3⟩, t4⟩, t5⟩ := tab
  have fm := List.mem_of_find?_eq_some hf
  have fe : f.name = nm := by simpa using List.find?_some hf
  subst fe
  have e := hg.symm.trans (He.glo_ok X G (c.facts (hasGlo_ok (t1 f fm))))
  cases e
  obtain ⟨fd, ps, k0, k1, k2, k3, k3', k4⟩ := fn_ok (P := P) (w := w) (mg := mg) c (t4 f fm) hf
  rw [hn] at k0
  subst k0
  have e1 : f.fl.length = 1 := k1.symm
  refine ⟨K, fd, spLaw fun ns => ns.length ≤ m, X, fun s v => k3' s [v] rfl, fun H a ns hl ho hs => ⟨a, ns, rfl, rd_script nl hs, ho, hl, fun _ => rfl⟩, fun base _ _ => cx0_of ?_⟩
  have k5 := k4 base k fun j _ => table_ok X G c tab' j
  rw [e1] at k5
  refine k5.imp fun vs H Q E z => ?_
  obtain ⟨a, ns, rfl, hr, ho, hok, q⟩ := z
  refine ⟨rfl, fun _ => none, H, [.d (.list (ns.map .int))], Same.refl H, fun _ _ z => (nomatch z), fun _ _ _ => rfl, .cons (.lst (.inl hr) (dps_ints ns)) .nil, fun i j a ds es h1 => ?_, ?_⟩
  · cases i with
    | zero => cases h1
    | succ i => simp at h1
  · rw [law ns hok]
    intro v H' G' _ _ _ _ ro _
    cases ro
    exact q H'
end
end L2.Mp
set_option Elab.async false
set_option linter.all false
set_option maxRecDepth 100000
set_option maxHeartbeats 0
namespace L2.Mp
open PySem PySem.Spec PyProof.Rows L2
/-! ### the table of the defs (printed by a program of one's own) -/
def f_is_number : Fn := ⟨"is_number", ["thing"], 1, [false],
  (.seq (.ret (.and (.isi (.var 0) [.int]) (.one (.notT (.isi (.var 0) [.bool]))))) .done)⟩
def f_is_from : Fn := ⟨"is_from", ["thing", "least"], 2, [false, false],
  (.seq (.ret (.and (.call "is_number" [false] (.cons (.var 0) .nil)) (.one (.cmp .GtE (.var 0) (.var 1))))) .done)⟩
def c_tuple_of_0 : T := .comp (.call "tuple_of" [false] (.cons (.var 1) .nil)) (.tN 1) (.sSeq (.var 0)) .absent [1]
def f_tuple_of : Fn := ⟨"tuple_of", ["thing", "part"], 1, [false],
  (.seq (.ifS (.isi (.var 0) [.list, .tuple]) (.seq (.ret (.prim .tuple (.cons c_tuple_of_0 .nil))) .done) .done) (.seq (.ret (.var 0)) .done))⟩
def f_is_tuple_of : Fn := ⟨"is_tuple_of", ["thing", "many"], 2, [false, false],
  (.seq (.ret (.and (.isi (.var 0) [.tuple]) (.one (.cmp .Eq (.prim .len (.cons (.var 0) .nil)) (.var 1))))) .done)⟩
def f_sure : Fn := ⟨"sure", ["flag"], 1, [false],
  (.seq (.ifS (.notT (.var 0)) (.seq .never .done) .done) .done)⟩
def c_is_name_0 : T := .comp (.cmp .In (.var 1) (.glo "SMALL" (.str "abcdefghijklmnopqrstuvwxyz"))) (.tN 1) (.sStr (.var 0)) .absent [1]
def f_is_name : Fn := ⟨"is_name", ["thing", "sign"], 1, [false],
  (.seq (.ret (.and (.isi (.var 0) [.str]) (.and (.chain .LtE .LtE (.const (.int 1)) (.prim .len (.cons (.var 0) .nil)) (.glo "MOST_NAME" (.int 8))) (.one (.prim .all (.cons c_is_name_0 .nil)))))) .done)⟩
def c_is_term_0 : T := .comp (.call "is_term" [false] (.cons (.var 1) .nil)) (.tN 1) (.sSeq (.slc (.var 0) (.const (.int 1)) .absent)) .absent [1]
def f_is_term : Fn := ⟨"is_term", ["thing", "part"], 1, [false],
  (.seq (.ifS (.or (.notT (.isi (.var 0) [.tuple])) (.or (.notT (.chain .LtE .LtE (.const (.int 1)) (.prim .len (.cons (.var 0) .nil)) (.bin .Add (.glo "MOST_PARTS" (.int 3)) (.const (.int 1))))) (.one (.notT (.call "is_name" [false] (.cons (.idx (.var 0) (.const (.int 0))) .nil)))))) (.seq (.ret (.const (.bool false))) .done) .done) (.seq (.ret (.prim .all (.cons c_is_term_0 .nil))) .done))⟩
def c_made_size_0 : T := .comp (.call "made_size" [false] (.cons (.var 1) .nil)) (.tN 1) (.sSeq (.slc (.var 0) (.const (.int 1)) .absent)) .absent [1]
def f_made_size : Fn := ⟨"made_size", ["term", "part"], 1, [false],
  (.seq (.ret (.bin .Add (.const (.int 1)) (.prim .sum (.cons c_made_size_0 .nil)))) .done)⟩
def f_sure_term : Fn := ⟨"sure_term", ["term", "own"], 1, [false],
  (.seq (.asg (.tN 1) (.call "tuple_of" [false] (.cons (.var 0) .nil))) (.seq (.expr (.call "sure" [false] (.cons (.and (.call "is_term" [false] (.cons (.var 1) .nil)) (.one (.cmp .LtE (.call "made_size" [false] (.cons (.var 1) .nil)) (.glo "MOST_SIZE" (.int 12))))) .nil))) (.seq (.ret (.var 1)) .done)))⟩
def l_found_at_0 : T := .forS (.tN 2) (.sSeq (.var 1)) (.seq (.ifS (.cmp .GtE (.var 2) (.bin .Sub (.prim .len (.cons (.var 0) .nil)) (.const (.int 1)))) (.seq (.ret (.const .none)) .done) .done) (.seq (.asg (.tN 0) (.idx (.var 0) (.bin .Add (.var 2) (.const (.int 1))))) .done))
def f_found_at : Fn := ⟨"found_at", ["term", "place", "number"], 2, [false, false],
  (.seq l_found_at_0 (.seq (.ret (.var 0)) .done))⟩
def f_made_put : Fn := ⟨"made_put", ["term", "place", "other", "number"], 3, [false, false, false],
  (.seq (.ifS (.cmp .Eq (.var 1) (.tup .nil)) (.seq (.ret (.var 2)) .done) .done) (.seq (.asg (.tN 3) (.bin .Add (.idx (.var 1) (.const (.int 0))) (.const (.int 1)))) (.seq (.ret (.bin .Add (.bin .Add (.slc (.var 0) .absent (.var 3)) (.tup (.cons (.call "made_put" [false, false, false] (.cons (.idx (.var 0) (.var 3)) (.cons (.slc (.var 1) (.const (.int 1)) .absent) (.cons (.var 2) .nil)))) .nil))) (.slc (.var 0) (.bin .Add (.var 3) (.const (.int 1))) .absent))) .done)))⟩
def f_is_rule : Fn := ⟨"is_rule", ["thing"], 1, [false],
  (.seq (.ret (.and (.call "is_tuple_of" [false, false] (.cons (.var 0) (.cons (.const (.int 2)) .nil))) (.and (.call "is_term" [false] (.cons (.idx (.var 0) (.const (.int 0))) .nil)) (.and (.call "is_term" [false] (.cons (.idx (.var 0) (.const (.int 1))) .nil)) (.one (.cmp .NotEq (.idx (.var 0) (.const (.int 0))) (.idx (.var 0) (.const (.int 1))))))))) .done)⟩
def c_is_book_0 : T := .comp (.call "is_rule" [false] (.cons (.var 1) .nil)) (.tN 1) (.sSeq (.var 0)) .absent [1]
def f_is_book : Fn := ⟨"is_book", ["thing", "rule"], 1, [false],
  (.seq (.ret (.and (.isi (.var 0) [.tuple]) (.and (.cmp .LtE (.prim .len (.cons (.var 0) .nil)) (.glo "MOST_RULES" (.int 5))) (.one (.prim .all (.cons c_is_book_0 .nil)))))) .done)⟩
def c_is_low_0 : T := .comp2 (.cmp .LtE (.call "made_size" [false] (.cons (.var 2) .nil)) (.glo "MOST_SIDE" (.int 6))) (.tN 1) (.sSeq (.var 0)) .absent (.tN 2) (.sSeq (.var 1)) .absent [1, 2] [2]
def f_is_low : Fn := ⟨"is_low", ["book", "rule", "side"], 1, [false],
  (.seq (.ret (.prim .all (.cons c_is_low_0 .nil))) .done)⟩
def f_sure_book : Fn := ⟨"sure_book", ["book", "own"], 1, [false],
  (.seq (.asg (.tN 1) (.call "tuple_of" [false] (.cons (.var 0) .nil))) (.seq (.expr (.call "sure" [false] (.cons (.and (.call "is_book" [false] (.cons (.var 1) .nil)) (.one (.call "is_low" [false] (.cons (.var 1) .nil)))) .nil))) (.seq (.ret (.var 1)) .done)))⟩
def c_is_pair_0 : T := .comp (.call "is_from" [false, false] (.cons (.var 1) (.cons (.const (.int 0)) .nil))) (.tN 1) (.sSeq (.idx (.var 0) (.const (.int 0)))) .absent [1]
def f_is_pair : Fn := ⟨"is_pair", ["thing", "number"], 1, [false],
  (.seq (.ifS (.or (.notT (.call "is_tuple_of" [false, false] (.cons (.var 0) (.cons (.const (.int 2)) .nil)))) (.or (.notT (.isi (.idx (.var 0) (.const (.int 0))) [.tuple])) (.one (.notT (.call "is_from" [false, false] (.cons (.idx (.var 0) (.const (.int 1))) (.cons (.const (.int 0)) .nil))))))) (.seq (.ret (.const (.bool false))) .done) .done) (.seq (.ret (.prim .all (.cons c_is_pair_0 .nil))) .done))⟩
def c_sure_run_0 : T := .comp (.call "is_pair" [false] (.cons (.var 2) .nil)) (.tN 2) (.sSeq (.var 1)) .absent [2]
def f_sure_run : Fn := ⟨"sure_run", ["run", "own", "step"], 1, [false],
  (.seq (.asg (.tN 1) (.call "tuple_of" [false] (.cons (.var 0) .nil))) (.seq (.expr (.call "sure" [false] (.cons (.and (.isi (.var 1) [.tuple]) (.and (.cmp .LtE (.prim .len (.cons (.var 1) .nil)) (.glo "MOST_STEPS" (.int 60))) (.one (.prim .all (.cons c_sure_run_0 .nil))))) .nil))) (.seq (.ret (.var 1)) .done)))⟩
def f_made_after : Fn := ⟨"made_after", ["book", "term", "step", "place", "number"], 3, [false, false, false],
  (.seq (.asg (.tT (.cons (.tN 3) (.cons (.tN 4) .nil))) (.var 2)) (.seq (.ifS (.or (.cmp .GtE (.var 4) (.prim .len (.cons (.var 0) .nil))) (.one (.cmp .NotEq (.call "found_at" [false, false] (.cons (.var 1) (.cons (.var 3) .nil))) (.idx (.idx (.var 0) (.var 4)) (.const (.int 0)))))) (.seq (.ret (.const .none)) .done) .done) (.seq (.ret (.call "made_put" [false, false, false] (.cons (.var 1) (.cons (.var 3) (.cons (.idx (.idx (.var 0) (.var 4)) (.const (.int 1))) .nil))))) .done)))⟩
def l_made_along_0 : T := .forS (.tT (.cons (.tN 4) (.cons (.tN 5) .nil))) (.sEnum (.var 2)) (.seq (.asg (.tN 6) (.call "made_after" [false, false, false] (.cons (.var 0) (.cons (.idx (.var 3) (.neg (.const (.int 1)))) (.cons (.var 5) .nil))))) (.seq (.ifS (.cmp .Is (.var 6) (.const .none)) (.seq .never .done) .done) (.seq (.app 3 (.var 6)) .done)))
def f_made_along : Fn := ⟨"made_along", ["book", "one", "run", "found", "place", "step", "here"], 3, [false, false, false],
  (.seq (.asg (.tN 3) (.lst (.cons (.var 1) .nil))) (.seq l_made_along_0 (.seq (.ret (.var 3)) .done)))⟩
def f_terms_along : Fn := ⟨"terms_along", ["book", "one", "run", "own", "here"], 3, [false, false, false],
  (.seq (.par 3 4 (.call "sure_book" [false] (.cons (.var 0) .nil)) (.call "sure_term" [false] (.cons (.var 1) .nil))) (.seq (.ret (.call "made_along" [false, false, false] (.cons (.var 3) (.cons (.var 4) (.cons (.call "sure_run" [false] (.cons (.var 2) .nil)) .nil))))) .done))⟩
def f_end_of : Fn := ⟨"end_of", ["book", "one", "run"], 3, [false, false, false],
  (.seq (.ret (.idx (.call "terms_along" [false, false, false] (.cons (.var 0) (.cons (.var 1) (.cons (.var 2) .nil)))) (.neg (.const (.int 1))))) .done)⟩
def c_made_counts_0 : T := .comp (.var 3) (.tN 3) (.sSeq (.var 1)) (.cmp .Eq (.idx (.var 3) (.const (.int 1))) (.var 2)) [3]
def c_made_counts_1 : T := .comp (.prim .len (.cons c_made_counts_0 .nil)) (.tN 2) (.sR1 (.prim .len (.cons (.var 0) .nil))) .absent [2]
def f_made_counts : Fn := ⟨"made_counts", ["book", "run", "number", "step"], 2, [false, false],
  (.seq (.ret (.prim .tuple (.cons c_made_counts_1 .nil))) .done)⟩
def l_counts_of_0 : T := .forS (.tT (.cons (.tN 4) (.cons (.tN 5) .nil))) (.sEnum (.var 3)) (.seq (.ifS (.cmp .GtE (.idx (.var 5) (.const (.int 1))) (.prim .len (.cons (.var 2) .nil))) (.seq .never .done) .done) .done)
def f_counts_of : Fn := ⟨"counts_of", ["book", "run", "own", "steps", "place", "step"], 2, [false, false],
  (.seq (.par 2 3 (.call "sure_book" [false] (.cons (.var 0) .nil)) (.call "sure_run" [false] (.cons (.var 1) .nil))) (.seq l_counts_of_0 (.seq (.ret (.call "made_counts" [false, false] (.cons (.var 2) (.cons (.var 3) .nil)))) .done)))⟩
def l_leads_so_0 : T := .forS (.tN 5) (.sSeq (.var 3)) (.seq (.asg (.tN 4) (.call "made_after" [false, false, false] (.cons (.var 0) (.cons (.var 4) (.cons (.var 5) .nil))))) (.seq (.ifS (.cmp .Is (.var 4) (.const .none)) (.seq (.ret (.const (.bool false))) .done) .done) .done))
def c_leads_so_0 : T := .comp (.call "is_pair" [false] (.cons (.var 5) .nil)) (.tN 5) (.sSeq (.var 3)) .absent [5]
def f_leads_so : Fn := ⟨"leads_so", ["book", "one", "other", "thing", "here", "step"], 4, [false, false, false, false],
  (.seq (.ifS (.or (.notT (.isi (.var 3) [.tuple])) (.one (.notT (.prim .all (.cons c_leads_so_0 .nil))))) (.seq (.ret (.const (.bool false))) .done) .done) (.seq (.asg (.tN 4) (.var 1)) (.seq l_leads_so_0 (.seq (.ret (.cmp .Eq (.var 4) (.var 2))) .done))))⟩
def f_is_run : Fn := ⟨"is_run", ["book", "one", "other", "thing", "own", "near", "far"], 4, [false, false, false, false],
  (.seq (.asg (.tN 4) (.call "sure_book" [false] (.cons (.var 0) .nil))) (.seq (.par 5 6 (.call "sure_term" [false] (.cons (.var 1) .nil)) (.call "sure_term" [false] (.cons (.var 2) .nil))) (.seq (.ret (.call "leads_so" [false, false, false, false] (.cons (.var 4) (.cons (.var 5) (.cons (.var 6) (.cons (.var 3) .nil)))))) .done)))⟩
def c_added_0 : T := .comp (.bin .Add (.var 2) (.var 3)) (.tT (.cons (.tN 2) (.cons (.tN 3) .nil))) (.sZip (.var 0) (.var 1)) .absent [2, 3]
def f_added : Fn := ⟨"added", ["one", "other", "near", "far"], 2, [false, false],
  (.seq (.ret (.prim .tuple (.cons c_added_0 .nil))) .done)⟩
def c_has_form_0 : T := .comp (.call "has_form" [false] (.cons (.var 1) .nil)) (.tN 1) (.sSeq (.idx (.var 0) (.const (.int 2)))) .absent [1]
def f_has_form : Fn := ⟨"has_form", ["thing", "part"], 1, [false],
  (.seq (.ifS (.or (.notT (.isi (.var 0) [.tuple])) (.or (.cmp .Eq (.var 0) (.tup .nil)) (.one (.notT (.isi (.idx (.var 0) (.const (.int 0))) [.str]))))) (.seq (.ret (.const (.bool false))) .done) .done) (.seq (.ifS (.cmp .Eq (.idx (.var 0) (.const (.int 0))) (.glo "SAME" (.str "same"))) (.seq (.ret (.and (.cmp .Eq (.prim .len (.cons (.var 0) .nil)) (.const (.int 2))) (.one (.call "is_term" [false] (.cons (.idx (.var 0) (.const (.int 1))) .nil))))) .done) .done) (.seq (.ifS (.cmp .Eq (.idx (.var 0) (.const (.int 0))) (.glo "PARTS" (.str "parts"))) (.seq (.ifS (.or (.cmp .NotEq (.prim .len (.cons (.var 0) .nil)) (.const (.int 3))) (.or (.notT (.call "is_name" [false] (.cons (.idx (.var 0) (.const (.int 1))) .nil))) (.or (.notT (.isi (.idx (.var 0) (.const (.int 2))) [.tuple])) (.one (.cmp .Gt (.prim .len (.cons (.idx (.var 0) (.const (.int 2))) .nil)) (.glo "MOST_PARTS" (.int 3))))))) (.seq (.ret (.const (.bool false))) .done) .done) (.seq (.ret (.prim .all (.cons c_has_form_0 .nil))) .done)) .done) (.seq (.ifS (.or (.cmp .NotEq (.idx (.var 0) (.const (.int 0))) (.glo "BY" (.str "by"))) (.or (.notT (.call "is_tuple_of" [false, false] (.cons (.var 0) (.cons (.const (.int 4)) .nil)))) (.one (.notT (.call "is_from" [false, false] (.cons (.idx (.var 0) (.const (.int 1))) (.cons (.const (.int 0)) .nil))))))) (.seq (.ret (.const (.bool false))) .done) .done) (.seq (.ret (.and (.call "has_form" [false] (.cons (.idx (.var 0) (.const (.int 2))) .nil)) (.one (.call "has_form" [false] (.cons (.idx (.var 0) (.const (.int 3))) .nil))))) .done)))))⟩
def s_made_ends_0 : T := .ifS (.cmp .Eq (.idx (.var 1) (.const (.int 0))) (.glo "SAME" (.str "same"))) (.seq (.ret (.tup (.cons (.idx (.var 1) (.const (.int 1))) (.cons (.idx (.var 1) (.const (.int 1))) .nil)))) .done) .done
def c_made_ends_0 : T := .comp (.var 6) (.tT (.cons (.tN 6) (.cons (.tN 7) .nil))) (.sSeq (.var 2)) .absent [6, 7]
def c_made_ends_1 : T := .comp (.var 7) (.tT (.cons (.tN 6) (.cons (.tN 7) .nil))) (.sSeq (.var 2)) .absent [6, 7]
def c_made_ends_2 : T := .comp (.call "made_ends" [false, false] (.cons (.var 0) (.cons (.var 5) .nil))) (.tN 5) (.sSeq (.idx (.var 1) (.const (.int 2)))) .absent [5]
def s_made_ends_1 : T := .ifS (.cmp .Eq (.idx (.var 1) (.const (.int 0))) (.glo "PARTS" (.str "parts"))) (.seq (.asg (.tN 2) c_made_ends_2) (.seq (.ifS (.cmp .In (.const .none) (.var 2)) (.seq (.ret (.const .none)) .done) .done) (.seq (.ret (.tup (.cons (.bin .Add (.tup (.cons (.idx (.var 1) (.const (.int 1))) .nil)) (.prim .tuple (.cons c_made_ends_0 .nil))) (.cons (.bin .Add (.tup (.cons (.idx (.var 1) (.const (.int 1))) .nil)) (.prim .tuple (.cons c_made_ends_1 .nil))) .nil)))) .done))) .done
def s_made_ends_2 : T := .ifS (.cmp .GtE (.idx (.var 1) (.const (.int 1))) (.prim .len (.cons (.var 0) .nil))) (.seq (.ret (.const .none)) .done) .done
def s_made_ends_3 : T := .par 3 4 (.call "made_ends" [false, false] (.cons (.var 0) (.cons (.idx (.var 1) (.const (.int 2))) .nil))) (.call "made_ends" [false, false] (.cons (.var 0) (.cons (.idx (.var 1) (.const (.int 3))) .nil)))
def s_made_ends_4 : T := .ifS (.or (.cmp .Is (.var 3) (.const .none)) (.or (.cmp .Is (.var 4) (.const .none)) (.one (.cmp .NotEq (.tup (.cons (.idx (.var 3) (.const (.int 1))) (.cons (.idx (.var 4) (.const (.int 0))) .nil))) (.idx (.var 0) (.idx (.var 1) (.const (.int 1)))))))) (.seq (.ret (.const .none)) .done) .done
def s_made_ends_5 : T := .ret (.tup (.cons (.idx (.var 3) (.const (.int 0))) (.cons (.idx (.var 4) (.const (.int 1))) .nil)))
def f_made_ends : Fn := ⟨"made_ends", ["book", "own", "some", "ahead", "behind", "part", "near", "far"], 2, [false, false],
  (.seq s_made_ends_0 (.seq s_made_ends_1 (.seq s_made_ends_2 (.seq s_made_ends_3 (.seq s_made_ends_4 (.seq s_made_ends_5 .done))))))⟩
def f_sure_derivation : Fn := ⟨"sure_derivation", ["book", "derivation", "own"], 2, [false, false],
  (.seq (.asg (.tN 2) (.call "tuple_of" [false] (.cons (.var 1) .nil))) (.seq (.expr (.call "sure" [false] (.cons (.and (.call "has_form" [false] (.cons (.var 2) .nil)) (.one (.cmp .IsNot (.call "made_ends" [false, false] (.cons (.var 0) (.cons (.var 2) .nil))) (.const .none)))) .nil))) (.seq (.ret (.var 2)) .done)))⟩
def f_ends_of : Fn := ⟨"ends_of", ["book", "derivation", "own"], 2, [false, false],
  (.seq (.asg (.tN 2) (.call "sure_book" [false] (.cons (.var 0) .nil))) (.seq (.ret (.call "made_ends" [false, false] (.cons (.var 2) (.cons (.call "sure_derivation" [false, false] (.cons (.var 2) (.cons (.var 1) .nil))) .nil)))) .done))⟩
def c_unit_0 : T := .comp (.prim .int (.cons (.cmp .Eq (.var 2) (.var 1)) .nil)) (.tN 2) (.sR1 (.var 0)) .absent [2]
def f_unit : Fn := ⟨"unit", ["many", "number", "k"], 2, [false, false],
  (.seq (.ret (.prim .tuple (.cons c_unit_0 .nil))) .done)⟩
def l_made_in_0 : T := .forS (.tN 3) (.sSeq (.idx (.var 1) (.const (.int 2)))) (.seq (.asg (.tN 2) (.call "added" [false, false] (.cons (.var 2) (.cons (.call "made_in" [false, false] (.cons (.var 0) (.cons (.var 3) .nil))) .nil)))) .done)
def f_made_in : Fn := ⟨"made_in", ["book", "own", "found", "part"], 2, [false, false],
  (.seq (.asg (.tN 2) (.bin .Mult (.tup (.cons (.const (.int 0)) .nil)) (.prim .len (.cons (.var 0) .nil)))) (.seq (.ifS (.cmp .Eq (.idx (.var 1) (.const (.int 0))) (.glo "PARTS" (.str "parts"))) (.seq l_made_in_0 .done) (.seq (.ifS (.cmp .Eq (.idx (.var 1) (.const (.int 0))) (.glo "BY" (.str "by"))) (.seq (.asg (.tN 2) (.call "added" [false, false] (.cons (.call "unit" [false, false] (.cons (.prim .len (.cons (.var 0) .nil)) (.cons (.idx (.var 1) (.const (.int 1))) .nil))) (.cons (.call "added" [false, false] (.cons (.call "made_in" [false, false] (.cons (.var 0) (.cons (.idx (.var 1) (.const (.int 2))) .nil))) (.cons (.call "made_in" [false, false] (.cons (.var 0) (.cons (.idx (.var 1) (.const (.int 3))) .nil))) .nil))) .nil)))) .done) .done) .done)) (.seq (.ret (.var 2)) .done)))⟩
def f_counts_in : Fn := ⟨"counts_in", ["book", "derivation", "own"], 2, [false, false],
  (.seq (.asg (.tN 2) (.call "sure_book" [false] (.cons (.var 0) .nil))) (.seq (.ret (.call "made_in" [false, false] (.cons (.var 2) (.cons (.call "sure_derivation" [false, false] (.cons (.var 2) (.cons (.var 1) .nil))) .nil)))) .done))⟩
def c_made_run_0 : T := .comp (.tup (.cons (.bin .Add (.tup (.cons (.var 2) .nil)) (.var 4)) (.cons (.var 5) .nil))) (.tT (.cons (.tN 4) (.cons (.tN 5) .nil))) (.sSeq (.call "made_run" [false] (.cons (.var 3) .nil))) .absent [4, 5]
def l_made_run_0 : T := .forS (.tT (.cons (.tN 2) (.cons (.tN 3) .nil))) (.sEnum (.idx (.var 0) (.const (.int 2)))) (.seq (.ext 1 c_made_run_0) .done)
def f_made_run : Fn := ⟨"made_run", ["own", "found", "k", "part", "place", "number"], 1, [false],
  (.seq (.asg (.tN 1) (.lst .nil)) (.seq (.ifS (.cmp .Eq (.idx (.var 0) (.const (.int 0))) (.glo "PARTS" (.str "parts"))) (.seq l_made_run_0 .done) (.seq (.ifS (.cmp .Eq (.idx (.var 0) (.const (.int 0))) (.glo "BY" (.str "by"))) (.seq (.asg (.tN 1) (.bin .Add (.bin .Add (.call "made_run" [false] (.cons (.idx (.var 0) (.const (.int 2))) .nil)) (.lst (.cons (.tup (.cons (.tup .nil) (.cons (.idx (.var 0) (.const (.int 1))) .nil))) .nil))) (.call "made_run" [false] (.cons (.idx (.var 0) (.const (.int 3))) .nil)))) .done) .done) .done)) (.seq (.ret (.var 1)) .done)))⟩
def f_run_of : Fn := ⟨"run_of", ["book", "derivation", "own"], 2, [false, false],
  (.seq (.asg (.tN 2) (.call "sure_book" [false] (.cons (.var 0) .nil))) (.seq (.ret (.prim .tuple (.cons (.call "made_run" [false] (.cons (.call "sure_derivation" [false, false] (.cons (.var 2) (.cons (.var 1) .nil))) .nil)) .nil))) .done))⟩
def s_made_derivation_0 : T := .ifS (.cmp .Eq (.var 2) (.tup .nil)) (.seq (.ret (.tup (.cons (.glo "SAME" (.str "same")) (.cons (.var 1) .nil)))) .done) .done
def c_made_derivation_0 : T := .comp (.var 8) (.tT (.cons (.tN 8) (.cons (.tN 11) .nil))) (.sEnum (.var 2)) (.cmp .Eq (.idx (.var 11) (.const (.int 0))) (.tup .nil)) [8, 11]
def s_made_derivation_1 : T := .asg (.tN 3) c_made_derivation_0
def s_made_derivation_2 : T := .ifS (.cmp .NotEq (.var 3) (.lst .nil)) (.seq (.asg (.tN 5) (.idx (.var 3) (.const (.int 0)))) (.seq (.asg (.tN 6) (.idx (.idx (.var 2) (.var 5)) (.const (.int 1)))) (.seq (.asg (.tN 7) (.call "made_derivation" [false, false, false] (.cons (.var 0) (.cons (.var 1) (.cons (.slc (.var 2) .absent (.var 5)) .nil))))) (.seq (.ret (.tup (.cons (.glo "BY" (.str "by")) (.cons (.var 6) (.cons (.var 7) (.cons (.call "made_derivation" [false, false, false] (.cons (.var 0) (.cons (.idx (.idx (.var 0) (.var 6)) (.const (.int 1))) (.cons (.slc (.var 2) (.bin .Add (.var 5) (.const (.int 1))) .absent) .nil)))) .nil)))))) .done)))) .done
def s_made_derivation_3 : T := .asg (.tN 4) (.lst .nil)
def c_made_derivation_1 : T := .comp (.tup (.cons (.slc (.var 12) (.const (.int 1)) .absent) (.cons (.var 6) .nil))) (.tT (.cons (.tN 12) (.cons (.tN 6) .nil))) (.sSeq (.var 2)) (.cmp .Eq (.idx (.var 12) (.const (.int 0))) (.var 8)) [12, 6]
def l_made_derivation_0 : T := .forS (.tT (.cons (.tN 8) (.cons (.tN 9) .nil))) (.sEnum (.slc (.var 1) (.const (.int 1)) .absent)) (.seq (.asg (.tN 10) (.prim .tuple (.cons c_made_derivation_1 .nil))) (.seq (.app 4 (.call "made_derivation" [false, false, false] (.cons (.var 0) (.cons (.var 9) (.cons (.var 10) .nil))))) .done))
def s_made_derivation_4 : T := .ret (.tup (.cons (.glo "PARTS" (.str "parts")) (.cons (.idx (.var 1) (.const (.int 0))) (.cons (.prim .tuple (.cons (.var 4) .nil)) .nil))))
def f_made_derivation : Fn := ⟨"made_derivation", ["book", "one", "run", "whole", "found", "cut", "number", "ahead", "k", "part", "own", "step", "place"], 3, [false, false, false],
  (.seq s_made_derivation_0 (.seq s_made_derivation_1 (.seq s_made_derivation_2 (.seq s_made_derivation_3 (.seq l_made_derivation_0 (.seq s_made_derivation_4 .done))))))⟩
def f_derivation_of : Fn := ⟨"derivation_of", ["book", "one", "run", "steps", "own", "here"], 3, [false, false, false],
  (.seq (.par 4 5 (.call "sure_book" [false] (.cons (.var 0) .nil)) (.call "sure_term" [false] (.cons (.var 1) .nil))) (.seq (.asg (.tN 3) (.call "sure_run" [false] (.cons (.var 2) .nil))) (.seq (.expr (.call "made_along" [false, false, false] (.cons (.var 4) (.cons (.var 5) (.cons (.var 3) .nil))))) (.seq (.ret (.call "made_derivation" [false, false, false] (.cons (.var 4) (.cons (.var 5) (.cons (.var 3) .nil))))) .done))))⟩
def f_law_box : Fn := ⟨"_law_box", ["script", "k", "cell"], 2, [false, false],
  (.seq (.asg (.tN 2) (.ite (.cmp .Lt (.var 1) (.prim .len (.cons (.var 0) .nil))) (.idx (.var 0) (.var 1)) (.const (.int 0)))) (.seq (.ret (.lst (.cons (.bin .Mult (.prim .abs (.cons (.var 2) .nil)) (.prim .int (.cons (.cmp .GtE (.prim .abs (.cons (.var 2) .nil)) (.bin .Pow (.const (.int 10)) (.const (.int 18)))) .nil))) (.cons (.bin .Add (.bin .Add (.bin .Mod (.prim .int (.cons (.var 2) .nil)) (.const (.int 2305843009213693951))) (.bin .Mult (.const (.int 39373)) (.var 1))) (.const (.int 2631695))) (.cons (.const (.int 0)) .nil))))) .done))⟩
def s_law_take_0 : T := .ifS (.cmp .Gt (.idx (.var 0) (.const (.int 0))) (.const (.int 0))) (.seq (.asg (.tN 5) (.bin .Mod (.prim .int (.cons (.idx (.var 0) (.const (.int 0))) .nil)) (.var 1))) (.seq (.setIx 0 (.const (.int 0)) (.bin .FloorDiv (.idx (.var 0) (.const (.int 0))) (.var 1))) (.seq (.ret (.var 5)) .done))) .done
def s_law_take_1 : T := .setIx 0 (.const (.int 2)) (.bin .Add (.idx (.var 0) (.const (.int 2))) (.const (.int 1)))
def s_law_take_2 : T := .asg (.tN 2) (.bin .Mod (.prim .int (.cons (.bin .Mult (.bin .Add (.idx (.var 0) (.const (.int 1))) (.bin .Mult (.const (.int 48271)) (.idx (.var 0) (.const (.int 2))))) (.bin .Add (.const (.int 39373)) (.idx (.var 0) (.const (.int 2))))) .nil)) (.const (.int 2147483647)))
def s_law_take_3 : T := .asg (.tN 3) (.bin .Add (.bin .Mod (.prim .int (.cons (.var 2) .nil)) (.const (.int 40009))) (.const (.int 7)))
def s_law_take_4 : T := .asg (.tN 4) (.bin .Mod (.prim .int (.cons (.bin .Mult (.bin .Add (.bin .Add (.var 2) (.idx (.var 0) (.const (.int 2)))) (.bin .FloorDiv (.idx (.var 0) (.const (.int 1))) (.const (.int 1000003)))) (.var 3)) .nil)) (.const (.int 2147483629)))
def s_law_take_5 : T := .ret (.bin .Mod (.prim .int (.cons (.bin .FloorDiv (.bin .Mod (.prim .int (.cons (.bin .Add (.bin .Mult (.var 4) (.const (.int 48271))) (.var 2)) .nil)) (.const (.int 2147483587))) (.const (.int 64))) .nil)) (.var 1))
def f_law_take : Fn := ⟨"_law_take", ["box", "size_so", "once", "far", "twice", "drawn"], 2, [true, false],
  (.seq s_law_take_0 (.seq s_law_take_1 (.seq s_law_take_2 (.seq s_law_take_3 (.seq s_law_take_4 (.seq s_law_take_5 .done))))))⟩
def l_law_cells_0 : T := .forS (.tT (.cons (.tN 3) (.cons (.tN 4) .nil))) (.sEnum (.slc (.var 0) (.var 1) (.const (.int 63)))) (.seq (.asg (.tN 5) (.bin .Mod (.prim .int (.cons (.var 3) .nil)) (.var 1))) (.seq (.setIx 2 (.var 5) (.bin .Add (.idx (.var 2) (.var 5)) (.bin .Mult (.var 4) (.bin .Add (.var 3) (.const (.int 2)))))) .done))
def f_law_cells : Fn := ⟨"_law_cells", ["script", "top_so", "cells_so", "k", "cell", "at_so"], 2, [false, false],
  (.seq (.asg (.tN 2) (.or (.prim .list (.cons (.slc (.var 0) .absent (.var 1)) .nil)) (.one (.lst (.cons (.const (.int 0)) .nil))))) (.seq l_law_cells_0 (.seq (.ret (.var 2)) .done)))⟩
def c_law_same_0 : T := .comp (.call "_law_same" [false, false] (.cons (.var 2) (.cons (.var 3) .nil))) (.tT (.cons (.tN 2) (.cons (.tN 3) .nil))) (.sZip (.var 0) (.var 1)) .absent [2, 3]
def f_law_same : Fn := ⟨"_law_same", ["got", "due", "mine", "its"], 2, [false, false],
  (.seq (.ifS (.isi (.var 1) [.list, .tuple]) (.seq (.ifS (.or (.cmp .NotEq (.isi (.var 0) [.list]) (.isi (.var 1) [.list])) (.one (.cmp .NotEq (.isi (.var 0) [.tuple]) (.isi (.var 1) [.tuple])))) (.seq (.ret (.const (.bool false))) .done) .done) (.seq (.ret (.and (.cmp .Eq (.prim .len (.cons (.var 0) .nil)) (.prim .len (.cons (.var 1) .nil))) (.one (.prim .all (.cons c_law_same_0 .nil))))) .done)) .done) (.seq (.ifS (.or (.cmp .Is (.var 1) (.const .none)) (.one (.isi (.var 1) [.bool, .str]))) (.seq (.ret (.and (.cmp .Eq (.var 0) (.var 1)) (.and (.cmp .Eq (.isi (.var 0) [.bool]) (.isi (.var 1) [.bool])) (.one (.cmp .Eq (.cmp .Is (.var 0) (.const .none)) (.cmp .Is (.var 1) (.const .none))))))) .done) .done) (.seq (.ret (.and (.isi (.var 0) [.int]) (.and (.notT (.isi (.var 0) [.bool])) (.one (.cmp .Eq (.var 0) (.var 1)))))) .done)))⟩
def f_law_of : Fn := ⟨"_law_of", ["box", "pool_so"], 2, [true, false],
  (.seq (.ret (.idx (.var 1) (.call "_law_take" [true, false] (.cons (.var 0) (.cons (.prim .len (.cons (.var 1) .nil)) .nil))))) .done)⟩
def l_law_pick_0 : T := .forS (.tN 3) (.sR1 (.prim .min2 (.cons (.prim .int (.cons (.var 2) .nil)) (.cons (.prim .len (.cons (.var 4) .nil)) .nil)))) (.seq (.app 5 (.pop 4 (.call "_law_take" [true, false] (.cons (.var 0) (.cons (.prim .len (.cons (.var 4) .nil)) .nil))))) .done)
def f_law_pick : Fn := ⟨"_law_pick", ["box", "goods_so", "count_so", "turn", "pool_so", "found"], 3, [true, false, false],
  (.seq (.par 4 5 (.prim .list (.cons (.var 1) .nil)) (.lst .nil)) (.seq l_law_pick_0 (.seq (.ret (.var 5)) .done)))⟩
def l_law_mixed_0 : T := .forS (.tN 3) (.sR1 (.bin .Add (.prim .len (.cons (.var 1) .nil)) (.prim .len (.cons (.var 2) .nil)))) (.popE 5 4 (.or (.cmp .Eq (.var 2) (.lst .nil)) (.one (.and (.cmp .NotEq (.var 1) (.lst .nil)) (.one (.cmp .Eq (.call "_law_take" [true, false] (.cons (.var 0) (.cons (.const (.int 2)) .nil))) (.const (.int 0))))))) 1 2 .done)
def f_law_mixed : Fn := ⟨"_law_mixed", ["box", "one", "other", "turn", "found", "take"], 3, [true, false, false],
  (.seq (.par3 4 1 2 (.lst .nil) (.prim .list (.cons (.var 1) .nil)) (.prim .list (.cons (.var 2) .nil))) (.seq l_law_mixed_0 (.seq (.ret (.prim .tuple (.cons (.var 4) .nil))) .done)))⟩
def s_law_right_0 : T := .asg (.tT (.cons (.tN 15) (.cons (.tN 16) (.cons (.tN 17) (.cons (.tN 18) .nil))))) (.tup (.cons (.tup (.cons (.const (.str "a")) .nil)) (.cons (.tup (.cons (.const (.str "b")) .nil)) (.cons (.tup (.cons (.const (.str "c")) .nil)) (.cons (.tup (.cons (.const (.str "d")) .nil)) .nil)))))
def s_law_right_1 : T := .asg (.tN 1) (.ite (.cmp .Eq (.call "_law_take" [true, false] (.cons (.var 0) (.cons (.const (.int 2)) .nil))) (.const (.int 0))) (.tup (.cons (.tup (.cons (.var 15) (.cons (.var 16) .nil))) (.cons (.tup (.cons (.var 16) (.cons (.tup (.cons (.const (.str "e")) .nil)) .nil))) (.cons (.tup (.cons (.tup (.cons (.const (.str "e")) .nil)) (.cons (.var 15) .nil))) (.cons (.tup (.cons (.var 17) (.cons (.var 18) .nil))) (.cons (.tup (.cons (.var 18) (.cons (.var 17) .nil))) .nil)))))) (.tup (.cons (.tup (.cons (.var 15) (.cons (.var 16) .nil))) (.cons (.tup (.cons (.var 16) (.cons (.var 15) .nil))) (.cons (.tup (.cons (.var 17) (.cons (.var 18) .nil))) (.cons (.tup (.cons (.var 18) (.cons (.var 17) .nil))) (.cons (.tup (.cons (.tup (.cons (.const (.str "f")) (.cons (.var 16) (.cons (.var 18) .nil)))) (.cons (.tup (.cons (.const (.str "f")) (.cons (.var 17) (.cons (.var 15) .nil)))) .nil))) .nil)))))))
def s_law_right_2 : T := .asg (.tN 2) (.cmp .Eq (.prim .len (.cons (.idx (.idx (.var 1) (.const (.int 4))) (.const (.int 0))) .nil)) (.const (.int 3)))
def s_law_right_3 : T := .asg (.tN 3) (.call "_law_take" [true, false] (.cons (.var 0) (.cons (.const (.int 3)) .nil)))
def s_law_right_4 : T := .par 25 26 (.call "_law_take" [true, false] (.cons (.var 0) (.cons (.const (.int 20)) .nil))) (.call "_law_take" [true, false] (.cons (.var 0) (.cons (.const (.int 20)) .nil)))
def c_law_right_0 : T := .comp (.tup (.cons (.tup (.cons (.const (.int 0)) .nil)) (.cons (.bin .Sub (.var 24) (.bin .Mult (.bin .FloorDiv (.var 24) (.const (.int 3))) (.const (.int 3)))) .nil))) (.tN 24) (.sR1 (.var 25)) .absent [24]
def s_law_right_5 : T := .asg (.tN 19) c_law_right_0
def c_law_right_1 : T := .comp (.tup (.cons (.tup (.cons (.const (.int 1)) .nil)) (.cons (.bin .Sub (.bin .Add (.const (.int 3)) (.var 24)) (.bin .Mult (.bin .FloorDiv (.var 24) (.const (.int 2))) (.const (.int 2)))) .nil))) (.tN 24) (.sR1 (.var 26)) .absent [24]
def s_law_right_6 : T := .asg (.tN 20) c_law_right_1
def s_law_right_7 : T := .asg (.tN 21) (.tup (.cons (.const (.str "f")) (.cons (.var 15) (.cons (.var 17) .nil))))
def s_law_right_8 : T := .asg (.tN 22) (.tup (.cons (.const (.str "f")) (.cons (.idx (.lst (.cons (.var 15) (.cons (.var 16) (.cons (.tup (.cons (.const (.str "e")) .nil)) .nil)))) (.bin .Sub (.var 25) (.bin .Mult (.bin .FloorDiv (.var 25) (.const (.int 3))) (.const (.int 3))))) (.cons (.idx (.lst (.cons (.var 17) (.cons (.var 18) .nil))) (.bin .Sub (.var 26) (.bin .Mult (.bin .FloorDiv (.var 26) (.const (.int 2))) (.const (.int 2))))) .nil))))
def s_law_right_9 : T := .asg (.tN 23) (.call "_law_mixed" [true, false, false] (.cons (.var 0) (.cons (.var 19) (.cons (.var 20) .nil))))
def s_law_right_10 : T := .par 25 26 (.bin .Add (.const (.int 1)) (.bin .Mult (.const (.int 2)) (.call "_law_take" [true, false] (.cons (.var 0) (.cons (.const (.int 5)) .nil))))) (.bin .Add (.const (.int 1)) (.bin .Mult (.const (.int 2)) (.call "_law_take" [true, false] (.cons (.var 0) (.cons (.const (.int 5)) .nil)))))
def c_law_right_2 : T := .comp (.tup (.cons (.tup (.cons (.const (.int 0)) .nil)) (.cons (.bin .Sub (.var 24) (.bin .Mult (.bin .FloorDiv (.var 24) (.const (.int 2))) (.const (.int 2)))) .nil))) (.tN 24) (.sR1 (.var 25)) .absent [24]
def c_law_right_3 : T := .comp (.tup (.cons (.tup (.cons (.const (.int 1)) .nil)) (.cons (.bin .Sub (.bin .Add (.const (.int 2)) (.var 24)) (.bin .Mult (.bin .FloorDiv (.var 24) (.const (.int 2))) (.const (.int 2)))) .nil))) (.tN 24) (.sR1 (.var 26)) .absent [24]
def s_law_right_11 : T := .par 19 20 c_law_right_2 c_law_right_3
def s_law_right_12 : T := .par 27 28 (.call "_law_take" [true, false] (.cons (.var 0) (.cons (.const (.int 6)) .nil))) (.call "_law_take" [true, false] (.cons (.var 0) (.cons (.const (.int 6)) .nil)))
def c_law_right_4 : T := .comp (.tup (.cons (.tup (.cons (.const (.int 0)) .nil)) (.cons (.bin .Sub (.bin .Add (.const (.int 2)) (.var 24)) (.bin .Mult (.bin .FloorDiv (.var 24) (.const (.int 2))) (.const (.int 2)))) .nil))) (.tN 24) (.sR1 (.var 27)) .absent [24]
def c_law_right_5 : T := .comp (.tup (.cons (.tup (.cons (.const (.int 1)) .nil)) (.cons (.bin .Sub (.var 24) (.bin .Mult (.bin .FloorDiv (.var 24) (.const (.int 2))) (.const (.int 2)))) .nil))) (.tN 24) (.sR1 (.var 28)) .absent [24]
def s_law_right_13 : T := .par 29 30 c_law_right_4 c_law_right_5
def s_law_right_14 : T := .par 21 22 (.tup (.cons (.const (.str "f")) (.cons (.var 15) (.cons (.var 17) .nil)))) (.tup (.cons (.const (.str "f")) (.cons (.idx (.lst (.cons (.var 17) (.cons (.var 18) .nil))) (.bin .Sub (.var 27) (.bin .Mult (.bin .FloorDiv (.var 27) (.const (.int 2))) (.const (.int 2))))) (.cons (.idx (.lst (.cons (.var 15) (.cons (.var 16) .nil))) (.bin .Sub (.var 28) (.bin .Mult (.bin .FloorDiv (.var 28) (.const (.int 2))) (.const (.int 2))))) .nil))))
def s_law_right_15 : T := .asg (.tN 23) (.bin .Add (.bin .Add (.call "_law_mixed" [true, false, false] (.cons (.var 0) (.cons (.var 19) (.cons (.var 20) .nil)))) (.tup (.cons (.tup (.cons (.tup .nil) (.cons (.const (.int 4)) .nil))) .nil))) (.call "_law_mixed" [true, false, false] (.cons (.var 0) (.cons (.var 29) (.cons (.var 30) .nil)))))
def s_law_right_16 : T := .ifS (.notT (.var 2)) (.seq s_law_right_4 (.seq s_law_right_5 (.seq s_law_right_6 (.seq s_law_right_7 (.seq s_law_right_8 (.seq s_law_right_9 .done)))))) (.seq s_law_right_10 (.seq s_law_right_11 (.seq s_law_right_12 (.seq s_law_right_13 (.seq s_law_right_14 (.seq s_law_right_15 .done))))))
def l_law_right_0 : T := .forS (.tN 4) (.sR1 (.var 3)) (.seq (.par 21 22 (.tup (.cons (.const (.str "g")) (.cons (.var 21) .nil))) (.tup (.cons (.const (.str "g")) (.cons (.var 22) .nil)))) .done)
def s_law_right_17 : T := .asg (.tN 5) (.bin .Mult (.tup (.cons (.const (.int 0)) .nil)) (.var 3))
def c_law_right_6 : T := .comp (.tup (.cons (.bin .Add (.var 5) (.var 32)) (.cons (.var 24) .nil))) (.tT (.cons (.tN 32) (.cons (.tN 24) .nil))) (.sSeq (.var 23)) .absent [32, 24]
def s_law_right_18 : T := .asg (.tN 6) (.prim .tuple (.cons c_law_right_6 .nil))
def c_law_right_7 : T := .comp (.const (.int 1)) (.tT (.cons (.tN 32) (.cons (.tN 24) .nil))) (.sSeq (.var 6)) (.cmp .Eq (.var 24) (.var 31)) [32, 24]
def c_law_right_8 : T := .comp (.prim .len (.cons c_law_right_7 .nil)) (.tN 31) (.sR1 (.const (.int 5))) .absent [31]
def s_law_right_19 : T := .asg (.tN 7) (.prim .tuple (.cons c_law_right_8 .nil))
def s_law_right_20 : T := .asg (.tN 8) (.lst (.cons (.call "end_of" [false, false, false] (.cons (.var 1) (.cons (.var 21) (.cons (.var 6) .nil)))) (.cons (.call "is_run" [false, false, false, false] (.cons (.var 1) (.cons (.var 21) (.cons (.var 22) (.cons (.var 6) .nil))))) (.cons (.call "counts_of" [false, false] (.cons (.var 1) (.cons (.var 6) .nil))) .nil))))
def s_law_right_21 : T := .ifS (.notT (.call "_law_same" [false, false] (.cons (.var 8) (.cons (.lst (.cons (.var 22) (.cons (.const (.bool true)) (.cons (.var 7) .nil)))) .nil)))) (.seq (.ret (.const (.bool false))) .done) .done
def s_law_right_22 : T := .asg (.tN 9) (.call "derivation_of" [false, false, false] (.cons (.var 1) (.cons (.var 21) (.cons (.var 6) .nil))))
def s_law_right_23 : T := .asg (.tN 10) (.call "run_of" [false, false] (.cons (.var 1) (.cons (.var 9) .nil)))
def s_law_right_24 : T := .asg (.tN 8) (.lst (.cons (.call "ends_of" [false, false] (.cons (.var 1) (.cons (.var 9) .nil))) (.cons (.call "counts_in" [false, false] (.cons (.var 1) (.cons (.var 9) .nil))) (.cons (.prim .sorted (.cons (.var 10) .nil)) (.cons (.call "is_run" [false, false, false, false] (.cons (.var 1) (.cons (.var 21) (.cons (.var 22) (.cons (.var 10) .nil))))) .nil)))))
def s_law_right_25 : T := .ifS (.notT (.call "_law_same" [false, false] (.cons (.var 8) (.cons (.lst (.cons (.tup (.cons (.var 21) (.cons (.var 22) .nil))) (.cons (.var 7) (.cons (.prim .sorted (.cons (.var 6) .nil)) (.cons (.const (.bool true)) .nil))))) .nil)))) (.seq (.ret (.const (.bool false))) .done) .done
def c_law_right_9 : T := .comp (.var 24) (.tT (.cons (.tN 24) (.cons (.tN 33) .nil))) (.sEnum (.var 6)) (.and (.cmp .Eq (.idx (.var 33) (.const (.int 1))) (.const (.int 4))) (.one (.cmp .Eq (.idx (.var 33) (.const (.int 0))) (.var 5)))) [24, 33]
def s_law_right_26 : T := .asg (.tN 11) (.ite (.var 2) c_law_right_9 (.lst .nil))
def s_law_right_27 : T := .asg (.tN 12) (.ite (.cmp .NotEq (.var 11) (.lst .nil)) (.lst (.cons (.slc (.var 6) .absent (.idx (.var 11) (.const (.int 0)))) (.cons (.slc (.var 6) (.idx (.var 11) (.const (.int 0))) (.bin .Add (.idx (.var 11) (.const (.int 0))) (.const (.int 1)))) (.cons (.slc (.var 6) (.bin .Add (.idx (.var 11) (.const (.int 0))) (.const (.int 1))) .absent) .nil)))) (.lst (.cons (.var 6) .nil)))
def s_law_right_28 : T := .asg (.tN 13) (.tup .nil)
def c_law_right_10 : T := .comp (.var 33) (.tN 33) (.sSeq (.var 14)) (.cmp .Eq (.idx (.var 33) (.const (.int 0))) (.bin .Add (.var 5) (.tup (.cons (.var 24) .nil)))) [33]
def l_law_right_1 : T := .forS (.tN 24) (.sR1 (.const (.int 2))) (.seq (.asg (.tN 13) (.bin .Add (.var 13) (.prim .tuple (.cons c_law_right_10 .nil)))) .done)
def c_law_right_11 : T := .comp (.var 33) (.tN 33) (.sSeq (.var 14)) (.cmp .Eq (.idx (.var 33) (.const (.int 0))) (.var 5)) [33]
def l_law_right_2 : T := .forS (.tN 14) (.sSeq (.var 12)) (.seq (.asg (.tN 13) (.bin .Add (.var 13) (.prim .tuple (.cons c_law_right_11 .nil)))) (.seq l_law_right_1 .done))
def s_law_right_29 : T := .ret (.call "_law_same" [false, false] (.cons (.lst (.cons (.var 10) (.cons (.call "derivation_of" [false, false, false] (.cons (.var 1) (.cons (.var 21) (.cons (.var 13) .nil)))) .nil))) (.cons (.lst (.cons (.var 13) (.cons (.var 9) .nil))) .nil)))
def f_law_right : Fn := ⟨"_law_right", [("box" : Str), ("book" : Str), ("whole" : Str), ("deep" : Str), ("turn" : Str), ("ahead" : Str), ("run" : Str), ("counts" : Str), ("got" : Str), ("own" : Str), ("parted" : Str), ("cut" : Str), ("pieces" : Str), ("due" : Str), ("piece" : Str), ("a" : Str), ("b" : Str), ("c" : Str), ("d" : Str), ("one" : Str), ("other" : Str), ("start" : Str), ("end" : Str), ("mixed" : Str), ("k" : Str), ("near" : Str), ("far" : Str), ("last" : Str), ("more" : Str), ("back" : Str), ("forth" : Str), ("number" : Str), ("place" : Str), ("step" : Str)], 1, [true],
  (.seq s_law_right_0 (.seq s_law_right_1 (.seq s_law_right_2 (.seq s_law_right_3 (.seq s_law_right_16 (.seq l_law_right_0 (.seq s_law_right_17 (.seq s_law_right_18 (.seq s_law_right_19 (.seq s_law_right_20 (.seq s_law_right_21 (.seq s_law_right_22 (.seq s_law_right_23 (.seq s_law_right_24 (.seq s_law_right_25 (.seq s_law_right_26 (.seq s_law_right_27 (.seq s_law_right_28 (.seq l_law_right_2 (.seq s_law_right_29 .done))))))))))))))))))))⟩
def f_law : Fn := ⟨"law", ["script", "box"], 1, [false],
  (.seq (.asg (.tN 1) (.call "_law_box" [false, false] (.cons (.call "_law_cells" [false, false] (.cons (.var 0) (.cons (.const (.int 1)) .nil))) (.cons (.const (.int 0)) .nil)))) (.seq (.ret (.and (.call "_law_right" [true] (.cons (.var 1) .nil)) (.one (.call "_law_right" [true] (.cons (.var 1) .nil))))) .done))⟩
def tb : List Fn := [f_is_number, f_is_from, f_tuple_of, f_is_tuple_of, f_sure, f_is_name, f_is_term, f_made_size, f_sure_term, f_found_at, f_made_put, f_is_rule, f_is_book, f_is_low, f_sure_book, f_is_pair, f_sure_run, f_made_after, f_made_along, f_terms_along, f_end_of, f_made_counts, f_counts_of, f_leads_so, f_is_run, f_added, f_has_form, f_made_ends, f_sure_derivation, f_ends_of, f_unit, f_made_in, f_counts_in, f_made_run, f_run_of, f_made_derivation, f_derivation_of, f_law_box, f_law_take, f_law_cells, f_law_same, f_law_of, f_law_pick, f_law_mixed, f_law_right, f_law]
def gl : List (Str × D) := [("BY", (.str "by")), ("MOST_NAME", (.int 8)), ("MOST_PARTS", (.int 3)), ("MOST_RULES", (.int 5)), ("MOST_SIDE", (.int 6)), ("MOST_SIZE", (.int 12)), ("MOST_STEPS", (.int 60)), ("PARTS", (.str "parts")), ("SAME", (.str "same")), ("SMALL", (.str "abcdefghijklmnopqrstuvwxyz"))]
def fr : List Str := ["abs", "all", "bool", "enumerate", "int", "isinstance", "len", "list", "min", "range", "sorted", "str", "sum", "tuple", "zip"]
abbrev pw : PySem.Program := PySem.Challenge.pw_countsandfloors_k95_runs_in_two_parts_at
abbrev rw0 : PySem.W.OpenLaw := PySem.Challenge.rw_countsandfloors_k95_runs_in_two_parts_at
def dOf : Stmt → Option He.DefD
  | .FunctionDef (name := n) (args := a) (body := b) (scope := s) .. => some ⟨(n, none), n, n, a, b, s, [], []⟩
  | _ => none
def fn : List He.DefD := pw.main.body.filterMap dOf
def fa : List He.Fa := (fn.map fun d => .glo d.name) ++ fr.map .free ++ gl.filterMap fun p => match p.2 with
  | .int i => some (.int p.1 i)
  | .str z => some (.str p.1 z)
  | _ => none
theorem tab : tabB fa fn tb gl fr = true := by decide +kernel
/-! ### the head -/
abbrev R0 : PySem.W.OpenRow := PySem.W.OpenLaw.row rw0
abbrev hk : PySem.W.Hook := hookN 4 fa fn
def ob (s : PySem.W.SharedT) : He.AlD := obsN 4 fa fn (HandSHeadRun.getT s)
theorem ob_eq (s : PySem.W.SharedT) : ob s = hk.obs s.abs := obsN_eq (HandSHeadRun.getT_eq s)
def loose0 : List PySem.Str := ["Unfit", "NoStep", "is_number", "is_from", "tuple_of", "is_tuple_of", "sure", "SMALL", "MOST_NAME", "MOST_PARTS", "MOST_SIZE", "is_name", "is_term", "made_size", "sure_term", "found_at", "made_put", "MOST_RULES", "MOST_SIDE", "MOST_STEPS", "is_rule", "is_book", "is_low", "sure_book", "is_pair"]
def loose1 : List PySem.Str := ["sure_run", "made_after", "made_along", "terms_along", "end_of", "made_counts", "counts_of", "leads_so", "is_run", "added", "SAME", "PARTS", "BY", "has_form", "made_ends", "sure_derivation", "ends_of", "unit", "made_in", "counts_in", "made_run", "run_of", "made_derivation", "derivation_of", "_law_box"]
def loose2 : List PySem.Str := ["_law_take", "_law_cells", "_law_same", "_law_of", "_law_pick", "_law_mixed", "_law_right"]
abbrev loose : List PySem.Str := loose0 ++ loose1 ++ loose2
theorem run (w : World) : HandSHeadRun.RunEq R0 (PySem.W.view R0.prog [64]) hk ob 4000 loose w := by
  intro os
  kernel_rfl
/-- what is left to show: the table's law answers yes -/
def LawSays (k : Nat) : Prop := ∀ ns : List Int, ns.length ≤ 63 → runF tb k "law" [.d (.list (ns.map .int))] = .ok (.v (.bool true)) []
end L2.Mp
open PySem PySem.W PySem.Calls PyProof.Rows
theorem law_holds (k : Nat) (room : L2.Room k callerA) (says : L2.Mp.LawSays k) : L2.Mp.rw0.Holds := by
  w_on; o_law
  refine HandSHeadRun.head_any (r := OpenLaw.row L2.Mp.rw0) (q := view (OpenLaw.row L2.Mp.rw0).prog [64]) (H := L2.Mp.hk) (ob := L2.Mp.ob) (M := 4000) (loose := L2.Mp.loose) (d := HandSHeadRun.topDef (OpenLaw.row L2.Mp.rw0).prog 64) (kwd := []) L2.Mp.ob_eq
    (by kernel_rfl) (fun s => by kernel_rfl) L2.Mp.run (by kernel_rfl) (by kernel_rfl) (by kernel_rfl) (by rfl) (by first | assumption | decide +kernel) (by decide +kernel) ⟨rfl, rfl, rfl, rfl, rfl, by decide +kernel⟩ ?hw ?hc
  case hw => w_witness2
  case hc =>
    refine L2.walk_ofE (l := L2.Mp.rw0) (n := 63) (k := k) (x := "script") (CX := L2.CX0) rfl (by decide) (by kernel_rfl) room ?F (fun _ _ _ _ z => z)
    intro w mg fa h Y G hmg0
    obtain ⟨K, KX, nl, c⟩ := Y
    have hmg : mg ("law" : PySem.Str) = some (.ref fa) := by
      have e : (HandSHeadRun.topDef (OpenLaw.row L2.Mp.rw0).prog 64).name = ("law" : PySem.Str) := by kernel_rfl
      rw [← e]
      exact hmg0
    exact L2.Mp.law_ok KX G nl c L2.Mp.tab (nm := "law") (ar := "script") (f := L2.Mp.f_law) rfl rfl says hmg
set_option Elab.async false
set_option linter.all false
set_option maxRecDepth 100000
set_option maxHeartbeats 4000000
namespace L2.Mp
open PySem PySem.Spec PyProof.Rows L2
/-! ### plain laws of the evaluator -/
theorem wS_len : ∀ (vs : List Nat) (e : Fm), (wipeS vs e).length = e.length
  | [], _ => rfl
  | v :: vs, e => by
    show ((wipeS vs e).set v .no).length = _
    rw [List.length_set, wS_len vs e]
theorem wS_out {j : Nat} : ∀ {vs : List Nat} {e : Fm}, j ∉ vs → (wipeS vs e)[j]? = e[j]?
  | [], _, _ => rfl
  | v :: vs, e, h => by
    show ((wipeS vs e).set v .no)[j]? = _
    rw [List.getElem?_set_ne (fun z => h (by rw [z]; exact List.mem_cons_self)), wS_out fun z => h (List.mem_cons_of_mem _ z)]
theorem bS_len (e0 : Fm) : ∀ (vs : List Nat) (e : Fm), (backS e0 vs e).length = e.length
  | [], _ => rfl
  | v :: vs, e => by
    show ((backS e0 vs e).set v _).length = _
    rw [List.length_set, bS_len e0 vs e]
theorem bS_at {e0 : Fm} {j : Nat} : ∀ {vs : List Nat} {e : Fm}, e.length = e0.length → (backS e0 vs e)[j]? = if j ∈ vs then e0[j]? else e[j]?
  | [], e, _ => by simp [backS]
  | v :: vs, e, hl => by
    show ((backS e0 vs e).set v (e0.getD v .no))[j]? = _
    by_cases hv : v = j
    · subst hv
      rw [if_pos List.mem_cons_self]
      by_cases hb : v < e.length
      · rw [List.getElem?_set_self (by rw [bS_len]; exact hb), List.getD_eq_getElem?_getD, List.getElem?_eq_getElem (by omega)]
        rfl
      · rw [List.getElem?_eq_none (by rw [List.length_set, bS_len]; omega), List.getElem?_eq_none (by omega)]
    · rw [List.getElem?_set_ne hv, bS_at hl]
      by_cases hj : j ∈ vs
      · rw [if_pos hj, if_pos (List.mem_cons_of_mem _ hj)]
      · rw [if_neg hj, if_neg (fun z => by
          rcases List.mem_cons.mp z with z | z
          · exact hv z.symm
          · exact hj z)]
/-- brought back: as it was -/
theorem bS_back {e0 e : Fm} {vs : List Nat} (h : wipeS vs e = wipeS vs e0) : backS e0 vs e = e0 := by
  have hl : e.length = e0.length := by
    have := congrArg List.length h
    rw [wS_len, wS_len] at this
    exact this
  refine List.ext_getElem? fun j => ?_
  rw [bS_at hl]
  by_cases hj : j ∈ vs
  · rw [if_pos hj]
  · rw [if_neg hj, ← wS_out (vs := vs) (e := e) hj, h, wS_out hj]
def evC' (cf : CF) (t : T) (e : Fm) : R Bool := match t with
  | .absent => .ok true e
  | _ => testR (ev cf t e)
def stepD (cf : CF) (tg cond elt : T) (own : List Nat) : D → Fm → List D → R (List D) := fun d e acc => match bindT tg d (wipeS own e) with
  | none => .bad
  | some e3 => (evC' cf cond e3).bnd fun k e4 => if k = true then pushE acc (ev cf elt e4) else .ok acc e4
/-- a comprehension whose turns leave the rest of the frame alone: g gives an item or none -/
theorem cLoop_pure {α : Type} {enc : α → D} {cf : CF} {tg cond elt : T} {own : List Nat} {w : Fm} {g : α → Option D} : ∀ (xs : List α) (e : Fm) (acc : List D), wipeS own e = w → acc.length + xs.length ≤ LINE →
    (∀ x ∈ xs, ∃ e3, bindT tg (enc x) w = some e3 ∧ wipeS own e3 = w ∧ ((g x = none ∧ evC' cf cond e3 = .ok false e3) ∨ ∃ d r, g x = some d ∧ evC' cf cond e3 = .ok true e3 ∧ ev cf elt e3 = .ok (.rv r) e3 ∧ fz r e3 = some (d, e3))) →
    ∃ e', cLoop (stepD cf tg cond elt own) (xs.map enc) e acc = .ok (acc ++ xs.filterMap g) e' ∧ wipeS own e' = w
  | [], e, acc, hw, _, _ => ⟨e, by simp [cLoop], hw⟩
  | x :: xs, e, acc, hw, hl, h => by
    rw [List.length_cons] at hl
    obtain ⟨e3, h1, h2, h3⟩ := h x List.mem_cons_self
    have hr : ∀ y ∈ xs, _ := fun y hy => h y (List.mem_cons_of_mem _ hy)
    show ∃ e', (match stepD cf tg cond elt own (enc x) e acc with
      | .ok acc1 e1 => cLoop (stepD cf tg cond elt own) (xs.map enc) e1 acc1
      | _ => .bad) = R.ok (acc ++ (x :: xs).filterMap g) e' ∧ _
    have hs : stepD cf tg cond elt own (enc x) e acc = (evC' cf cond e3).bnd fun k e4 => if k = true then pushE acc (ev cf elt e4) else .ok acc e4 := by
      unfold stepD
      rw [hw, h1]
    rw [hs]
    rcases h3 with ⟨h3, h4⟩ | ⟨d, r, h3, h4, h5, h6⟩
    · rw [h4, List.filterMap_cons_none h3]
      exact cLoop_pure xs e3 acc h2 (by omega) hr
    · rw [h4, List.filterMap_cons_some h3]
      dsimp only [R.bnd]
      rw [if_pos rfl, h5]
      unfold pushE R.rv
      dsimp only
      rw [h6]
      dsimp only
      rw [if_pos (by omega)]
      dsimp only
      obtain ⟨e', q1, q2⟩ := cLoop_pure xs e3 (acc ++ [d]) h2 (by rw [List.length_append, List.length_singleton]; omega) hr
      refine ⟨e', ?_, q2⟩
      rw [q1, List.append_assoc]
      rfl
theorem ev_compD {cf : CF} {elt tg src cond : T} {own : List Nat} (e : Fm) : ev cf (.comp elt tg src cond own) e = (ev cf src e).dsk fun items e1 => if own.any (fun i => isOwnS e1[i]?) then .bad else
    (match cLoop (stepD cf tg cond elt own) items e1 [] with
    | .ok acc e5 => .ok (.rv (.o acc)) (backS e1 own e5)
    | _ => .bad) := rfl
theorem comp_fm {α : Type} {cf : CF} {elt tg src cond : T} {own : List Nat} {e e1 : Fm} {xs : List α} (enc : α → D) (g : α → Option D) (hs : ev cf src e = .ok (.ds (xs.map enc)) e1) (hl : xs.length ≤ LINE) (ho : own.any (fun i => isOwnS e1[i]?) = false)
    (h : ∀ x ∈ xs, ∃ e3, bindT tg (enc x) (wipeS own e1) = some e3 ∧ wipeS own e3 = wipeS own e1 ∧ ((g x = none ∧ evC' cf cond e3 = .ok false e3) ∨ ∃ d r, g x = some d ∧ evC' cf cond e3 = .ok true e3 ∧ ev cf elt e3 = .ok (.rv r) e3 ∧ fz r e3 = some (d, e3))) :
    ev cf (.comp elt tg src cond own) e = .ok (.rv (.o (xs.filterMap g))) e1 := by
  rw [ev_compD, hs]
  dsimp only [R.dsk]
  rw [ho, if_neg Bool.false_ne_true]
  obtain ⟨e', q1, q2⟩ := cLoop_pure (enc := enc) (cf := cf) (tg := tg) (cond := cond) (elt := elt) (own := own) (w := wipeS own e1) (g := g) xs e1 [] rfl (by simpa using hl) h
  rw [q1]
  dsimp only
  rw [bS_back q2, List.nil_append]
theorem comp_map {α : Type} {cf : CF} {elt tg src : T} {own : List Nat} {e e1 : Fm} {xs : List α} (enc : α → D) (g : α → D) (hs : ev cf src e = .ok (.ds (xs.map enc)) e1) (hl : xs.length ≤ LINE) (ho : own.any (fun i => isOwnS e1[i]?) = false)
    (h : ∀ x ∈ xs, ∃ e3 r, bindT tg (enc x) (wipeS own e1) = some e3 ∧ wipeS own e3 = wipeS own e1 ∧ ev cf elt e3 = .ok (.rv r) e3 ∧ fz r e3 = some (g x, e3)) :
    ev cf (.comp elt tg src .absent own) e = .ok (.rv (.o (xs.map g))) e1 := by
  rw [comp_fm enc (fun x => some (g x)) hs hl ho fun x hx => ?_]
  · rw [List.filterMap_eq_map']
  · obtain ⟨e3, r, h1, h2, h3, h4⟩ := h x hx
    exact ⟨e3, h1, h2, .inr ⟨g x, r, rfl, rfl, h3, h4⟩⟩
/-! ### what is walked, as a list of one's own -/
theorem zipF_enc {α β : Type} (f : α → D) (g : β → D) : ∀ (a : List α) (b : List β), zipF (a.map f) (b.map g) = (a.zip b).map fun p => .tuple [f p.1, g p.2]
  | [], _ => by simp [zipF]
  | _ :: _, [] => by simp [zipF]
  | x :: r, y :: s => by
    show PyData.tuple [f x, g y] :: zipF (r.map f) (s.map g) = _
    rw [zipF_enc f g r s]
    rfl
theorem iota_enc : ∀ (n : Nat) (lo : Int), iota lo n = (List.range n).map fun i => .int (lo + (i : Nat))
  | 0, _ => rfl
  | n + 1, lo => by
    show PyData.int lo :: iota (lo + 1) n = _
    rw [iota_enc n (lo + 1), List.range_succ_eq_map, List.map_cons, List.map_map]
    congr 1
    · simp
    · refine List.map_congr_left fun i _ => ?_
      show PyData.int _ = PyData.int _
      congr 1
      simp only [Function.comp, Nat.succ_eq_add_one, Int.natCast_add]
      omega
/-- a slot that is told, or not -/
def sl : Option D → Slot
  | none => .no
  | some d => .val d
/-- a loop whose turns turn a state -/
theorem fLoop_st {α β : Type} {enc : α → D} {step : D → Fm → R Val} (fr : β → Option D → Fm) (f : β → α → β) (I : Nat → β → Prop) (tot : Nat) : ∀ (xs : List α) (n : Nat) (b : β) (s : Option D), n + xs.length ≤ tot → I n b →
    (∀ n b x s, n < tot → x ∈ xs → I n b → I (n + 1) (f b x) ∧ step (enc x) (fr b s) = .ok (.fl .nx) (fr (f b x) (some (enc x)))) →
    ∃ s', fLoop step (xs.map enc) (fr b s) = .ok (.fl .nx) (fr (xs.foldl f b) s') ∧ I (n + xs.length) (xs.foldl f b)
  | [], n, b, s, _, hb, _ => ⟨s, rfl, hb⟩
  | x :: xs, n, b, s, hn, hb, h => by
    rw [List.length_cons] at hn
    obtain ⟨h1, h2⟩ := h n b x s (by omega) List.mem_cons_self hb
    obtain ⟨s', h3, h4⟩ := fLoop_st fr f I tot xs (n + 1) (f b x) (some (enc x)) (by omega) h1 fun n b y s hn hy => h n b y s hn (List.mem_cons_of_mem _ hy)
    refine ⟨s', ?_, ?_⟩
    · show (match step (enc x) (fr b s) with
        | .ok (.fl .nx) e1 => fLoop step (xs.map enc) e1
        | .ok (.fl .cont) e1 => fLoop step (xs.map enc) e1
        | .ok (.fl .brk) e1 => .ok (.fl .nx) e1
        | .ok (.fl (.ret r)) e1 => .ok (.fl (.ret r)) e1
        | .rz x e1 => .rz x e1
        | _ => .bad) = _
      rw [h2]
      exact h3
    · rw [List.length_cons, show n + (xs.length + 1) = n + 1 + xs.length by omega]
      exact h4
theorem nolist_row (r : List Int) : nolist (rowD r) = true := by
  show nolists (r.map .int) = true
  induction r with
  | nil => rfl
  | cons a r ih => exact ih
theorem nolists_rows (rs : List (List Int)) : nolists (rs.map rowD) = true := by
  induction rs with
  | nil => rfl
  | cons a r ih =>
    show (nolist (rowD a) && nolists (r.map rowD)) = true
    rw [nolist_row, ih]
    rfl
theorem dedI_const {m : Int} : ∀ (l acc : List Int), (∀ x ∈ l, x = m) → (acc = [] ∨ acc = [m]) → (l.foldl (fun acc n => if acc.any (· == n) then acc else acc ++ [n]) acc).length ≤ 1
  | [], acc, _, h => by rcases h with rfl | rfl <;> simp
  | x :: l, acc, hx, h => by
    rw [List.foldl_cons]
    refine dedI_const l _ (fun y hy => hx y (List.mem_cons_of_mem _ hy)) ?_
    have e := hx x List.mem_cons_self
    subst e
    rcases h with rfl | rfl
    · exact .inr rfl
    · simp
/-! ### data -/
theorem intsOf_map : ∀ ns : List Int, intsOf (ns.map .int) = some ns
  | [] => rfl
  | n :: ns => by
    show (intsOf (ns.map .int)).map (n :: ·) = _
    rw [intsOf_map ns]
    rfl
theorem boolsOf_map : ∀ ns : List Bool, boolsOf (ns.map .bool) = some ns
  | [] => rfl
  | n :: ns => by
    show (boolsOf (ns.map .bool)).map (n :: ·) = _
    rw [boolsOf_map ns]
    rfl
theorem rowsI_map : ∀ rs : List (List Int), rowsI (rs.map rowD) = some rs
  | [] => rfl
  | r :: rs => by
    show (match intsOf (r.map .int), rowsI (rs.map rowD) with
      | some is, some rs => some (is :: rs)
      | _, _ => none) = _
    rw [intsOf_map, rowsI_map rs]
/-! ### comparisons of rows -/
theorem eqv_ints : ∀ a b : List Int, PyData.eqvAll (a.map .int) (b.map .int) = decide (a = b)
  | [], [] => rfl
  | [], _ :: _ => rfl
  | _ :: _, [] => rfl
  | x :: a, y :: b => by
    show ((x == y) && PyData.eqvAll (a.map .int) (b.map .int)) = _
    rw [eqv_ints a b]
    by_cases h : x = y
    · by_cases h2 : a = b <;> simp [h, h2]
    · simp [h]
theorem depth_ints1 : ∀ a : List Int, PyData.depthAll (a.map .int) ≤ 1
  | [] => Nat.zero_le _
  | x :: a => by
    have := depth_ints1 a
    show max (PyData.int x).depth (PyData.depthAll (a.map .int)) ≤ 1
    have e : (PyData.int x).depth ≤ 1 := by simp [PyData.depth]
    omega
theorem depth_row (a : List Int) : (rowD a).depth ≤ 2 := by
  have := depth_ints1 a
  show PyData.depthAll (a.map .int) + 1 ≤ 2
  omega
theorem cmpOk_of {x y : D} (h : x.depth ≤ 190) : cmpOk x y = true := decide_eq_true (by omega)
theorem ne_row (a b : List Int) : cmpD .NotEq (rowD a) (rowD b) = some (!decide (a = b)) := by
  have e : cmpD .NotEq (rowD a) (rowD b) = if cmpOk (rowD a) (rowD b) then some (!PyData.eqvAll (a.map .int) (b.map .int)) else none := rfl
  rw [e, cmpOk_of (by have := depth_row a; omega), if_pos rfl, eqv_ints]
theorem eq_row (a b : List Int) : cmpD .Eq (rowD a) (rowD b) = some (decide (a = b)) := by
  have e : cmpD .Eq (rowD a) (rowD b) = if cmpOk (rowD a) (rowD b) then some (PyData.eqvAll (a.map .int) (b.map .int)) else none := rfl
  rw [e, cmpOk_of (by have := depth_row a; omega), if_pos rfl, eqv_ints]
theorem alike_ints2 : ∀ a b : List Int, PySem.W.alikeAll (a.map .int) (b.map .int) = true
  | [], _ => rfl
  | _ :: _, [] => rfl
  | _ :: a, _ :: b => by
    show (true && PySem.W.alikeAll (a.map .int) (b.map .int)) = true
    rw [alike_ints2 a b]
    rfl
theorem lt_ints : ∀ {a b : List Int}, a.length = b.length → PyProof.Rows.lexLt PyProof.Rows.itemOrd (PySem.W.keyToksAll (a.map .int)) (PySem.W.keyToksAll (b.map .int)) = ltL a b
  | [], [], _ => by
    show PyProof.Rows.lexLt PyProof.Rows.itemOrd [.inl 0] [.inl 0] = false
    decide
  | x :: a, y :: b, h => by
    rw [List.map_cons, List.map_cons, PySem.W.dataLt_cons rfl, lt_ints (a := a) (b := b) (by simpa using h)]
    show (if (x == y) = true then ltL a b else PySem.W.dataLt (.int x) (.int y)) = _
    rw [PySem.W.dataLt_int]
    by_cases e : x = y
    · subst e
      simp [ltL]
    · simp [ltL, e]
  | [], _ :: _, h => by cases h
  | _ :: _, [], h => by cases h
theorem lt_row {a b : List Int} (h : a.length = b.length) : cmpD .Lt (rowD a) (rowD b) = some (ltL a b) := by
  have e : cmpD .Lt (rowD a) (rowD b) = if PySem.W.alikeAll (a.map .int) (b.map .int) && cmpOk (rowD a) (rowD b) then some (PySem.W.dataLt (rowD a) (rowD b)) else none := rfl
  rw [e, cmpOk_of (by have := depth_row a; omega), alike_ints2, Bool.and_self, if_pos rfl]
  unfold rowD
  rw [PySem.W.dataLt_tuple, lt_ints h]
/-! ### small things -/
theorem addRow_len (a b : List Int) (h : a.length = b.length) : ((a.zip b).map fun p => p.1 + p.2).length = a.length := by rw [List.length_map, List.length_zip]; omega
/-! ### one step each -/
theorem p_len_l (xs : List D) : primD .len [.list xs] = some (.v (.int xs.length)) := rfl
theorem p_len_t (xs : List D) : primD .len [.tuple xs] = some (.v (.int xs.length)) := rfl
theorem p_len_r (r : List Int) : primD .len [rowD r] = some (.v (.int r.length)) := by
  show some (RV.v (.int ((r.map PyData.int).length : Nat))) = _
  rw [List.length_map]
theorem p_abs (i : Int) : primD .abs [.int i] = some (.v (.int (if i < 0 then -i else i))) := rfl
theorem p_int (i : Int) : primD .int [.int i] = some (.v (.int i)) := rfl
theorem p_intB (b : Bool) : primD .int [.bool b] = some (.v (.int (if b = true then 1 else 0))) := rfl
theorem p_tup_l (xs : List D) : primD .tuple [.list xs] = some (.v (.tuple xs)) := rfl
theorem p_tup_t (xs : List D) : primD .tuple [.tuple xs] = some (.v (.tuple xs)) := rfl
theorem p_lst_l (xs : List D) : primD .list [.list xs] = some (.o xs) := rfl
theorem p_lst_t (xs : List D) : primD .list [.tuple xs] = some (.o xs) := rfl
theorem p_sum_l (xs : List D) : primD .sum [.list xs] = (intsOf xs).map fun is => .v (.int is.sum) := rfl
theorem p_sum_t (xs : List D) : primD .sum [.tuple xs] = (intsOf xs).map fun is => .v (.int is.sum) := rfl
theorem p_sum_r (r : List Int) : primD .sum [rowD r] = some (.v (.int r.sum)) := by
  show (intsOf (r.map .int)).map (fun is => RV.v (.int is.sum)) = _
  rw [intsOf_map]
  rfl
theorem p_all (xs : List D) : primD .all [.list xs] = (boolsOf xs).map fun bs => .v (.bool (bs.all id)) := rfl
theorem p_any (xs : List D) : primD .any [.list xs] = (boolsOf xs).map fun bs => .v (.bool (bs.any id)) := rfl
theorem p_max2 (i j : Int) : primD .max2 [.int i, .int j] = some (.v (.int (if j > i then j else i))) := rfl
theorem p_min2 (i j : Int) : primD .min2 [.int i, .int j] = some (.v (.int (if j < i then j else i))) := rfl
theorem p_min_l {xs : List D} {ns : List Int} (h : intsOf xs = some ns) (h' : ns ≠ []) : primD .min1 [.list xs] = some (.v (.int (minI ns))) := by
  show (intsOf xs).bind (fun is => if is = [] then none else some (RV.v (.int (minI is)))) = _
  rw [h]
  exact if_neg h'
theorem p_min_r {r : List Int} (h' : r ≠ []) : primD .min1 [rowD r] = some (.v (.int (minI r))) := by
  show (intsOf (r.map .int)).bind (fun is => if is = [] then none else some (RV.v (.int (minI is)))) = _
  rw [intsOf_map]
  exact if_neg h'
theorem i_t (xs : List D) (i : Int) : idxD (.tuple xs) (.int i) = atI xs i := rfl
theorem i_l (xs : List D) (i : Int) : idxD (.list xs) (.int i) = atI xs i := rfl
theorem i_r (r : List Int) (i : Int) : idxD (rowD r) (.int i) = atI (r.map .int) i := rfl
theorem it_l (xs : List D) : itemsOf (.list xs) = some xs := rfl
theorem it_t (xs : List D) : itemsOf (.tuple xs) = some xs := rfl
theorem it_r (r : List Int) : itemsOf (rowD r) = some (r.map .int) := rfl
theorem ty_r (r : List Int) : tyN (rowD r) = .tuple := rfl
theorem fz_l (xs : List D) (e : Fm) : fz (.v (.list xs)) e = some (.list xs, e) := rfl
theorem sl_t (xs : List D) (lo hi : Option Int) : slcD (.tuple xs) lo hi = some (.v (.tuple (cut xs lo hi))) := rfl
theorem sl_l (xs : List D) (lo hi : Option Int) : slcD (.list xs) lo hi = some (.o (cut xs lo hi)) := rfl
theorem lrep_ok {cf : CF} {es b : T} {e e1 e2 e3 : Fm} {rs : List RV} {ds : List D} {rb : RV} {k : Nat} (h1 : ev cf es e = .ok (.rvs rs) e1) (h2 : fzs rs e1 = some (ds, e2)) (hl : ds.length ≤ LINE) (h3 : ev cf b e2 = .ok (.rv rb) e3) (h4 : rd rb e3 = some (.int (k : Nat))) (hk : k ≤ 1000000) (hk2 : ds.length * k ≤ LINE) :
    ev cf (.lrep es b) e = .ok (.rv (.o (List.replicate k ds).flatten)) e3 := by
  show (ev cf es e).rvs _ = _
  rw [h1]
  show (match fzs rs e1 with
    | some (ds, e2) => if ds.length ≤ LINE then (ev cf b e2).rv fun rb e3 => (match rd rb e3 with
      | some (.int k) => if -(2 ^ 63) ≤ k ∧ k < 2 ^ 63 ∧ ds.length * k.toNat ≤ LINE then R.ok (Val.rv (RV.o (List.replicate k.toNat ds).flatten)) e3 else .bad
      | _ => .bad) else .bad
    | none => .bad) = _
  rw [h2]
  dsimp only
  rw [if_pos hl, h3]
  dsimp only [R.rv]
  rw [h4]
  dsimp only
  have e0 : (k : Int).toNat = k := Int.toNat_natCast k
  rw [e0, if_pos ⟨by omega, by omega, hk2⟩]
theorem b_add (i j : Int) : binD .Add (.int i) (.int j) = some (.v (.int (i + j))) := rfl
theorem b_sub (i j : Int) : binD .Sub (.int i) (.int j) = some (.v (.int (i - j))) := rfl
theorem b_mul (i j : Int) : binD .Mult (.int i) (.int j) = if mulOk i j = true then some (.v (.int (i * j))) else none := rfl
theorem b_mod (i j : Int) : binD .Mod (.int i) (.int j) = if 0 < j then some (.v (.int (i % j))) else none := rfl
theorem b_fdiv (i j : Int) : binD .FloorDiv (.int i) (.int j) = if 0 < j ∧ j.natAbs.log2 < 9000 then some (.v (.int (i / j))) else none := rfl
theorem b_addt (xs ys : List D) : binD .Add (.tuple xs) (.tuple ys) = if xs.length + ys.length ≤ LINE then some (.v (.tuple (xs ++ ys))) else none := rfl
theorem b_addr (a b : List Int) (h : a.length + b.length ≤ 1000) : binD .Add (rowD a) (rowD b) = some (.v (rowD (a ++ b))) := by
  show (if (a.map PyData.int).length + (b.map PyData.int).length ≤ LINE then some (RV.v (.tuple (a.map .int ++ b.map .int))) else none) = _
  rw [if_pos (by rw [List.length_map, List.length_map]; unfold LINE; omega), ← List.map_append]
  rfl
theorem b_addl (xs ys : List D) : binD .Add (.list xs) (.list ys) = if xs.length + ys.length ≤ LINE then some (.o (xs ++ ys)) else none := rfl
theorem b_pow3 : binD .Pow (.int 10) (.int 3) = some (.v (.int 1000)) := by rfl
theorem b_pow6 : binD .Pow (.int 10) (.int 6) = some (.v (.int 1000000)) := by rfl
theorem b_pow12 : binD .Pow (.int 10) (.int 12) = some (.v (.int 1000000000000)) := by rfl
theorem b_pow18 : binD .Pow (.int 10) (.int 18) = some (.v (.int 1000000000000000000)) := by rfl
/-! ### comprehensions whose turns turn a state -/
theorem bS_to {e0 e e2 : Fm} {vs : List Nat} (h : wipeS vs e = wipeS vs e2) (hl2 : e0.length = e2.length) (ha : ∀ j ∈ vs, e0[j]? = e2[j]?) : backS e0 vs e = e2 := by
  have hl : e.length = e0.length := by
    have := congrArg List.length h
    rw [wS_len, wS_len] at this
    omega
  refine List.ext_getElem? fun j => ?_
  rw [bS_at hl]
  by_cases hj : j ∈ vs
  · rw [if_pos hj, ha j hj]
  · rw [if_neg hj, ← wS_out (vs := vs) (e := e) hj, h, wS_out hj]
theorem cLoop_rel {α β : Type} {enc : α → D} {F : β → Fm} {P : D → Prop} {I : Nat → β → Prop} {cf : CF} {elt tg : T} {own : List Nat} (tot : Nat) : ∀ (xs : List α) (i : Nat) (b : β) (e : Fm) (acc : List D), i + xs.length ≤ tot → wipeS own e = wipeS own (F b) → I i b → acc.length + xs.length ≤ LINE →
    (∀ i b x, x ∈ xs → i < tot → I i b → ∃ (d : D) (b' : β) (e3 e4 e5 : Fm) (r : RV), bindT tg (enc x) (wipeS own (F b)) = some e3 ∧ ev cf elt e3 = .ok (.rv r) e4 ∧ fz r e4 = some (d, e5) ∧ wipeS own e5 = wipeS own (F b') ∧ P d ∧ I (i + 1) b') →
    ∃ (ds : List D) (b' : β) (e' : Fm), cLoop (stepD cf tg .absent elt own) (xs.map enc) e acc = .ok (acc ++ ds) e' ∧ ds.length = xs.length ∧ (∀ d ∈ ds, P d) ∧ I (i + xs.length) b' ∧ wipeS own e' = wipeS own (F b')
  | [], i, b, e, acc, _, hw, hi, _, _ => ⟨[], b, e, by simp [cLoop], rfl, fun _ z => (nomatch z), hi, hw⟩
  | x :: xs, i, b, e, acc, ht, hw, hi, hl, h => by
    rw [List.length_cons] at ht hl
    obtain ⟨d, b1, e3, e4, e5, r, h1, h2, h3, h4, h5, h6⟩ := h i b x List.mem_cons_self (by omega) hi
    obtain ⟨ds, b', e', q1, q2, q3, q4, q5⟩ := cLoop_rel tot xs (i + 1) b1 e5 (acc ++ [d]) (by omega) h4 h6 (by rw [List.length_append, List.length_singleton]; omega) fun i b y hy => h i b y (List.mem_cons_of_mem _ hy)
    refine ⟨d :: ds, b', e', ?_, by rw [List.length_cons, q2]; rfl, fun y hy => ?_, by rw [List.length_cons, show i + (xs.length + 1) = i + 1 + xs.length by omega]; exact q4, q5⟩
    · show (match stepD cf tg .absent elt own (enc x) e acc with
        | .ok acc1 e1 => cLoop (stepD cf tg .absent elt own) (xs.map enc) e1 acc1
        | _ => .bad) = R.ok (acc ++ d :: ds) e'
      have hs : stepD cf tg .absent elt own (enc x) e acc = .ok (acc ++ [d]) e5 := by
        unfold stepD
        rw [hw, h1]
        show pushE acc (ev cf elt e3) = _
        rw [h2]
        unfold pushE R.rv
        dsimp only
        rw [h3]
        dsimp only
        rw [if_pos (by omega)]
      rw [hs]
      dsimp only
      rw [q1, List.append_assoc]
      rfl
    · rcases List.mem_cons.mp hy with rfl | hy
      · exact h5
      · exact q3 y hy
theorem comp_rel {α β : Type} {enc : α → D} {F : β → Fm} {P : D → Prop} {I : Nat → β → Prop} {cf : CF} {elt tg src : T} {own : List Nat} {e : Fm} {b0 : β} (xs : List α) (hs : ev cf src e = .ok (.ds (xs.map enc)) (F b0)) (ho : own.any (fun i => isOwnS (F b0)[i]?) = false) (hl : xs.length ≤ LINE) (hF : ∀ b b', ∀ j ∈ own, (F b)[j]? = (F b')[j]?) (hFl : ∀ b b', (F b).length = (F b').length) (hi : I 0 b0)
    (h : ∀ i b x, x ∈ xs → i < xs.length → I i b → ∃ (d : D) (b' : β) (e3 e4 e5 : Fm) (r : RV), bindT tg (enc x) (wipeS own (F b)) = some e3 ∧ ev cf elt e3 = .ok (.rv r) e4 ∧ fz r e4 = some (d, e5) ∧ wipeS own e5 = wipeS own (F b') ∧ P d ∧ I (i + 1) b') :
    ∃ (ds : List D) (b' : β), ev cf (.comp elt tg src .absent own) e = .ok (.rv (.o ds)) (F b') ∧ ds.length = xs.length ∧ (∀ d ∈ ds, P d) ∧ I xs.length b' := by
  obtain ⟨ds, b', e', q1, q2, q3, q4, q5⟩ := cLoop_rel (enc := enc) (F := F) (P := P) (I := I) (cf := cf) (elt := elt) (tg := tg) (own := own) xs.length xs 0 b0 (F b0) [] (by omega) rfl hi (by simpa using hl) h
  refine ⟨ds, b', ?_, q2, q3, by simpa using q4⟩
  rw [ev_compD, hs]
  dsimp only [R.dsk]
  rw [ho, if_neg Bool.false_ne_true, q1]
  dsimp only
  rw [bS_to q5 (hFl _ _) (hF _ _), List.nil_append]
theorem ints_ex {Q : Int → Prop} : ∀ {ds : List D}, (∀ d ∈ ds, ∃ x, d = .int x ∧ Q x) → ∃ ns : List Int, ds = ns.map .int ∧ ∀ x ∈ ns, Q x
  | [], _ => ⟨[], rfl, fun _ z => nomatch z⟩
  | d :: ds, h => by
    obtain ⟨x, rfl, hx⟩ := h d List.mem_cons_self
    obtain ⟨ns, rfl, hn⟩ := ints_ex fun d hd => h d (List.mem_cons_of_mem _ hd)
    refine ⟨x :: ns, rfl, fun y hy => ?_⟩
    rcases List.mem_cons.mp hy with rfl | hy
    · exact hx
    · exact hn y hy
theorem rows_ex {Q : List Int → Prop} : ∀ {ds : List D}, (∀ d ∈ ds, ∃ r, d = rowD r ∧ Q r) → ∃ rs : List (List Int), ds = rs.map rowD ∧ ∀ r ∈ rs, Q r
  | [], _ => ⟨[], rfl, fun _ z => nomatch z⟩
  | d :: ds, h => by
    obtain ⟨x, rfl, hx⟩ := h d List.mem_cons_self
    obtain ⟨ns, rfl, hn⟩ := rows_ex fun d hd => h d (List.mem_cons_of_mem _ hd)
    refine ⟨x :: ns, rfl, fun y hy => ?_⟩
    rcases List.mem_cons.mp hy with rfl | hy
    · exact hx
    · exact hn y hy
theorem sR1_g {cf : CF} {a : T} {e : Fm} {m : Int} (h : ev cf a e = .ok (.rv (.v (.int m))) e) (h1 : -(2 ^ 62) ≤ m) (h2 : m < 2 ^ 62) : ev cf (.sR1 a) e = .ok (.ds (iota 0 m.toNat)) e := by
  show (ev cf a e).rv (fun ra e1 => (match rd ra e1 with
    | some (.int n) => if -(2 ^ 62) ≤ n ∧ n < 2 ^ 62 then R.ok (Val.ds (iota 0 n.toNat)) e1 else .bad
    | _ => .bad)) = _
  rw [h]
  dsimp only [R.rv, rd]
  rw [if_pos ⟨h1, h2⟩]
theorem sR1_ok {cf : CF} {a : T} {e : Fm} {n : Nat} (h : ev cf a e = .ok (.rv (.v (.int (n : Nat)))) e) (hn : n ≤ 1000000) : ev cf (.sR1 a) e = .ok (.ds ((List.range n).map fun i : Nat => PyData.int (0 + (i : Nat)))) e := by
  have q := sR1_g h (by omega) (by omega)
  rw [Int.toNat_natCast] at q
  rw [q, ← iota_enc]
end L2.Mp
set_option Elab.async false
set_option linter.all false
set_option maxRecDepth 100000
set_option maxHeartbeats 4000000
namespace L2.Mp
open PySem PySem.Spec PyProof.Rows L2
/-! ### pure steps, over any frame -/
abbrev V (cf : CF) (e : Fm) (t : T) (d : D) : Prop := ev cf t e = .ok (.rv (.v d)) e
abbrev O (cf : CF) (e : Fm) (t : T) (ds : List D) : Prop := ev cf t e = .ok (.rv (.o ds)) e
abbrev Vs (cf : CF) (e : Fm) (t : T) (ds : List D) : Prop := ev cf t e = .ok (.rvs (ds.map .v)) e
section
variable {cf : CF} {e : Fm}
theorem V_var {i : Nat} {d : D} (h : e[i]? = some (.val d)) : V cf e (.var i) d := by
  show (match e[i]? with
    | some (.val d) => R.ok (Val.rv (.v d)) e
    | some (.own _ _) => R.ok (Val.rv (.b i)) e
    | _ => .bad) = _
  rw [h]
theorem V_c (d : D) : V cf e (.const d) d := rfl
theorem Vs_nil : Vs cf e .nil [] := rfl
theorem Vs_cons {a r : T} {d : D} {ds : List D} (h : V cf e a d) (hr : Vs cf e r ds) : Vs cf e (.cons a r) (d :: ds) := by
  show (ev cf a e).rv (fun ra e1 => (ev cf r e1).rvs fun rs e2 => R.ok (Val.rvs (nrm ra :: rs)) e2) = _
  rw [h]
  show (ev cf r e).rvs (fun rs e2 => .ok (Val.rvs (RV.v d :: rs)) e2) = _
  rw [hr]
  rfl
theorem Vs_consO {a r : T} {xs : List D} {ds : List D} (h : O cf e a xs) (hr : Vs cf e r ds) : Vs cf e (.cons a r) (.list xs :: ds) := by
  show (ev cf a e).rv (fun ra e1 => (ev cf r e1).rvs fun rs e2 => R.ok (Val.rvs (nrm ra :: rs)) e2) = _
  rw [h]
  show (ev cf r e).rvs (fun rs e2 => .ok (Val.rvs (RV.v (.list xs) :: rs)) e2) = _
  rw [hr]
  rfl
theorem rds_v : ∀ (ds : List D) (e : Fm), rds (ds.map .v) e = some ds
  | [], _ => rfl
  | d :: ds, e => by
    show (match rd (.v d) e, rds (ds.map .v) e with
      | some d, some ds => some (d :: ds)
      | _, _ => none) = _
    rw [rds_v ds e]
    rfl
theorem fzs_v : ∀ (ds : List D) (e : Fm), fzs (ds.map .v) e = some (ds, e)
  | [], _ => rfl
  | d :: ds, e => by
    show (match fzs (ds.map .v) e with
      | some (ds, e2) => some (d :: ds, e2)
      | none => none) = _
    rw [fzs_v ds e]
theorem mkArgs_v : ∀ (ds : List D) (e : Fm), mkArgs (ds.map fun _ => false) (ds.map .v) e = some (ds.map .d, [], [])
  | [], _ => rfl
  | d :: ds, e => by
    show (match rd (.v d) e, mkArgs (ds.map fun _ => false) (ds.map .v) e with
      | some d, some (as, is, bs) => some (Arg.d d :: as, is, lent (.v d) e bs)
      | _, _ => none) = _
    rw [mkArgs_v ds e]
    rfl
theorem call_r {f : Str} {fl : List Bool} {as : T} {ds : List D} {r : RV} (hs : Vs cf e as ds) (h : cf f (ds.map .d) = .ok r []) (hf : fl = ds.map (fun _ => false) := by rfl) : ev cf (.call f fl as) e = .ok (.rv r) e := by
  show (ev cf as e).rvs (fun rs e1 => doCall cf f fl rs e1) = _
  rw [hs, hf]
  show doCall cf f (ds.map fun _ => false) (ds.map .v) e = _
  unfold doCall
  rw [mkArgs_v]
  dsimp only
  rw [h]
  rfl
theorem V_call {f : Str} {fl : List Bool} {as : T} {ds : List D} {d : D} (hs : Vs cf e as ds) (h : cf f (ds.map .d) = .ok (.v d) []) (hf : fl = ds.map (fun _ => false) := by rfl) : V cf e (.call f fl as) d := call_r hs h hf
theorem prim_r {p : Prim} {as : T} {ds : List D} {r : RV} (hs : Vs cf e as ds) (h : primD p ds = some r) : ev cf (.prim p as) e = .ok (.rv r) e := by
  show (ev cf as e).rvs (fun rs e1 => (match rds rs e1 with
    | some ds => optR (primD p ds) e1
    | none => .bad)) = _
  rw [hs]
  show (match rds (ds.map .v) e with
    | some ds => optR (primD p ds) e
    | none => .bad) = _
  rw [rds_v]
  dsimp only
  rw [h]
  rfl
theorem V_prim {p : Prim} {as : T} {ds : List D} {d : D} (hs : Vs cf e as ds) (h : primD p ds = some (.v d)) : V cf e (.prim p as) d := prim_r hs h
theorem V_tupO {a : T} {xs : List D} (h : O cf e a xs) : V cf e (.prim .tuple (.cons a .nil)) (.tuple xs) := V_prim (Vs_consO h Vs_nil) rfl
theorem O_lst {as : T} {ds : List D} (hs : Vs cf e as ds) (h : ds.length ≤ LINE) : O cf e (.lst as) ds := by
  show (ev cf as e).rvs (fun rs e1 => (match fzs rs e1 with
    | some (ds, e2) => if ds.length ≤ LINE then R.ok (Val.rv (.o ds)) e2 else .bad
    | none => .bad)) = _
  rw [hs]
  show (match fzs (ds.map .v) e with
    | some (ds, e2) => if ds.length ≤ LINE then R.ok (Val.rv (.o ds)) e2 else .bad
    | none => .bad) = _
  rw [fzs_v]
  dsimp only
  rw [if_pos h]
theorem V_bin {op : Operator} {a b : T} {x y d : D} (ha : V cf e a x) (hb : V cf e b y) (h : binD op x y = some (.v d)) : V cf e (.bin op a b) d := by
  show (ev cf a e).rv (fun ra e1 => (ev cf b e1).rv fun rb e2 => (match rd ra e2, rd rb e2 with
    | some x, some y => optR (binD op x y) e2
    | _, _ => .bad)) = _
  rw [ha]
  show (ev cf b e).rv (fun rb e2 => (match rd (.v x) e2, rd rb e2 with
    | some x, some y => optR (binD op x y) e2
    | _, _ => .bad)) = _
  rw [hb]
  show optR (binD op x y) e = _
  rw [h]
  rfl
theorem asg_v {i : Nat} {x : T} {e1 : Fm} {d : D} (h : ev cf x e = .ok (.rv (.v d)) e1) (hs : storable e1[i]? = true) : ev cf (.asg (.tN i) x) e = .ok (.fl .nx) (e1.set i (.val d)) := by
  show (ev cf x e).rv (fun r e1 => (match e1[i]? with
    | some (.own true _) => .bad
    | none => .bad
    | some _ => (match r with
      | .o ds => R.ok (Val.fl .nx) (e1.set i (.own false ds))
      | _ => (match fz r e1 with
        | some (d, e2) => R.ok (Val.fl .nx) (e2.set i (.val d))
        | none => .bad)))) = _
  rw [h]
  dsimp only [R.rv]
  split
  · next q => rw [q] at hs; cases hs
  · next q => rw [q] at hs; cases hs
  · rfl
theorem asg_l {i : Nat} {x : T} {e1 : Fm} {ds : List D} (h : ev cf x e = .ok (.rv (.o ds)) e1) (hs : storable e1[i]? = true) : ev cf (.asg (.tN i) x) e = .ok (.fl .nx) (e1.set i (.own false ds)) := by
  show (ev cf x e).rv (fun r e1 => (match e1[i]? with
    | some (.own true _) => .bad
    | none => .bad
    | some _ => (match r with
      | .o ds => R.ok (Val.fl .nx) (e1.set i (.own false ds))
      | _ => (match fz r e1 with
        | some (d, e2) => R.ok (Val.fl .nx) (e2.set i (.val d))
        | none => .bad)))) = _
  rw [h]
  dsimp only [R.rv]
  split
  · next q => rw [q] at hs; cases hs
  · next q => rw [q] at hs; cases hs
  · rfl
theorem asg_o {t tg : T} {e1 e2 : Fm} {ds : List D} (h : ev cf t e = .ok (.rv (.o ds)) e1) (hb : bindT (.tT tg) (.list ds) e1 = some e2) : ev cf (.asg (.tT tg) t) e = .ok (.fl .nx) e2 := by
  show (ev cf t e).rv _ = _
  rw [h]
  show (match bindT (.tT tg) (.list ds) e1 with
      | some e3 => R.ok (Val.fl .nx) e3
      | none => .bad) = _
  rw [hb]
theorem V_cmp {op : CmpOp} {a b : T} {x y : D} {t : Bool} (ha : V cf e a x) (hb : V cf e b y) (h : cmpD op x y = some t) : V cf e (.cmp op a b) (.bool t) := by
  show (ev cf a e).rv (fun ra e1 => (ev cf b e1).rv fun rb e2 => (match rd ra e2, rd rb e2 with
    | some x, some y => (match cmpD op x y with
      | some k => R.ok (Val.rv (.v (.bool k))) e2
      | none => .bad)
    | _, _ => .bad)) = _
  rw [ha]
  show (ev cf b e).rv (fun rb e2 => (match rd (.v x) e2, rd rb e2 with
    | some x, some y => (match cmpD op x y with
      | some k => R.ok (Val.rv (.v (.bool k))) e2
      | none => .bad)
    | _, _ => .bad)) = _
  rw [hb]
  show (match cmpD op x y with
      | some k => R.ok (Val.rv (.v (.bool k))) e
      | none => .bad) = _
  rw [h]
theorem V_cmpO {op : CmpOp} {a b : T} {x y : List D} {t : Bool} (ha : O cf e a x) (hb : O cf e b y) (h : cmpD op (.list x) (.list y) = some t) : V cf e (.cmp op a b) (.bool t) := by
  show (ev cf a e).rv (fun ra e1 => (ev cf b e1).rv fun rb e2 => (match rd ra e2, rd rb e2 with
    | some x, some y => (match cmpD op x y with
      | some k => R.ok (Val.rv (.v (.bool k))) e2
      | none => .bad)
    | _, _ => .bad)) = _
  rw [ha]
  show (ev cf b e).rv (fun rb e2 => (match rd (.o x) e2, rd rb e2 with
    | some x, some y => (match cmpD op x y with
      | some k => R.ok (Val.rv (.v (.bool k))) e2
      | none => .bad)
    | _, _ => .bad)) = _
  rw [hb]
  show (match cmpD op (.list x) (.list y) with
      | some k => R.ok (Val.rv (.v (.bool k))) e
      | none => .bad) = _
  rw [h]
theorem V_and {a b : T} {x y : Bool} (ha : V cf e a (.bool x)) (hb : x = true → V cf e b (.bool y)) : V cf e (.and a b) (.bool (x && y)) := by
  show (ev cf a e).rv (fun ra e1 => (match (rd ra e1).bind tru with
    | some true => ev cf b e1
    | some false => R.ok (Val.rv ra) e1
    | none => .bad)) = _
  rw [ha]
  cases x with
  | false => rfl
  | true => exact hb rfl
theorem V_not {a : T} {x : Bool} (ha : V cf e a (.bool x)) : V cf e (.notT a) (.bool (!x)) := by
  show (testR (ev cf a e)).bnd (fun k e1 => R.ok (Val.rv (.v (.bool (!k)))) e1) = _
  rw [ha]
  rfl
theorem ite_r {c a b : T} {x : Bool} {e1 : Fm} {r : R Val} (hc : ev cf c e = .ok (.rv (.v (.bool x))) e1) (ha : x = true → ev cf a e1 = r) (hb : x = false → ev cf b e1 = r) : ev cf (.ite c a b) e = r := by
  show (testR (ev cf c e)).bnd (fun k e1 => if k = true then ev cf a e1 else ev cf b e1) = _
  rw [hc]
  cases x with
  | false => exact hb rfl
  | true => exact ha rfl
theorem if_r {c a b : T} {x : Bool} {e1 : Fm} {r : R Val} (hc : ev cf c e = .ok (.rv (.v (.bool x))) e1) (ha : x = true → ev cf a e1 = r) (hb : x = false → ev cf b e1 = r) : ev cf (.ifS c a b) e = r := by
  show (testR (ev cf c e)).bnd (fun k e1 => if k = true then ev cf a e1 else ev cf b e1) = _
  rw [hc]
  cases x with
  | false => exact hb rfl
  | true => exact ha rfl
theorem V_tup {as : T} {ds : List D} (hs : Vs cf e as ds) (h : ds.length ≤ LINE) : V cf e (.tup as) (.tuple ds) := by
  show (ev cf as e).rvs (fun rs e1 => (match fzs rs e1 with
    | some (ds, e2) => if ds.length ≤ LINE then R.ok (Val.rv (.v (.tuple ds))) e2 else .bad
    | none => .bad)) = _
  rw [hs]
  show (match fzs (ds.map .v) e with
    | some (ds, e2) => if ds.length ≤ LINE then R.ok (Val.rv (.v (.tuple ds))) e2 else .bad
    | none => .bad) = _
  rw [fzs_v]
  dsimp only
  rw [if_pos h]
theorem V_idx {a b : T} {x y d : D} (ha : V cf e a x) (hb : V cf e b y) (h : idxD x y = some d) : V cf e (.idx a b) d := by
  show (ev cf a e).rv (fun ra e1 => (ev cf b e1).rv fun rb e2 => (match rd ra e2, rd rb e2 with
    | some x, some y => (match idxD x y with
      | some d => R.ok (Val.rv (.v d)) e2
      | none => .bad)
    | _, _ => .bad)) = _
  rw [ha]
  show (ev cf b e).rv (fun rb e2 => (match rd (.v x) e2, rd rb e2 with
    | some x, some y => (match idxD x y with
      | some d => R.ok (Val.rv (.v d)) e2
      | none => .bad)
    | _, _ => .bad)) = _
  rw [hb]
  show (match idxD x y with
      | some d => R.ok (Val.rv (.v d)) e
      | none => .bad) = _
  rw [h]
theorem seq_nx {a b : T} {e1 : Fm} {r : R Val} (ha : ev cf a e = .ok (.fl .nx) e1) (hb : ev cf b e1 = r) : ev cf (.seq a b) e = r := by
  show ev cf (.seq a b) e = _
  rw [ev, ha]
  exact hb
end
end L2.Mp
set_option Elab.async false
set_option linter.all false
set_option maxRecDepth 100000
set_option maxHeartbeats 0
namespace L2.Mp
open PySem PySem.Spec PyProof.Rows L2
/-! ### plain steps, whatever the law -/
theorem c_le (a b : Int) : cmpD .LtE (.int a) (.int b) = some (decide (a ≤ b)) := rfl
theorem c_ge (a b : Int) : cmpD .GtE (.int a) (.int b) = some (decide (b ≤ a)) := rfl
theorem c_lt (a b : Int) : cmpD .Lt (.int a) (.int b) = some (decide (a < b)) := rfl
theorem c_gt (a b : Int) : cmpD .Gt (.int a) (.int b) = some (decide (b < a)) := rfl
theorem c_eq (a b : Int) : cmpD .Eq (.int a) (.int b) = some (decide (a = b)) := by rfl
theorem c_neB (a b : Bool) : cmpD .NotEq (.bool a) (.bool b) = some (!decide (a = b)) := by cases a <;> cases b <;> rfl
theorem c_eqB (a b : Bool) : cmpD .Eq (.bool a) (.bool b) = some (decide (a = b)) := by cases a <;> cases b <;> rfl
theorem len_row (r : List Int) : (r.map PyData.int).length = r.length := List.length_map _
theorem one_line : (1 : Nat) ≤ LINE := by unfold LINE; omega
theorem two_line : (2 : Nat) ≤ LINE := by unfold LINE; omega
theorem at_nat {α : Type} {xs : List α} {i : Nat} (h : i < xs.length) : atI xs (i : Int) = some xs[i] := by
  unfold atI ixN
  rw [if_pos (by omega), if_pos (by omega)]
  show xs[(i : Int).toNat]? = _
  rw [Int.toNat_natCast, List.getElem?_eq_getElem h]
theorem get_row {rs : List (List Int)} {n : Nat} (hn : n < rs.length) : atI (rs.map rowD) (n : Int) = some (rowD rs[n]) := by
  rw [at_nat (by rw [List.length_map]; exact hn), List.getElem_map]
theorem mul_ok {i j : Int} (h : 0 ≤ i ∧ i < 2 ^ 63) : mulOk i j = true := by
  unfold mulOk
  have h1 : -(2 ^ 64 : Int) < i := by omega
  have h2 : i < (2 ^ 64 : Int) := by omega
  rw [decide_eq_true h1, decide_eq_true h2]
  rfl
theorem mul_ok2 {i j : Int} (h : 0 ≤ j ∧ j < 2 ^ 63) : mulOk i j = true := by
  unfold mulOk
  have h1 : -(2 ^ 64 : Int) < j := by omega
  have h2 : j < (2 ^ 64 : Int) := by omega
  rw [decide_eq_true h1, decide_eq_true h2, Bool.and_self, Bool.or_true]
section
variable {cf : CF} {e : Fm}
theorem tup1 {cf : CF} {a : T} {e e1 : Fm} {ds : List D} (h : ev cf a e = .ok (.rv (.o ds)) e1) : ev cf (.prim .tuple (.cons a .nil)) e = .ok (.rv (.v (.tuple ds))) e1 := by
  simp only [ev, R.rv, R.rvs, R.dsk, R.bnd, testR, partR, rd, rds, fz, fzs, nrm, optR, keepS, storable, tru, isD, tyN, Ty.sub, List.any_cons, List.any_nil, List.all_cons, List.all_nil, doCall, mkArgs, lent, isOwnS, noDup, putOuts, argsFit, endF, outsF, startF, bindT, bindTs, List.getElem?_cons_zero, List.getElem?_cons_succ, List.getElem?_nil, List.map_cons, List.map_nil, List.length_cons, List.length_nil, List.replicate, List.cons_append, List.nil_append, List.set_cons_zero, List.set_cons_succ, Option.bind, Option.map, Bool.and_true, Bool.true_and, Bool.and_false, Bool.false_and, Bool.or_true, Bool.true_or, Bool.or_false, Bool.false_or, Bool.not_true, Bool.not_false, Bool.not_not, if_true, if_false, Bool.false_eq_true, reduceIte, reduceCtorEq, decide_true, decide_false, List.isEmpty_nil, List.isEmpty_cons, beq_self_eq_true, Nat.reduceAdd, Nat.reduceSub, Nat.reduceLeDiff, Nat.reduceLT, List.contains_nil, it_l, it_t, it_r, ty_r, b_add, b_sub, b_mul, b_mod, b_fdiv, b_addt, b_addl, b_pow3, b_pow6, b_pow12, b_pow18, i_t, i_l, i_r, sl_t, sl_l, p_len_l, p_len_t, p_len_r, p_abs, p_int, p_intB, p_tup_l, p_tup_t, p_lst_l, p_lst_t, p_sum_l, p_sum_t, p_sum_r, p_all, p_any, p_max2, p_min2, isNon, nolistR, nolist, and_self, and_true, true_and, h]
theorem same_if {cf : CF} {x : T} {e : Fm} {ds : List D} (h3 : e[3]? = some (.own false ds)) (hx : ev cf x e = .ok (.rv (.o ds)) e) (hs : cf "_law_same" [.d (.list ds), .d (.list ds)] = .ok (.v (.bool true)) []) : ev cf (.ifS (.notT (.call "_law_same" [false, false] (.cons (.var 3) (.cons x .nil)))) (.seq (.ret (.const (.bool false))) .done) .done) e = .ok (.fl .nx) e := by
  simp only [ev, R.rv, R.rvs, R.dsk, R.bnd, testR, partR, rd, rds, fz, fzs, nrm, optR, keepS, storable, tru, isD, tyN, Ty.sub, List.any_cons, List.any_nil, List.all_cons, List.all_nil, doCall, mkArgs, lent, isOwnS, noDup, putOuts, argsFit, endF, outsF, startF, bindT, bindTs, List.getElem?_cons_zero, List.getElem?_cons_succ, List.getElem?_nil, List.map_cons, List.map_nil, List.length_cons, List.length_nil, List.replicate, List.cons_append, List.nil_append, List.set_cons_zero, List.set_cons_succ, Option.bind, Option.map, Bool.and_true, Bool.true_and, Bool.and_false, Bool.false_and, Bool.or_true, Bool.true_or, Bool.or_false, Bool.false_or, Bool.not_true, Bool.not_false, Bool.not_not, if_true, if_false, Bool.false_eq_true, reduceIte, reduceCtorEq, decide_true, decide_false, List.isEmpty_nil, List.isEmpty_cons, beq_self_eq_true, Nat.reduceAdd, Nat.reduceSub, Nat.reduceLeDiff, Nat.reduceLT, List.contains_nil, it_l, it_t, it_r, ty_r, b_add, b_sub, b_mul, b_mod, b_fdiv, b_addt, b_addl, b_pow3, b_pow6, b_pow12, b_pow18, i_t, i_l, i_r, sl_t, sl_l, p_len_l, p_len_t, p_len_r, p_abs, p_int, p_intB, p_tup_l, p_tup_t, p_lst_l, p_lst_t, p_sum_l, p_sum_t, p_sum_r, p_all, p_any, p_max2, p_min2, isNon, nolistR, nolist, and_self, and_true, true_and, h3, hx, hs]
theorem eq_nil (xs : List D) : cmpD .Eq (.list xs) (.list []) = some xs.isEmpty := by
  have e : cmpD .Eq (.list xs) (.list []) = if cmpOk (.list xs) (.list []) then some (PyData.eqvAll xs []) else none := rfl
  have hc : cmpOk (.list xs) (.list []) = true := decide_eq_true (by have : (PyData.list []).depth ≤ 190 := by decide
                                                                     omega)
  rw [e, if_pos hc]
  cases xs <;> rfl
theorem call_io {cf : CF} {e : Fm} {f : Str} {i : Nat} {x : T} {bx bx' : List D} {d r : D} {io : Bool} (h0 : e[i]? = some (.own io bx)) (hx : V cf e x d) (h : cf f [.io bx, .d d] = .ok (.v r) [bx']) : ev cf (.call f [true, false] (.cons (.var i) (.cons x .nil))) e = .ok (.rv (.v r)) (e.set i (.own io bx')) := by
  simp only [ev, R.rv, R.rvs, R.dsk, R.bnd, testR, partR, rd, rds, fz, fzs, nrm, optR, keepS, storable, tru, isD, tyN, Ty.sub, List.any_cons, List.any_nil, List.all_cons, List.all_nil, doCall, mkArgs, lent, isOwnS, noDup, putOuts, argsFit, endF, outsF, startF, bindT, bindTs, List.getElem?_cons_zero, List.getElem?_cons_succ, List.getElem?_nil, List.map_cons, List.map_nil, List.length_cons, List.length_nil, List.replicate, List.cons_append, List.nil_append, List.set_cons_zero, List.set_cons_succ, Option.bind, Option.map, Bool.and_true, Bool.true_and, Bool.and_false, Bool.false_and, Bool.or_true, Bool.true_or, Bool.or_false, Bool.false_or, Bool.not_true, Bool.not_false, Bool.not_not, if_true, if_false, Bool.false_eq_true, reduceIte, reduceCtorEq, decide_true, decide_false, List.isEmpty_nil, List.isEmpty_cons, beq_self_eq_true, Nat.reduceAdd, Nat.reduceSub, Nat.reduceLeDiff, Nat.reduceLT, List.contains_nil, it_l, it_t, it_r, ty_r, b_add, b_sub, b_mul, b_mod, b_fdiv, b_addt, b_addl, b_pow3, b_pow6, b_pow12, b_pow18, i_t, i_l, i_r, sl_t, sl_l, p_len_l, p_len_t, p_len_r, p_abs, p_int, p_intB, p_tup_l, p_tup_t, p_lst_l, p_lst_t, p_sum_l, p_sum_t, p_sum_r, p_all, p_any, p_max2, p_min2, isNon, nolistR, nolist, and_self, and_true, true_and, h0, hx, h]
theorem V_slo {cf : CF} {e : Fm} {i j : Nat} {xs : List D} {h : Int} (h0 : e[i]? = some (.val (.tuple xs))) (h1 : e[j]? = some (.val (.int h))) : V cf e (.slc (.var i) .absent (.var j)) (.tuple (cut xs none (some h))) := by
  unfold V
  simp only [ev, R.rv, R.rvs, R.dsk, R.bnd, testR, partR, rd, rds, fz, fzs, nrm, optR, keepS, storable, tru, isD, tyN, Ty.sub, List.any_cons, List.any_nil, List.all_cons, List.all_nil, doCall, mkArgs, lent, isOwnS, noDup, putOuts, argsFit, endF, outsF, startF, bindT, bindTs, List.getElem?_cons_zero, List.getElem?_cons_succ, List.getElem?_nil, List.map_cons, List.map_nil, List.length_cons, List.length_nil, List.replicate, List.cons_append, List.nil_append, List.set_cons_zero, List.set_cons_succ, Option.bind, Option.map, Bool.and_true, Bool.true_and, Bool.and_false, Bool.false_and, Bool.or_true, Bool.true_or, Bool.or_false, Bool.false_or, Bool.not_true, Bool.not_false, Bool.not_not, if_true, if_false, Bool.false_eq_true, reduceIte, reduceCtorEq, decide_true, decide_false, List.isEmpty_nil, List.isEmpty_cons, beq_self_eq_true, Nat.reduceAdd, Nat.reduceSub, Nat.reduceLeDiff, Nat.reduceLT, List.contains_nil, it_l, it_t, it_r, ty_r, b_add, b_sub, b_mul, b_mod, b_fdiv, b_addt, b_addl, b_pow3, b_pow6, b_pow12, b_pow18, i_t, i_l, i_r, sl_t, sl_l, p_len_l, p_len_t, p_len_r, p_abs, p_int, p_intB, p_tup_l, p_tup_t, p_lst_l, p_lst_t, p_sum_l, p_sum_t, p_sum_r, p_all, p_any, p_max2, p_min2, isNon, nolistR, nolist, and_self, and_true, true_and, h0, h1]
theorem cut_lo {α : Type} (xs : List α) (j : Nat) (h : j ≤ xs.length) : cut xs none (some (j : Int)) = xs.take j := by
  unfold cut
  rw [HT.sIx_none, HT.sIx_nat, List.drop_zero, Nat.min_eq_left h, Nat.sub_zero]
theorem cut_hi {α : Type} (xs : List α) (j : Nat) (h : j ≤ xs.length) : cut xs (some (j : Int)) none = xs.drop j := by
  unfold cut
  rw [HT.sIx_none, HT.sIx_nat, Nat.min_eq_left h]
  exact List.take_of_length_le (by rw [List.length_drop]; exact Nat.le_refl _)
theorem V_shi {cf : CF} {e : Fm} {i : Nat} {a b : T} {op : Operator} {xs : List D} {l : Int} (h0 : e[i]? = some (.val (.tuple xs))) (h1 : V cf e (.bin op a b) (.int l)) : V cf e (.slc (.var i) (.bin op a b) .absent) (.tuple (cut xs (some l) none)) := by
  have hp : partR (ev cf (.bin op a b) e) = .ok (some l) e := by rw [h1]; rfl
  show (ev cf (.var i) e).rv (fun ra e1 => (partR (ev cf (.bin op a b) e1)).bnd fun i e2 => (R.ok (none : Option Int) e2).bnd fun j e3 => (match rd ra e3 with
    | some x => optR (slcD x i j) e3
    | none => .bad)) = _
  rw [V_var h0]
  show (partR (ev cf (.bin op a b) e)).bnd (fun i e2 => optR (slcD (.tuple xs) i none) e2) = _
  rw [hp]
  rfl
theorem at_row {r : List Int} {j : Nat} (h : j < r.length) : idxD (rowD r) (.int (j : Int)) = some (.int r[j]) := by
  rw [i_r, at_nat (by rw [List.length_map]; exact h), List.getElem_map]
theorem p_sum_ok (ns : List Int) : primD .sum [.list (ns.map .int)] = some (.v (.int ns.sum)) := by
  rw [p_sum_l, intsOf_map]
  rfl
theorem zip_ok {cf : CF} {e : Fm} {elt : T} {i j p q : Nat} {a b : List Int} (g : Int × Int → D) (hp : e[p]? = some (.val (rowD a))) (hq : e[q]? = some (.val (rowD b))) (hl : a.length ≤ 1000) (ho : ([i, j] : List Nat).any (fun l => isOwnS e[l]?) = false)
    (h : ∀ x ∈ a.zip b, ∃ e3, bindT (.tT (.cons (.tN i) (.cons (.tN j) .nil))) (.tuple [.int x.1, .int x.2]) (wipeS [i, j] e) = some e3 ∧ wipeS [i, j] e3 = wipeS [i, j] e ∧ V cf e3 elt (g x)) :
    O cf e (.comp elt (.tT (.cons (.tN i) (.cons (.tN j) .nil))) (.sZip (.var p) (.var q)) .absent [i, j]) ((a.zip b).map g) := by
  refine comp_map (fun p : Int × Int => .tuple [.int p.1, .int p.2]) g ?_ (by rw [List.length_zip]; unfold LINE; omega) ho fun x hx => ?_
  · rw [← zipF_enc]
    simp only [ev, R.rv, R.rvs, R.dsk, R.bnd, testR, partR, rd, rds, fz, fzs, nrm, optR, keepS, storable, tru, isD, tyN, Ty.sub, List.any_cons, List.any_nil, List.all_cons, List.all_nil, doCall, mkArgs, lent, isOwnS, noDup, putOuts, argsFit, endF, outsF, startF, bindT, bindTs, List.getElem?_cons_zero, List.getElem?_cons_succ, List.getElem?_nil, List.map_cons, List.map_nil, List.length_cons, List.length_nil, List.replicate, List.cons_append, List.nil_append, List.set_cons_zero, List.set_cons_succ, Option.bind, Option.map, Bool.and_true, Bool.true_and, Bool.and_false, Bool.false_and, Bool.or_true, Bool.true_or, Bool.or_false, Bool.false_or, Bool.not_true, Bool.not_false, Bool.not_not, if_true, if_false, Bool.false_eq_true, reduceIte, reduceCtorEq, decide_true, decide_false, List.isEmpty_nil, List.isEmpty_cons, beq_self_eq_true, Nat.reduceAdd, Nat.reduceSub, Nat.reduceLeDiff, Nat.reduceLT, List.contains_nil, it_l, it_t, it_r, ty_r, b_add, b_sub, b_mul, b_mod, b_fdiv, b_addt, b_addl, b_pow3, b_pow6, b_pow12, b_pow18, i_t, i_l, i_r, sl_t, sl_l, p_len_l, p_len_t, p_len_r, p_abs, p_int, p_intB, p_tup_l, p_tup_t, p_lst_l, p_lst_t, p_sum_l, p_sum_t, p_sum_r, p_all, p_any, p_max2, p_min2, isNon, nolistR, nolist, and_self, and_true, true_and, hp, hq]
  · obtain ⟨e3, h1, h2, h3⟩ := h x hx
    exact ⟨e3, .v (g x), h1, h2, h3, rfl⟩
theorem V_neg {a : T} {i : Int} (ha : V cf e a (.int i)) : V cf e (.neg a) (.int (-i)) := by
  unfold V at ha ⊢
  simp only [ev, R.rv, R.rvs, R.dsk, R.bnd, testR, partR, rd, rds, fz, fzs, nrm, optR, keepS, storable, tru, isD, tyN, Ty.sub, List.any_cons, List.any_nil, List.all_cons, List.all_nil, doCall, mkArgs, lent, isOwnS, noDup, putOuts, argsFit, endF, outsF, startF, bindT, bindTs, List.getElem?_cons_zero, List.getElem?_cons_succ, List.getElem?_nil, List.map_cons, List.map_nil, List.length_cons, List.length_nil, List.replicate, List.cons_append, List.nil_append, List.set_cons_zero, List.set_cons_succ, Option.bind, Option.map, Bool.and_true, Bool.true_and, Bool.and_false, Bool.false_and, Bool.or_true, Bool.true_or, Bool.or_false, Bool.false_or, Bool.not_true, Bool.not_false, Bool.not_not, if_true, if_false, Bool.false_eq_true, reduceIte, reduceCtorEq, decide_true, decide_false, List.isEmpty_nil, List.isEmpty_cons, beq_self_eq_true, Nat.reduceAdd, Nat.reduceSub, Nat.reduceLeDiff, Nat.reduceLT, List.contains_nil, it_l, it_t, it_r, ty_r, b_add, b_sub, b_mul, b_mod, b_fdiv, b_addt, b_addl, b_pow3, b_pow6, b_pow12, b_pow18, i_t, i_l, i_r, sl_t, sl_l, p_len_l, p_len_t, p_len_r, p_abs, p_int, p_intB, p_tup_l, p_tup_t, p_lst_l, p_lst_t, p_sum_l, p_sum_t, p_sum_r, p_all, p_any, p_max2, p_min2, isNon, nolistR, nolist, and_self, and_true, true_and, ha]
theorem same_ifV {x y : T} {d : D} (hx : V cf e x d) (hy : V cf e y d) (hs : cf "_law_same" [.d d, .d d] = .ok (.v (.bool true)) []) : ev cf (.ifS (.notT (.call "_law_same" [false, false] (.cons x (.cons y .nil)))) (.seq (.ret (.const (.bool false))) .done) .done) e = .ok (.fl .nx) e :=
  if_r (x := false) (V_not (x := true) (V_call (Vs_cons hx (Vs_cons hy Vs_nil)) hs)) (fun z => nomatch z) (fun _ => rfl)
theorem sR1_ge {a : T} {e1 : Fm} {m : Int} (h : ev cf a e = .ok (.rv (.v (.int m))) e1) (h1 : -(2 ^ 62) ≤ m) (h2 : m < 2 ^ 62) : ev cf (.sR1 a) e = .ok (.ds (iota 0 m.toNat)) e1 := by
  show (ev cf a e).rv (fun ra e1 => (match rd ra e1 with
    | some (.int n) => if -(2 ^ 62) ≤ n ∧ n < 2 ^ 62 then R.ok (Val.ds (iota 0 n.toNat)) e1 else .bad
    | _ => .bad)) = _
  rw [h]
  dsimp only [R.rv, rd]
  rw [if_pos ⟨h1, h2⟩]
theorem sR1_e {a : T} {e1 : Fm} {n : Nat} (h : ev cf a e = .ok (.rv (.v (.int (n : Nat)))) e1) (hn : n ≤ 1000000) : ev cf (.sR1 a) e = .ok (.ds ((List.range n).map fun i : Nat => PyData.int (0 + (i : Nat)))) e1 := by
  have q := sR1_ge h (by omega) (by omega)
  rw [Int.toNat_natCast] at q
  rw [q, ← iota_enc]
theorem bin_e {op : Operator} {a b : T} {x y d : D} {e1 : Fm} (ha : V cf e a x) (hb : ev cf b e = .ok (.rv (.v y)) e1) (h : binD op x y = some (.v d)) : ev cf (.bin op a b) e = .ok (.rv (.v d)) e1 := by
  show (ev cf a e).rv (fun ra e1 => (ev cf b e1).rv fun rb e2 => (match rd ra e2, rd rb e2 with
    | some x, some y => optR (binD op x y) e2
    | _, _ => .bad)) = _
  rw [ha]
  show (ev cf b e).rv (fun rb e2 => (match rd (.v x) e2, rd rb e2 with
    | some x, some y => optR (binD op x y) e2
    | _, _ => .bad)) = _
  rw [hb]
  show optR (binD op x y) e1 = _
  rw [h]
  rfl
theorem sort_e {c : T} {e1 : Fm} {xs ys : List D} (h : ev cf c e = .ok (.rv (.o xs)) e1) (hs : sortSetD (.list xs) = some ys) : ev cf (.sortSet c) e = .ok (.rv (.o ys)) e1 := by
  show (ev cf c e).rv (fun ra e1 => (match (rd ra e1).bind sortSetD with
    | some ds => R.ok (Val.rv (.o ds)) e1
    | none => .bad)) = _
  rw [h]
  show (match sortSetD (.list xs) with
    | some ds => R.ok (Val.rv (.o ds)) e1
    | none => .bad) = _
  rw [hs]
theorem V_idxb {i : Nat} {b : T} {io : Bool} {xs : List D} {y d : D} (h0 : e[i]? = some (.own io xs)) (hb : V cf e b y) (h : idxD (.list xs) y = some d) : V cf e (.idx (.var i) b) d := by
  unfold V at hb ⊢
  simp only [ev, R.rv, R.rvs, R.dsk, R.bnd, testR, partR, rd, rds, fz, fzs, nrm, optR, keepS, storable, tru, isD, tyN, Ty.sub, List.any_cons, List.any_nil, List.all_cons, List.all_nil, doCall, mkArgs, lent, isOwnS, noDup, putOuts, argsFit, endF, outsF, startF, bindT, bindTs, List.getElem?_cons_zero, List.getElem?_cons_succ, List.getElem?_nil, List.map_cons, List.map_nil, List.length_cons, List.length_nil, List.replicate, List.cons_append, List.nil_append, List.set_cons_zero, List.set_cons_succ, Option.bind, Option.map, Bool.and_true, Bool.true_and, Bool.and_false, Bool.false_and, Bool.or_true, Bool.true_or, Bool.or_false, Bool.false_or, Bool.not_true, Bool.not_false, Bool.not_not, if_true, if_false, Bool.false_eq_true, reduceIte, reduceCtorEq, decide_true, decide_false, List.isEmpty_nil, List.isEmpty_cons, beq_self_eq_true, Nat.reduceAdd, Nat.reduceSub, Nat.reduceLeDiff, Nat.reduceLT, List.contains_nil, it_l, it_t, it_r, ty_r, b_add, b_sub, b_mul, b_mod, b_fdiv, b_addt, b_addl, b_pow3, b_pow6, b_pow12, b_pow18, i_t, i_l, i_r, sl_t, sl_l, p_len_l, p_len_t, p_len_r, p_abs, p_int, p_intB, p_tup_l, p_tup_t, p_lst_l, p_lst_t, p_sum_l, p_sum_t, p_sum_r, p_all, p_any, p_max2, p_min2, isNon, nolistR, nolist, and_self, and_true, true_and, h0, hb, h]
theorem V_prim1b {i : Nat} {p : Prim} {io : Bool} {xs : List D} {d : D} (h0 : e[i]? = some (.own io xs)) (h : primD p [.list xs] = some (.v d)) : V cf e (.prim p (.cons (.var i) .nil)) d := by
  unfold V
  simp only [ev, R.rv, R.rvs, R.dsk, R.bnd, testR, partR, rd, rds, fz, fzs, nrm, optR, keepS, storable, tru, isD, tyN, Ty.sub, List.any_cons, List.any_nil, List.all_cons, List.all_nil, doCall, mkArgs, lent, isOwnS, noDup, putOuts, argsFit, endF, outsF, startF, bindT, bindTs, List.getElem?_cons_zero, List.getElem?_cons_succ, List.getElem?_nil, List.map_cons, List.map_nil, List.length_cons, List.length_nil, List.replicate, List.cons_append, List.nil_append, List.set_cons_zero, List.set_cons_succ, Option.bind, Option.map, Bool.and_true, Bool.true_and, Bool.and_false, Bool.false_and, Bool.or_true, Bool.true_or, Bool.or_false, Bool.false_or, Bool.not_true, Bool.not_false, Bool.not_not, if_true, if_false, Bool.false_eq_true, reduceIte, reduceCtorEq, decide_true, decide_false, List.isEmpty_nil, List.isEmpty_cons, beq_self_eq_true, Nat.reduceAdd, Nat.reduceSub, Nat.reduceLeDiff, Nat.reduceLT, List.contains_nil, it_l, it_t, it_r, ty_r, b_add, b_sub, b_mul, b_mod, b_fdiv, b_addt, b_addl, b_pow3, b_pow6, b_pow12, b_pow18, i_t, i_l, i_r, sl_t, sl_l, p_len_l, p_len_t, p_len_r, p_abs, p_int, p_intB, p_tup_l, p_tup_t, p_lst_l, p_lst_t, p_sum_l, p_sum_t, p_sum_r, p_all, p_any, p_max2, p_min2, isNon, nolistR, nolist, and_self, and_true, true_and, h0, h]
theorem call_io1 {f : Str} {i : Nat} {bx bx' : List D} {r : D} {io : Bool} (h0 : e[i]? = some (.own io bx)) (h : cf f [.io bx] = .ok (.v r) [bx']) : ev cf (.call f [true] (.cons (.var i) .nil)) e = .ok (.rv (.v r)) (e.set i (.own io bx')) := by
  simp only [ev, R.rv, R.rvs, R.dsk, R.bnd, testR, partR, rd, rds, fz, fzs, nrm, optR, keepS, storable, tru, isD, tyN, Ty.sub, List.any_cons, List.any_nil, List.all_cons, List.all_nil, doCall, mkArgs, lent, isOwnS, noDup, putOuts, argsFit, endF, outsF, startF, bindT, bindTs, List.getElem?_cons_zero, List.getElem?_cons_succ, List.getElem?_nil, List.map_cons, List.map_nil, List.length_cons, List.length_nil, List.replicate, List.cons_append, List.nil_append, List.set_cons_zero, List.set_cons_succ, Option.bind, Option.map, Bool.and_true, Bool.true_and, Bool.and_false, Bool.false_and, Bool.or_true, Bool.true_or, Bool.or_false, Bool.false_or, Bool.not_true, Bool.not_false, Bool.not_not, if_true, if_false, Bool.false_eq_true, reduceIte, reduceCtorEq, decide_true, decide_false, List.isEmpty_nil, List.isEmpty_cons, beq_self_eq_true, Nat.reduceAdd, Nat.reduceSub, Nat.reduceLeDiff, Nat.reduceLT, List.contains_nil, it_l, it_t, it_r, ty_r, b_add, b_sub, b_mul, b_mod, b_fdiv, b_addt, b_addl, b_pow3, b_pow6, b_pow12, b_pow18, i_t, i_l, i_r, sl_t, sl_l, p_len_l, p_len_t, p_len_r, p_abs, p_int, p_intB, p_tup_l, p_tup_t, p_lst_l, p_lst_t, p_sum_l, p_sum_t, p_sum_r, p_all, p_any, p_max2, p_min2, isNon, nolistR, nolist, and_self, and_true, true_and, h0, h]
theorem evC_V {op : CmpOp} {a b : T} {x : Bool} (h : V cf e (.cmp op a b) (.bool x)) : evC' cf (.cmp op a b) e = .ok x e := by
  show testR (ev cf (.cmp op a b) e) = _
  rw [h]
  rfl
theorem V_one {a : T} {d : D} (h : V cf e a d) : V cf e (.one a) d := h
theorem V_sl1 {i : Nat} {xs : List D} (h0 : e[i]? = some (.val (.tuple xs))) (h : 1 ≤ xs.length) : V cf e (.slc (.var i) (.const (.int 1)) .absent) (.tuple (xs.drop 1)) := by
  unfold V
  simp only [ev, R.rv, R.rvs, R.dsk, R.bnd, testR, partR, rd, rds, fz, fzs, nrm, optR, keepS, storable, tru, isD, tyN, Ty.sub, List.any_cons, List.any_nil, List.all_cons, List.all_nil, doCall, mkArgs, lent, isOwnS, noDup, putOuts, argsFit, endF, outsF, startF, bindT, bindTs, List.getElem?_cons_zero, List.getElem?_cons_succ, List.getElem?_nil, List.map_cons, List.map_nil, List.length_cons, List.length_nil, List.replicate, List.cons_append, List.nil_append, List.set_cons_zero, List.set_cons_succ, Option.bind, Option.map, Bool.and_true, Bool.true_and, Bool.and_false, Bool.false_and, Bool.or_true, Bool.true_or, Bool.or_false, Bool.false_or, Bool.not_true, Bool.not_false, Bool.not_not, if_true, if_false, Bool.false_eq_true, reduceIte, reduceCtorEq, decide_true, decide_false, List.isEmpty_nil, List.isEmpty_cons, beq_self_eq_true, Nat.reduceAdd, Nat.reduceSub, Nat.reduceLeDiff, Nat.reduceLT, List.contains_nil, it_l, it_t, it_r, ty_r, b_add, b_sub, b_mul, b_mod, b_fdiv, b_addt, b_addl, b_pow3, b_pow6, b_pow12, b_pow18, i_t, i_l, i_r, sl_t, sl_l, p_len_l, p_len_t, p_len_r, p_abs, p_int, p_intB, p_tup_l, p_tup_t, p_lst_l, p_lst_t, p_sum_l, p_sum_t, p_sum_r, p_all, p_any, p_max2, p_min2, isNon, nolistR, nolist, and_self, and_true, true_and, h0]
  rw [show (1 : Int) = ((1 : Nat) : Int) from rfl, cut_hi _ _ h]
theorem fLoop_inv {α : Type} {enc : α → D} {step : D → Fm → R Val} {P : Fm → Prop} : ∀ (xs : List α) (e : Fm), P e → (∀ x ∈ xs, ∀ e, P e → ∃ e', step (enc x) e = .ok (.fl .nx) e' ∧ P e') → ∃ e', fLoop step (xs.map enc) e = .ok (.fl .nx) e' ∧ P e'
  | [], e, h, _ => ⟨e, rfl, h⟩
  | x :: xs, e, h, hs => by
    obtain ⟨e1, h1, h2⟩ := hs x List.mem_cons_self e h
    obtain ⟨e2, h3, h4⟩ := fLoop_inv xs e1 h2 fun y hy => hs y (List.mem_cons_of_mem _ hy)
    refine ⟨e2, ?_, h4⟩
    show (match step (enc x) e with
      | .ok (.fl .nx) e1 => fLoop step (xs.map enc) e1
      | .ok (.fl .cont) e1 => fLoop step (xs.map enc) e1
      | .ok (.fl .brk) e1 => .ok (.fl .nx) e1
      | .ok (.fl (.ret r)) e1 => .ok (.fl (.ret r)) e1
      | .rz x e1 => .rz x e1
      | _ => .bad) = _
    rw [h1]
    exact h3
theorem of_call {e1 : Fm} {x : T} {ds b0 b1 b2 : List D} {r : D} {i : Nat} {io : Bool} (h0 : e[i]? = some (.own io b0)) (hx : ev cf x e = .ok (.rv (.o ds)) e1) (h1 : e1[i]? = some (.own io b1)) (h : cf "_law_of" [.io b1, .d (.list ds)] = .ok (.v r) [b2]) : ev cf (.call "_law_of" [true, false] (.cons (.var i) (.cons x .nil))) e = .ok (.rv (.v r)) (e1.set i (.own io b2)) := by
  simp only [ev, R.rv, R.rvs, R.dsk, R.bnd, testR, partR, rd, rds, fz, fzs, nrm, optR, keepS, storable, tru, isD, tyN, Ty.sub, List.any_cons, List.any_nil, List.all_cons, List.all_nil, doCall, mkArgs, lent, isOwnS, noDup, putOuts, argsFit, endF, outsF, startF, bindT, bindTs, List.getElem?_cons_zero, List.getElem?_cons_succ, List.getElem?_nil, List.map_cons, List.map_nil, List.length_cons, List.length_nil, List.replicate, List.cons_append, List.nil_append, List.set_cons_zero, List.set_cons_succ, Option.bind, Option.map, Bool.and_true, Bool.true_and, Bool.and_false, Bool.false_and, Bool.or_true, Bool.true_or, Bool.or_false, Bool.false_or, Bool.not_true, Bool.not_false, Bool.not_not, if_true, if_false, Bool.false_eq_true, reduceIte, reduceCtorEq, decide_true, decide_false, List.isEmpty_nil, List.isEmpty_cons, beq_self_eq_true, Nat.reduceAdd, Nat.reduceSub, Nat.reduceLeDiff, Nat.reduceLT, List.contains_nil, it_l, it_t, it_r, ty_r, b_add, b_sub, b_mul, b_mod, b_fdiv, b_addt, b_addl, b_pow3, b_pow6, b_pow12, b_pow18, i_t, i_l, i_r, sl_t, sl_l, p_len_l, p_len_t, p_len_r, p_abs, p_int, p_intB, p_tup_l, p_tup_t, p_lst_l, p_lst_t, p_sum_l, p_sum_t, p_sum_r, p_all, p_any, p_max2, p_min2, isNon, nolistR, nolist, and_self, and_true, true_and, h0, hx, h1, h]
theorem ret_v {x : T} {e1 : Fm} {d : D} (h : ev cf x e = .ok (.rv (.v d)) e1) : ev cf (.ret x) e = .ok (.fl (.ret (.v d))) e1 := by
  show (ev cf x e).rv _ = _
  rw [h]
  rfl
theorem ret_o {x : T} {e1 : Fm} {ds : List D} (h : ev cf x e = .ok (.rv (.o ds)) e1) : ev cf (.ret x) e = .ok (.fl (.ret (.o ds))) e1 := by
  show (ev cf x e).rv _ = _
  rw [h]
  rfl
theorem ret_own {i : Nat} {ds : List D} (h : e[i]? = some (.own false ds)) : ev cf (.ret (.var i)) e = .ok (.fl (.ret (.o ds))) (e.set i .no) := by
  simp only [ev, R.rv, R.rvs, R.dsk, R.bnd, testR, partR, rd, rds, fz, fzs, nrm, optR, keepS, storable, tru, isD, tyN, Ty.sub, List.any_cons, List.any_nil, List.all_cons, List.all_nil, doCall, mkArgs, lent, isOwnS, noDup, putOuts, argsFit, endF, outsF, startF, bindT, bindTs, List.getElem?_cons_zero, List.getElem?_cons_succ, List.getElem?_nil, List.map_cons, List.map_nil, List.length_cons, List.length_nil, List.replicate, List.cons_append, List.nil_append, List.set_cons_zero, List.set_cons_succ, Option.bind, Option.map, Bool.and_true, Bool.true_and, Bool.and_false, Bool.false_and, Bool.or_true, Bool.true_or, Bool.or_false, Bool.false_or, Bool.not_true, Bool.not_false, Bool.not_not, if_true, if_false, Bool.false_eq_true, reduceIte, reduceCtorEq, decide_true, decide_false, List.isEmpty_nil, List.isEmpty_cons, beq_self_eq_true, Nat.reduceAdd, Nat.reduceSub, Nat.reduceLeDiff, Nat.reduceLT, List.contains_nil, it_l, it_t, it_r, ty_r, b_add, b_sub, b_mul, b_mod, b_fdiv, b_addt, b_addl, b_pow3, b_pow6, b_pow12, b_pow18, i_t, i_l, i_r, sl_t, sl_l, p_len_l, p_len_t, p_len_r, p_abs, p_int, p_intB, p_tup_l, p_tup_t, p_lst_l, p_lst_t, p_sum_l, p_sum_t, p_sum_r, p_all, p_any, p_max2, p_min2, isNon, nolistR, nolist, and_self, and_true, true_and, h]
theorem seq_ret {a b : T} {e1 : Fm} {r : RV} (h : ev cf a e = .ok (.fl (.ret r)) e1) : ev cf (.seq a b) e = .ok (.fl (.ret r)) e1 := by
  show (match ev cf a e with
    | .ok (.fl .nx) e1 => ev cf b e1
    | r => r) = _
  rw [h]
theorem and_e {a b : T} {e1 : Fm} {r : R Val} (ha : ev cf a e = .ok (.rv (.v (.bool true))) e1) (hb : ev cf b e1 = r) : ev cf (.and a b) e = r := by
  show (ev cf a e).rv (fun ra e1 => (match (rd ra e1).bind tru with
    | some true => ev cf b e1
    | some false => R.ok (Val.rv ra) e1
    | none => .bad)) = _
  rw [ha]
  exact hb
theorem setIx_v {i : Nat} {ix x : T} {n : Int} {j : Nat} {d : D} {io : Bool} {ds : List D} (hx : V cf e x d) (hi : V cf e ix (.int n)) (h0 : e[i]? = some (.own io ds)) (hj : ixN ds.length n = some j) : ev cf (.setIx i ix x) e = .ok (.fl .nx) (e.set i (.own io (ds.set j d))) := by
  unfold V at hx hi
  simp only [ev, R.rv, R.rvs, R.dsk, R.bnd, testR, partR, rd, rds, fz, fzs, nrm, optR, keepS, storable, tru, isD, tyN, Ty.sub, List.any_cons, List.any_nil, List.all_cons, List.all_nil, doCall, mkArgs, lent, isOwnS, noDup, putOuts, argsFit, endF, outsF, startF, bindT, bindTs, List.getElem?_cons_zero, List.getElem?_cons_succ, List.getElem?_nil, List.map_cons, List.map_nil, List.length_cons, List.length_nil, List.replicate, List.cons_append, List.nil_append, List.set_cons_zero, List.set_cons_succ, Option.bind, Option.map, Bool.and_true, Bool.true_and, Bool.and_false, Bool.false_and, Bool.or_true, Bool.true_or, Bool.or_false, Bool.false_or, Bool.not_true, Bool.not_false, Bool.not_not, if_true, if_false, Bool.false_eq_true, reduceIte, reduceCtorEq, decide_true, decide_false, List.isEmpty_nil, List.isEmpty_cons, beq_self_eq_true, Nat.reduceAdd, Nat.reduceSub, Nat.reduceLeDiff, Nat.reduceLT, List.contains_nil, it_l, it_t, it_r, ty_r, b_add, b_sub, b_mul, b_mod, b_fdiv, b_addt, b_addl, b_pow3, b_pow6, b_pow12, b_pow18, i_t, i_l, i_r, sl_t, sl_l, p_len_l, p_len_t, p_len_r, p_abs, p_int, p_intB, p_tup_l, p_tup_t, p_lst_l, p_lst_t, p_sum_l, p_sum_t, p_sum_r, p_all, p_any, p_max2, p_min2, isNon, nolistR, nolist, and_self, and_true, true_and, hx, hi, h0, hj]
theorem bind_st {i : Nat} {d : D} {s : Slot} (h : e[i]? = some s) (hs : storable (some s) = true) : bindT (.tN i) d e = some (e.set i (.val d)) := by
  show (match e[i]? with
    | some (.own true _) => none
    | some _ => some (e.set i (.val d))
    | none => none) = _
  rw [h]
  match s, hs with
  | .no, _ => rfl
  | .val _, _ => rfl
  | .own false _, _ => rfl
theorem for_ok {tg src body : T} {e1 : Fm} {items : List D} {r : R Val} (h : ev cf src e = .ok (.ds items) e1) (hl : fLoop (fun d e2 => match bindT tg d e2 with
    | some e3 => ev cf body e3
    | none => .bad) items e1 = r) : ev cf (.forS tg src body) e = r := by
  show (ev cf src e).dsk (fun items e1 => fLoop (fun d e2 => match bindT tg d e2 with
    | some e3 => ev cf body e3
    | none => .bad) items e1) = _
  rw [h]
  exact hl
end
theorem enumF_enc : ∀ (zs : List Int) (i : Int), ∃ ps : List (Int × Int), enumF i (zs.map .int) = ps.map (fun p => PyData.tuple [.int p.1, .int p.2]) ∧ ∀ p ∈ ps, i ≤ p.1 ∧ p.1 < i + zs.length
  | [], i => ⟨[], rfl, fun _ h => nomatch h⟩
  | z :: zs, i => by
    obtain ⟨ps, h1, h2⟩ := enumF_enc zs (i + 1)
    refine ⟨(i, z) :: ps, ?_, fun p hp => ?_⟩
    · show PyData.tuple [.int i, .int z] :: enumF (i + 1) (zs.map .int) = _
      rw [h1]
      rfl
    · rw [List.length_cons]
      rcases List.mem_cons.mp hp with rfl | hp
      · dsimp only; omega
      · have := h2 p hp; omega
theorem cut_map {α β : Type} (f : α → β) (xs : List α) (lo hi : Option Int) : cut (xs.map f) lo hi = (cut xs lo hi).map f := by
  unfold cut
  rw [List.map_take, List.map_drop, List.length_map]
theorem cut_len {α : Type} (xs : List α) (lo hi : Option Int) : (cut xs lo hi).length ≤ xs.length := by
  unfold cut
  rw [List.length_take, List.length_drop]
  omega
theorem sum_nn : ∀ ws : List Int, (∀ w ∈ ws, 0 ≤ w) → 0 ≤ ws.sum
  | [], _ => by simp
  | w :: ws, h => by
    have h1 := h w List.mem_cons_self
    have h2 := sum_nn ws fun x hx => h x (List.mem_cons_of_mem _ hx)
    rw [List.sum_cons]
    omega
theorem min_go : ∀ (l : List Int) (x : Int), l.foldl min x ≤ x ∧ (∀ y ∈ l, l.foldl min x ≤ y) ∧ (l.foldl min x = x ∨ l.foldl min x ∈ l)
  | [], x => ⟨Int.le_refl _, fun _ h => (nomatch h), .inl rfl⟩
  | y :: l, x => by
    obtain ⟨h1, h2, h3⟩ := min_go l (min x y)
    rw [List.foldl_cons]
    refine ⟨by omega, fun z hz => ?_, ?_⟩
    · rcases List.mem_cons.mp hz with rfl | hz
      · omega
      · exact h2 z hz
    · rcases h3 with h3 | h3
      · rw [h3]
        by_cases q : x ≤ y
        · exact .inl (by omega)
        · exact .inr (by rw [show min x y = y by omega]; exact List.mem_cons_self)
      · exact .inr (List.mem_cons_of_mem _ h3)
theorem minI_le {l : List Int} (h : l ≠ []) : (∀ y ∈ l, minI l ≤ y) ∧ minI l ∈ l := by
  cases l with
  | nil => exact absurd rfl h
  | cons x l =>
    obtain ⟨h1, h2, h3⟩ := min_go l x
    refine ⟨fun y hy => ?_, ?_⟩
    · rcases List.mem_cons.mp hy with rfl | hy
      · exact h1
      · exact h2 y hy
    · rcases h3 with h3 | h3
      · exact List.mem_cons.mpr (.inl h3)
      · exact List.mem_cons_of_mem _ h3
theorem all_min {l : List Int} (h : l ≠ []) (x : Int) (hx : x ∈ l) : (l.all fun y => decide (x ≤ y)) = decide (x = minI l) := by
  obtain ⟨h1, h2⟩ := minI_le h
  by_cases q : x = minI l
  · rw [decide_eq_true q]
    exact List.all_eq_true.mpr fun y hy => decide_eq_true (by rw [q]; exact h1 y hy)
  · rw [decide_eq_false q]
    have := h1 x hx
    exact List.all_eq_false.mpr ⟨minI l, h2, by simp; omega⟩
theorem all_pos {l : List Int} (h : l ≠ []) : (l.all fun y => decide (0 < y)) = decide (minI l > 0) := by
  obtain ⟨h1, h2⟩ := minI_le h
  by_cases q : minI l > 0
  · rw [decide_eq_true q]
    exact List.all_eq_true.mpr fun y hy => decide_eq_true (by have := h1 y hy; omega)
  · rw [decide_eq_false q]
    exact List.all_eq_false.mpr ⟨minI l, h2, by simp; omega⟩
theorem at_getD {r : List Int} {i : Nat} (h : i < r.length) : idxD (rowD r) (.int (0 + (i : Nat))) = some (.int (r.getD i 0)) := by
  rw [Int.zero_add, at_row h, List.getD_eq_getElem?_getD, List.getElem?_eq_getElem h]
  rfl
theorem at_get {r : List Int} {i : Nat} (h : i < r.length) : idxD (.list (r.map .int)) (.int (0 + (i : Nat))) = some (.int r[i]) := by
  have := at_row h
  rw [Int.zero_add]
  exact this
/-! ### draws: the box -/
def Box (n : Nat) (bx : List D) : Prop := ∃ b0 b1 b2 : Int, bx = [.int b0, .int b1, .int b2] ∧ 0 ≤ b0 ∧ 0 ≤ b1 ∧ b1 < 2 ^ 62 ∧ 0 ≤ b2 ∧ b2 ≤ n
theorem log_ok {j : Int} (h : 0 < j) (h' : j < 2 ^ 63) : 0 < j ∧ j.natAbs.log2 < 9000 := by
  refine ⟨h, ?_⟩
  have h1 : j.natAbs < 2 ^ 63 := by omega
  have h2 : j.natAbs.log2 < 63 := (Nat.log2_lt (by omega)).mpr h1
  omega
theorem at3 (a b c : D) : atI [a, b, c] 0 = some a ∧ atI [a, b, c] 1 = some b ∧ atI [a, b, c] 2 = some c := ⟨rfl, rfl, rfl⟩
theorem ix3 : ixN 3 0 = some 0 ∧ ixN 3 2 = some 2 := ⟨rfl, rfl⟩
theorem box_mono {n m : Nat} {bx : List D} (h : Box n bx) (h' : n ≤ m) : Box m bx := by
  obtain ⟨b0, b1, b2, e, z⟩ := h
  exact ⟨b0, b1, b2, e, z.1, z.2.1, z.2.2.1, z.2.2.2.1, by omega⟩
theorem nl_int (x : Int) : nolist (.int x) = true := rfl
theorem nl_ints : ∀ ns : List Int, nolists (ns.map .int) = true
  | [] => rfl
  | n :: ns => nl_ints ns
theorem box_nl {n : Nat} {bx : List D} (h : Box n bx) : nolists bx = true := by
  obtain ⟨_, _, _, rfl, _⟩ := h
  rfl
/-! ### the same data twice -/
mutual
def okD : D → Bool
  | .none => true
  | .bool _ => true
  | .int _ => true
  | .str _ => true
  | .list xs => decide (xs.length ≤ 1000) && okDs xs
  | .tuple xs => decide (xs.length ≤ 1000) && okDs xs
  | .dict _ => false
def okDs : List D → Bool
  | [] => true
  | x :: r => okD x && okDs r
end
mutual
def hgt : D → Nat
  | .list xs => hgts xs + 1
  | .tuple xs => hgts xs + 1
  | _ => 0
def hgts : List D → Nat
  | [] => 0
  | x :: r => max (hgt x) (hgts r)
end
theorem c_eqS (s : Str) : cmpD .Eq (.str s) (.str s) = some true := by
  have e : cmpD .Eq (.str s) (.str s) = if cmpOk (.str s) (.str s) then some (s == s) else none := rfl
  have d : (PyData.str s).depth ≤ 190 := by simp [PyData.depth]
  rw [e, cmpOk_of d, if_pos rfl, beq_self_eq_true]
theorem c_is (d : D) : cmpD .Is d .none = some (isNon d) := by cases d <;> rfl
theorem zip_self : ∀ xs : List D, zipF xs xs = xs.map fun x => .tuple [x, x]
  | [] => rfl
  | x :: r => by
    show PyData.tuple [x, x] :: zipF r r = _
    rw [zip_self r]
    rfl
theorem okDs_map {α : Type} (f : α → D) (l : List α) (h : ∀ x ∈ l, okD (f x) = true) : okDs (l.map f) = true := by
  induction l with
  | nil => rfl
  | cons x l ih => 
    show (okD (f x) && okDs (l.map f)) = true
    rw [h x List.mem_cons_self, ih fun y hy => h y (List.mem_cons_of_mem _ hy)]
    rfl
theorem hgts_map {α : Type} {n : Nat} (f : α → D) (l : List α) (h : ∀ x ∈ l, hgt (f x) ≤ n) : hgts (l.map f) ≤ n := by
  induction l with
  | nil => exact Nat.zero_le _
  | cons x l ih =>
    have h1 := h x List.mem_cons_self
    have h2 := ih fun y hy => h y (List.mem_cons_of_mem _ hy)
    show max (hgt (f x)) (hgts (l.map f)) ≤ n
    omega
theorem okD_row (r : List Int) (h : r.length ≤ 1000) : okD (rowD r) = true := by
  show (decide ((r.map PyData.int).length ≤ 1000) && okDs (r.map .int)) = true
  rw [List.length_map, decide_eq_true h, okDs_map _ _ fun _ _ => rfl]
  rfl
theorem hgt_row (r : List Int) : hgt (rowD r) ≤ 1 := by
  show hgts (r.map .int) + 1 ≤ 1
  have := hgts_map (n := 0) PyData.int r fun _ _ => Nat.le_refl 0
  omega
end L2.Mp
set_option Elab.async false
set_option linter.all false
set_option maxRecDepth 100000
set_option maxHeartbeats 0
namespace L2.Mp
open PySem PySem.Spec PyProof.Rows L2
/-! ### the defs, one by one -/
theorem u_is_number (k : Nat) (as : List Arg) : runF tb (k+1) "is_number" as = if argsFit [false] as then endF [false] (ev (runF tb k) f_is_number.body (startF 1 as)) else .bad := rfl
theorem u_is_from (k : Nat) (as : List Arg) : runF tb (k+1) "is_from" as = if argsFit [false, false] as then endF [false, false] (ev (runF tb k) f_is_from.body (startF 2 as)) else .bad := rfl
theorem u_tuple_of (k : Nat) (as : List Arg) : runF tb (k+1) "tuple_of" as = if argsFit [false] as then endF [false] (ev (runF tb k) f_tuple_of.body (startF 2 as)) else .bad := rfl
theorem u_is_tuple_of (k : Nat) (as : List Arg) : runF tb (k+1) "is_tuple_of" as = if argsFit [false, false] as then endF [false, false] (ev (runF tb k) f_is_tuple_of.body (startF 2 as)) else .bad := rfl
theorem u_sure (k : Nat) (as : List Arg) : runF tb (k+1) "sure" as = if argsFit [false] as then endF [false] (ev (runF tb k) f_sure.body (startF 1 as)) else .bad := rfl
theorem u_is_name (k : Nat) (as : List Arg) : runF tb (k+1) "is_name" as = if argsFit [false] as then endF [false] (ev (runF tb k) f_is_name.body (startF 2 as)) else .bad := rfl
theorem u_is_term (k : Nat) (as : List Arg) : runF tb (k+1) "is_term" as = if argsFit [false] as then endF [false] (ev (runF tb k) f_is_term.body (startF 2 as)) else .bad := rfl
theorem u_made_size (k : Nat) (as : List Arg) : runF tb (k+1) "made_size" as = if argsFit [false] as then endF [false] (ev (runF tb k) f_made_size.body (startF 2 as)) else .bad := rfl
theorem u_sure_term (k : Nat) (as : List Arg) : runF tb (k+1) "sure_term" as = if argsFit [false] as then endF [false] (ev (runF tb k) f_sure_term.body (startF 2 as)) else .bad := rfl
theorem u_found_at (k : Nat) (as : List Arg) : runF tb (k+1) "found_at" as = if argsFit [false, false] as then endF [false, false] (ev (runF tb k) f_found_at.body (startF 3 as)) else .bad := rfl
theorem u_made_put (k : Nat) (as : List Arg) : runF tb (k+1) "made_put" as = if argsFit [false, false, false] as then endF [false, false, false] (ev (runF tb k) f_made_put.body (startF 4 as)) else .bad := rfl
theorem u_is_rule (k : Nat) (as : List Arg) : runF tb (k+1) "is_rule" as = if argsFit [false] as then endF [false] (ev (runF tb k) f_is_rule.body (startF 1 as)) else .bad := rfl
theorem u_is_book (k : Nat) (as : List Arg) : runF tb (k+1) "is_book" as = if argsFit [false] as then endF [false] (ev (runF tb k) f_is_book.body (startF 2 as)) else .bad := rfl
theorem u_is_low (k : Nat) (as : List Arg) : runF tb (k+1) "is_low" as = if argsFit [false] as then endF [false] (ev (runF tb k) f_is_low.body (startF 3 as)) else .bad := rfl
theorem u_sure_book (k : Nat) (as : List Arg) : runF tb (k+1) "sure_book" as = if argsFit [false] as then endF [false] (ev (runF tb k) f_sure_book.body (startF 2 as)) else .bad := rfl
theorem u_is_pair (k : Nat) (as : List Arg) : runF tb (k+1) "is_pair" as = if argsFit [false] as then endF [false] (ev (runF tb k) f_is_pair.body (startF 2 as)) else .bad := rfl
theorem u_sure_run (k : Nat) (as : List Arg) : runF tb (k+1) "sure_run" as = if argsFit [false] as then endF [false] (ev (runF tb k) f_sure_run.body (startF 3 as)) else .bad := rfl
theorem u_made_after (k : Nat) (as : List Arg) : runF tb (k+1) "made_after" as = if argsFit [false, false, false] as then endF [false, false, false] (ev (runF tb k) f_made_after.body (startF 5 as)) else .bad := rfl
theorem u_made_along (k : Nat) (as : List Arg) : runF tb (k+1) "made_along" as = if argsFit [false, false, false] as then endF [false, false, false] (ev (runF tb k) f_made_along.body (startF 7 as)) else .bad := rfl
theorem u_terms_along (k : Nat) (as : List Arg) : runF tb (k+1) "terms_along" as = if argsFit [false, false, false] as then endF [false, false, false] (ev (runF tb k) f_terms_along.body (startF 5 as)) else .bad := rfl
theorem u_end_of (k : Nat) (as : List Arg) : runF tb (k+1) "end_of" as = if argsFit [false, false, false] as then endF [false, false, false] (ev (runF tb k) f_end_of.body (startF 3 as)) else .bad := rfl
theorem u_made_counts (k : Nat) (as : List Arg) : runF tb (k+1) "made_counts" as = if argsFit [false, false] as then endF [false, false] (ev (runF tb k) f_made_counts.body (startF 4 as)) else .bad := rfl
theorem u_counts_of (k : Nat) (as : List Arg) : runF tb (k+1) "counts_of" as = if argsFit [false, false] as then endF [false, false] (ev (runF tb k) f_counts_of.body (startF 6 as)) else .bad := rfl
theorem u_leads_so (k : Nat) (as : List Arg) : runF tb (k+1) "leads_so" as = if argsFit [false, false, false, false] as then endF [false, false, false, false] (ev (runF tb k) f_leads_so.body (startF 6 as)) else .bad := rfl
theorem u_is_run (k : Nat) (as : List Arg) : runF tb (k+1) "is_run" as = if argsFit [false, false, false, false] as then endF [false, false, false, false] (ev (runF tb k) f_is_run.body (startF 7 as)) else .bad := rfl
theorem u_added (k : Nat) (as : List Arg) : runF tb (k+1) "added" as = if argsFit [false, false] as then endF [false, false] (ev (runF tb k) f_added.body (startF 4 as)) else .bad := rfl
theorem u_has_form (k : Nat) (as : List Arg) : runF tb (k+1) "has_form" as = if argsFit [false] as then endF [false] (ev (runF tb k) f_has_form.body (startF 2 as)) else .bad := rfl
theorem u_made_ends (k : Nat) (as : List Arg) : runF tb (k+1) "made_ends" as = if argsFit [false, false] as then endF [false, false] (ev (runF tb k) f_made_ends.body (startF 8 as)) else .bad := rfl
theorem u_sure_derivation (k : Nat) (as : List Arg) : runF tb (k+1) "sure_derivation" as = if argsFit [false, false] as then endF [false, false] (ev (runF tb k) f_sure_derivation.body (startF 3 as)) else .bad := rfl
theorem u_ends_of (k : Nat) (as : List Arg) : runF tb (k+1) "ends_of" as = if argsFit [false, false] as then endF [false, false] (ev (runF tb k) f_ends_of.body (startF 3 as)) else .bad := rfl
theorem u_unit (k : Nat) (as : List Arg) : runF tb (k+1) "unit" as = if argsFit [false, false] as then endF [false, false] (ev (runF tb k) f_unit.body (startF 3 as)) else .bad := rfl
theorem u_made_in (k : Nat) (as : List Arg) : runF tb (k+1) "made_in" as = if argsFit [false, false] as then endF [false, false] (ev (runF tb k) f_made_in.body (startF 4 as)) else .bad := rfl
theorem u_counts_in (k : Nat) (as : List Arg) : runF tb (k+1) "counts_in" as = if argsFit [false, false] as then endF [false, false] (ev (runF tb k) f_counts_in.body (startF 3 as)) else .bad := rfl
theorem u_made_run (k : Nat) (as : List Arg) : runF tb (k+1) "made_run" as = if argsFit [false] as then endF [false] (ev (runF tb k) f_made_run.body (startF 6 as)) else .bad := rfl
theorem u_run_of (k : Nat) (as : List Arg) : runF tb (k+1) "run_of" as = if argsFit [false, false] as then endF [false, false] (ev (runF tb k) f_run_of.body (startF 3 as)) else .bad := rfl
theorem u_made_derivation (k : Nat) (as : List Arg) : runF tb (k+1) "made_derivation" as = if argsFit [false, false, false] as then endF [false, false, false] (ev (runF tb k) f_made_derivation.body (startF 13 as)) else .bad := rfl
theorem u_derivation_of (k : Nat) (as : List Arg) : runF tb (k+1) "derivation_of" as = if argsFit [false, false, false] as then endF [false, false, false] (ev (runF tb k) f_derivation_of.body (startF 6 as)) else .bad := rfl
theorem u_law_box (k : Nat) (as : List Arg) : runF tb (k+1) "_law_box" as = if argsFit [false, false] as then endF [false, false] (ev (runF tb k) f_law_box.body (startF 3 as)) else .bad := rfl
theorem u_law_take (k : Nat) (as : List Arg) : runF tb (k+1) "_law_take" as = if argsFit [true, false] as then endF [true, false] (ev (runF tb k) f_law_take.body (startF 6 as)) else .bad := rfl
theorem u_law_cells (k : Nat) (as : List Arg) : runF tb (k+1) "_law_cells" as = if argsFit [false, false] as then endF [false, false] (ev (runF tb k) f_law_cells.body (startF 6 as)) else .bad := rfl
theorem u_law_same (k : Nat) (as : List Arg) : runF tb (k+1) "_law_same" as = if argsFit [false, false] as then endF [false, false] (ev (runF tb k) f_law_same.body (startF 4 as)) else .bad := rfl
theorem u_law_of (k : Nat) (as : List Arg) : runF tb (k+1) "_law_of" as = if argsFit [true, false] as then endF [true, false] (ev (runF tb k) f_law_of.body (startF 2 as)) else .bad := rfl
theorem u_law_pick (k : Nat) (as : List Arg) : runF tb (k+1) "_law_pick" as = if argsFit [true, false, false] as then endF [true, false, false] (ev (runF tb k) f_law_pick.body (startF 6 as)) else .bad := rfl
theorem u_law_mixed (k : Nat) (as : List Arg) : runF tb (k+1) "_law_mixed" as = if argsFit [true, false, false] as then endF [true, false, false] (ev (runF tb k) f_law_mixed.body (startF 6 as)) else .bad := rfl
theorem u_law_right (k : Nat) (as : List Arg) : runF tb (k+1) "_law_right" as = if argsFit [true] as then endF [true] (ev (runF tb k) f_law_right.body (startF 34 as)) else .bad := rfl
theorem u_law (k : Nat) (as : List Arg) : runF tb (k+1) "law" as = if argsFit [false] as then endF [false] (ev (runF tb k) f_law.body (startF 2 as)) else .bad := rfl
section
variable (k : Nat) {m : Nat} {bx : List D} {a b c : List Int}
theorem s_number (n : Int) : runF tb (k+1) "is_number" [.d (.int n)] = .ok (.v (.bool true)) [] := by rfl
theorem s_from (n a : Int) : runF tb (k+2) "is_from" [.d (.int n), .d (.int a)] = .ok (.v (.bool (decide (a ≤ n)))) [] := by
  rw [u_is_from]
  simp only [ev, R.rv, R.rvs, R.dsk, R.bnd, testR, partR, rd, rds, fz, fzs, nrm, optR, keepS, storable, tru, isD, tyN, Ty.sub, List.any_cons, List.any_nil, List.all_cons, List.all_nil, doCall, mkArgs, lent, isOwnS, noDup, putOuts, argsFit, endF, outsF, startF, bindT, bindTs, List.getElem?_cons_zero, List.getElem?_cons_succ, List.getElem?_nil, List.map_cons, List.map_nil, List.length_cons, List.length_nil, List.replicate, List.cons_append, List.nil_append, List.set_cons_zero, List.set_cons_succ, Option.bind, Option.map, Bool.and_true, Bool.true_and, Bool.and_false, Bool.false_and, Bool.or_true, Bool.true_or, Bool.or_false, Bool.false_or, Bool.not_true, Bool.not_false, Bool.not_not, if_true, if_false, Bool.false_eq_true, reduceIte, reduceCtorEq, decide_true, decide_false, List.isEmpty_nil, List.isEmpty_cons, beq_self_eq_true, Nat.reduceAdd, Nat.reduceSub, Nat.reduceLeDiff, Nat.reduceLT, List.contains_nil, it_l, it_t, it_r, ty_r, b_add, b_sub, b_mul, b_mod, b_fdiv, b_addt, b_addl, b_pow3, b_pow6, b_pow12, b_pow18, i_t, i_l, i_r, sl_t, sl_l, p_len_l, p_len_t, p_len_r, p_abs, p_int, p_intB, p_tup_l, p_tup_t, p_lst_l, p_lst_t, p_sum_l, p_sum_t, p_sum_r, p_all, p_any, p_max2, p_min2, isNon, nolistR, nolist, and_self, and_true, true_and, f_is_from, s_number, c_ge]
theorem s_sure : runF tb (k+1) "sure" [.d (.bool true)] = .ok (.v .none) [] := by rfl
theorem s_take {n : Nat} {bx : List D} (hb : Box n bx) (hn : n < 2 ^ 30) {z : Int} (hz : 0 < z) (hz2 : z < 2 ^ 63) : ∃ (r : Int) (bx' : List D), runF tb (k+1) "_law_take" [.io bx, .d (.int z)] = .ok (.v (.int r)) [bx'] ∧ 0 ≤ r ∧ r < z ∧ Box (n + 1) bx' := by
  obtain ⟨b0, b1, b2, rfl, h0, h1, h1', h2, h2'⟩ := hb
  by_cases q : 0 < b0
  · refine ⟨b0 % z, [.int (b0 / z), .int b1, .int b2], ?_, Int.emod_nonneg _ (by omega), Int.emod_lt_of_pos _ hz, _, _, _, rfl, Int.ediv_nonneg h0 (by omega), h1, h1', h2, by omega⟩
    rw [u_law_take]
    simp only [ev, R.rv, R.rvs, R.dsk, R.bnd, testR, partR, rd, rds, fz, fzs, nrm, optR, keepS, storable, tru, isD, tyN, Ty.sub, List.any_cons, List.any_nil, List.all_cons, List.all_nil, doCall, mkArgs, lent, isOwnS, noDup, putOuts, argsFit, endF, outsF, startF, bindT, bindTs, List.getElem?_cons_zero, List.getElem?_cons_succ, List.getElem?_nil, List.map_cons, List.map_nil, List.length_cons, List.length_nil, List.replicate, List.cons_append, List.nil_append, List.set_cons_zero, List.set_cons_succ, Option.bind, Option.map, Bool.and_true, Bool.true_and, Bool.and_false, Bool.false_and, Bool.or_true, Bool.true_or, Bool.or_false, Bool.false_or, Bool.not_true, Bool.not_false, Bool.not_not, if_true, if_false, Bool.false_eq_true, reduceIte, reduceCtorEq, decide_true, decide_false, List.isEmpty_nil, List.isEmpty_cons, beq_self_eq_true, Nat.reduceAdd, Nat.reduceSub, Nat.reduceLeDiff, Nat.reduceLT, List.contains_nil, it_l, it_t, it_r, ty_r, b_add, b_sub, b_mul, b_mod, b_fdiv, b_addt, b_addl, b_pow3, b_pow6, b_pow12, b_pow18, i_t, i_l, i_r, sl_t, sl_l, p_len_l, p_len_t, p_len_r, p_abs, p_int, p_intB, p_tup_l, p_tup_t, p_lst_l, p_lst_t, p_sum_l, p_sum_t, p_sum_r, p_all, p_any, p_max2, p_min2, isNon, nolistR, nolist, and_self, and_true, true_and, f_law_take, s_law_take_0, s_law_take_1, s_law_take_2, s_law_take_3, s_law_take_4, s_law_take_5, at3, c_gt, q, hz, log_ok hz hz2, ix3]
  · have a1 := mul_ok (i := 48271) (j := b2 + 1) (by omega)
    have a2 := mul_ok2 (i := b1 + 48271 * (b2 + 1)) (j := 39373 + (b2 + 1)) (by omega)
    generalize ho : ((b1 + 48271 * (b2 + 1)) * (39373 + (b2 + 1))) % 2147483647 = once
    have o0 : 0 ≤ once := by rw [← ho]; exact Int.emod_nonneg _ (by omega)
    have f0 : 0 ≤ once % 40009 := Int.emod_nonneg _ (by omega)
    have f1 : once % 40009 < 40009 := Int.emod_lt_of_pos _ (by omega)
    have a3 := mul_ok2 (i := once + (b2 + 1) + b1 / 1000003) (j := once % 40009 + 7) (by omega)
    generalize ht : ((once + (b2 + 1) + b1 / 1000003) * (once % 40009 + 7)) % 2147483629 = twice
    have a4 := mul_ok2 (i := twice) (j := 48271) (by omega)
    refine ⟨((twice * 48271 + once) % 2147483587 / 64) % z, [.int b0, .int b1, .int (b2 + 1)], ?_, Int.emod_nonneg _ (by omega), Int.emod_lt_of_pos _ hz, _, _, _, rfl, h0, h1, h1', by omega, by omega⟩
    have c1 : (0 : Int) < 2147483647 := by omega
    have c2 : (0 : Int) < 40009 := by omega
    have c3 : (0 : Int) < 2147483629 := by omega
    have c4 : (0 : Int) < 2147483587 := by omega
    have l1 := log_ok (j := 1000003) (by omega) (by omega)
    have l2 := log_ok (j := 64) (by omega) (by omega)
    rw [u_law_take]
    simp only [ev, R.rv, R.rvs, R.dsk, R.bnd, testR, partR, rd, rds, fz, fzs, nrm, optR, keepS, storable, tru, isD, tyN, Ty.sub, List.any_cons, List.any_nil, List.all_cons, List.all_nil, doCall, mkArgs, lent, isOwnS, noDup, putOuts, argsFit, endF, outsF, startF, bindT, bindTs, List.getElem?_cons_zero, List.getElem?_cons_succ, List.getElem?_nil, List.map_cons, List.map_nil, List.length_cons, List.length_nil, List.replicate, List.cons_append, List.nil_append, List.set_cons_zero, List.set_cons_succ, Option.bind, Option.map, Bool.and_true, Bool.true_and, Bool.and_false, Bool.false_and, Bool.or_true, Bool.true_or, Bool.or_false, Bool.false_or, Bool.not_true, Bool.not_false, Bool.not_not, if_true, if_false, Bool.false_eq_true, reduceIte, reduceCtorEq, decide_true, decide_false, List.isEmpty_nil, List.isEmpty_cons, beq_self_eq_true, Nat.reduceAdd, Nat.reduceSub, Nat.reduceLeDiff, Nat.reduceLT, List.contains_nil, it_l, it_t, it_r, ty_r, b_add, b_sub, b_mul, b_mod, b_fdiv, b_addt, b_addl, b_pow3, b_pow6, b_pow12, b_pow18, i_t, i_l, i_r, sl_t, sl_l, p_len_l, p_len_t, p_len_r, p_abs, p_int, p_intB, p_tup_l, p_tup_t, p_lst_l, p_lst_t, p_sum_l, p_sum_t, p_sum_r, p_all, p_any, p_max2, p_min2, isNon, nolistR, nolist, and_self, and_true, true_and, f_law_take, s_law_take_0, s_law_take_1, s_law_take_2, s_law_take_3, s_law_take_4, s_law_take_5, at3, c_gt, q, ix3, a1, a2, c1, ho, c2, l1, a3, c3, ht, a4, c4, l2, hz]
theorem s_of {n : Nat} {bx : List D} (hb : Box n bx) (hn : n < 2 ^ 30) {ns : List Int} (h1 : ns ≠ []) (hl : ns.length < 1000) : ∃ (x : Int) (bx' : List D), runF tb (k+2) "_law_of" [.io bx, .d (.list (ns.map .int))] = .ok (.v (.int x)) [bx'] ∧ x ∈ ns ∧ Box (n + 1) bx' := by
  have hp : 0 < ns.length := List.length_pos_iff.mpr h1
  obtain ⟨r, bx', h2, h3, h4, h5⟩ := s_take k hb hn (z := (ns.length : Int)) (by omega) (by omega)
  have hr : r.toNat < ns.length := by omega
  have e : ((r.toNat : Nat) : Int) = r := by omega
  have g : atI (ns.map PyData.int) r = some (.int ns[r.toNat]) := by
    have := at_nat (xs := ns.map PyData.int) (i := r.toNat) (by rw [List.length_map]; exact hr)
    rw [e, List.getElem_map] at this
    exact this
  refine ⟨ns[r.toNat], bx', ?_, List.getElem_mem _, h5⟩
  rw [u_law_of]
  simp only [ev, R.rv, R.rvs, R.dsk, R.bnd, testR, partR, rd, rds, fz, fzs, nrm, optR, keepS, storable, tru, isD, tyN, Ty.sub, List.any_cons, List.any_nil, List.all_cons, List.all_nil, doCall, mkArgs, lent, isOwnS, noDup, putOuts, argsFit, endF, outsF, startF, bindT, bindTs, List.getElem?_cons_zero, List.getElem?_cons_succ, List.getElem?_nil, List.map_cons, List.map_nil, List.length_cons, List.length_nil, List.replicate, List.cons_append, List.nil_append, List.set_cons_zero, List.set_cons_succ, Option.bind, Option.map, Bool.and_true, Bool.true_and, Bool.and_false, Bool.false_and, Bool.or_true, Bool.true_or, Bool.or_false, Bool.false_or, Bool.not_true, Bool.not_false, Bool.not_not, if_true, if_false, Bool.false_eq_true, reduceIte, reduceCtorEq, decide_true, decide_false, List.isEmpty_nil, List.isEmpty_cons, beq_self_eq_true, Nat.reduceAdd, Nat.reduceSub, Nat.reduceLeDiff, Nat.reduceLT, List.contains_nil, it_l, it_t, it_r, ty_r, b_add, b_sub, b_mul, b_mod, b_fdiv, b_addt, b_addl, b_pow3, b_pow6, b_pow12, b_pow18, i_t, i_l, i_r, sl_t, sl_l, p_len_l, p_len_t, p_len_r, p_abs, p_int, p_intB, p_tup_l, p_tup_t, p_lst_l, p_lst_t, p_sum_l, p_sum_t, p_sum_r, p_all, p_any, p_max2, p_min2, isNon, nolistR, nolist, and_self, and_true, true_and, f_law_of, len_row, h2, g]
theorem s_cells (ns : List Int) (hl : ns.length ≤ 63) : ∃ c : Int, runF tb (k+1) "_law_cells" [.d (.list (ns.map .int)), .d (.int 1)] = .ok (.o [.int c]) [] := by
  have first : ∃ c : Int, ev (runF tb k) (.or (.prim .list (.cons (.slc (.var 0) .absent (.var 1)) .nil)) (.one (.lst (.cons (.const (.int 0)) .nil)))) [.val (.list (ns.map .int)), .val (.int 1), .no, .no, .no, .no] = .ok (.rv (.o [.int c])) [.val (.list (ns.map .int)), .val (.int 1), .no, .no, .no, .no] := by
    match ns with
    | [] =>
      have e : cut (([] : List Int).map PyData.int) none (some 1) = [] := by simp [cut]
      rw [List.map_nil] at e
      exact ⟨0, by simp only [ev, R.rv, R.rvs, R.dsk, R.bnd, testR, partR, rd, rds, fz, fzs, nrm, optR, keepS, storable, tru, isD, tyN, Ty.sub, List.any_cons, List.any_nil, List.all_cons, List.all_nil, doCall, mkArgs, lent, isOwnS, noDup, putOuts, argsFit, endF, outsF, startF, bindT, bindTs, List.getElem?_cons_zero, List.getElem?_cons_succ, List.getElem?_nil, List.map_cons, List.map_nil, List.length_cons, List.length_nil, List.replicate, List.cons_append, List.nil_append, List.set_cons_zero, List.set_cons_succ, Option.bind, Option.map, Bool.and_true, Bool.true_and, Bool.and_false, Bool.false_and, Bool.or_true, Bool.true_or, Bool.or_false, Bool.false_or, Bool.not_true, Bool.not_false, Bool.not_not, if_true, if_false, Bool.false_eq_true, reduceIte, reduceCtorEq, decide_true, decide_false, List.isEmpty_nil, List.isEmpty_cons, beq_self_eq_true, Nat.reduceAdd, Nat.reduceSub, Nat.reduceLeDiff, Nat.reduceLT, List.contains_nil, it_l, it_t, it_r, ty_r, b_add, b_sub, b_mul, b_mod, b_fdiv, b_addt, b_addl, b_pow3, b_pow6, b_pow12, b_pow18, i_t, i_l, i_r, sl_t, sl_l, p_len_l, p_len_t, p_len_r, p_abs, p_int, p_intB, p_tup_l, p_tup_t, p_lst_l, p_lst_t, p_sum_l, p_sum_t, p_sum_r, p_all, p_any, p_max2, p_min2, isNon, nolistR, nolist, and_self, and_true, true_and, e, one_line]⟩
    | n :: r =>
      have e : cut ((n :: r).map PyData.int) none (some 1) = [.int n] := cut_lo ((n :: r).map PyData.int) 1 (by simp)
      rw [List.map_cons] at e
      exact ⟨n, by simp only [ev, R.rv, R.rvs, R.dsk, R.bnd, testR, partR, rd, rds, fz, fzs, nrm, optR, keepS, storable, tru, isD, tyN, Ty.sub, List.any_cons, List.any_nil, List.all_cons, List.all_nil, doCall, mkArgs, lent, isOwnS, noDup, putOuts, argsFit, endF, outsF, startF, bindT, bindTs, List.getElem?_cons_zero, List.getElem?_cons_succ, List.getElem?_nil, List.map_cons, List.map_nil, List.length_cons, List.length_nil, List.replicate, List.cons_append, List.nil_append, List.set_cons_zero, List.set_cons_succ, Option.bind, Option.map, Bool.and_true, Bool.true_and, Bool.and_false, Bool.false_and, Bool.or_true, Bool.true_or, Bool.or_false, Bool.false_or, Bool.not_true, Bool.not_false, Bool.not_not, if_true, if_false, Bool.false_eq_true, reduceIte, reduceCtorEq, decide_true, decide_false, List.isEmpty_nil, List.isEmpty_cons, beq_self_eq_true, Nat.reduceAdd, Nat.reduceSub, Nat.reduceLeDiff, Nat.reduceLT, List.contains_nil, it_l, it_t, it_r, ty_r, b_add, b_sub, b_mul, b_mod, b_fdiv, b_addt, b_addl, b_pow3, b_pow6, b_pow12, b_pow18, i_t, i_l, i_r, sl_t, sl_l, p_len_l, p_len_t, p_len_r, p_abs, p_int, p_intB, p_tup_l, p_tup_t, p_lst_l, p_lst_t, p_sum_l, p_sum_t, p_sum_r, p_all, p_any, p_max2, p_min2, isNon, nolistR, nolist, and_self, and_true, true_and, e]⟩
  obtain ⟨c, first⟩ := first
  have src : ev (runF tb k) (.sEnum (.slc (.var 0) (.var 1) (.const (.int 63)))) [.val (.list (ns.map .int)), .val (.int 1), .own false [.int c], .no, .no, .no] = .ok (.ds (enumF 0 ((cut ns (some 1) (some 63)).map .int))) [.val (.list (ns.map .int)), .val (.int 1), .own false [.int c], .no, .no, .no] := by
    simp only [ev, R.rv, R.rvs, R.dsk, R.bnd, testR, partR, rd, rds, fz, fzs, nrm, optR, keepS, storable, tru, isD, tyN, Ty.sub, List.any_cons, List.any_nil, List.all_cons, List.all_nil, doCall, mkArgs, lent, isOwnS, noDup, putOuts, argsFit, endF, outsF, startF, bindT, bindTs, List.getElem?_cons_zero, List.getElem?_cons_succ, List.getElem?_nil, List.map_cons, List.map_nil, List.length_cons, List.length_nil, List.replicate, List.cons_append, List.nil_append, List.set_cons_zero, List.set_cons_succ, Option.bind, Option.map, Bool.and_true, Bool.true_and, Bool.and_false, Bool.false_and, Bool.or_true, Bool.true_or, Bool.or_false, Bool.false_or, Bool.not_true, Bool.not_false, Bool.not_not, if_true, if_false, Bool.false_eq_true, reduceIte, reduceCtorEq, decide_true, decide_false, List.isEmpty_nil, List.isEmpty_cons, beq_self_eq_true, Nat.reduceAdd, Nat.reduceSub, Nat.reduceLeDiff, Nat.reduceLT, List.contains_nil, it_l, it_t, it_r, ty_r, b_add, b_sub, b_mul, b_mod, b_fdiv, b_addt, b_addl, b_pow3, b_pow6, b_pow12, b_pow18, i_t, i_l, i_r, sl_t, sl_l, p_len_l, p_len_t, p_len_r, p_abs, p_int, p_intB, p_tup_l, p_tup_t, p_lst_l, p_lst_t, p_sum_l, p_sum_t, p_sum_r, p_all, p_any, p_max2, p_min2, isNon, nolistR, nolist, and_self, and_true, true_and]
    rw [cut_map]
  obtain ⟨ps, q1, q2⟩ := enumF_enc (cut ns (some 1) (some 63)) 0
  have cl := cut_len ns (some 1) (some 63)
  rw [q1] at src
  obtain ⟨e', g1, g2⟩ := fLoop_inv (enc := fun p : Int × Int => PyData.tuple [.int p.1, .int p.2]) (step := fun d e2 => match bindT (.tT (.cons (.tN 3) (.cons (.tN 4) .nil))) d e2 with
    | some e3 => ev (runF tb k) (.seq (.asg (.tN 5) (.bin .Mod (.prim .int (.cons (.var 3) .nil)) (.var 1))) (.seq (.setIx 2 (.var 5) (.bin .Add (.idx (.var 2) (.var 5)) (.bin .Mult (.var 4) (.bin .Add (.var 3) (.const (.int 2)))))) .done)) e3
    | none => .bad) (P := fun e => ∃ c t3 t4 t5, e = [.val (.list (ns.map .int)), .val (.int 1), .own false [.int c], t3, t4, t5] ∧ storable (some t3) = true ∧ storable (some t4) = true ∧ storable (some t5) = true) ps _ ⟨c, .no, .no, .no, rfl, rfl, rfl, rfl⟩ fun p hp e he => by
      obtain ⟨c, t3, t4, t5, rfl, h3, h4, h5⟩ := he
      have hp := q2 p hp
      have b1 : bindT (.tT (.cons (.tN 3) (.cons (.tN 4) .nil))) (.tuple [.int p.1, .int p.2]) [.val (.list (ns.map .int)), .val (.int 1), .own false [.int c], t3, t4, t5] = some [.val (.list (ns.map .int)), .val (.int 1), .own false [.int c], .val (.int p.1), .val (.int p.2), t5] := by
        have z1 := bind_st (i := 3) (d := .int p.1) (e := [.val (.list (ns.map .int)), .val (.int 1), .own false [.int c], t3, t4, t5]) rfl h3
        have z2 := bind_st (i := 4) (d := .int p.2) (e := [.val (.list (ns.map .int)), .val (.int 1), .own false [.int c], .val (.int p.1), t4, t5]) rfl h4
        show (match bindT (.tN 3) (.int p.1) [.val (.list (ns.map .int)), .val (.int 1), .own false [.int c], t3, t4, t5] with
          | some e1 => bindTs (.cons (.tN 4) .nil) [.int p.2] e1
          | none => none) = _
        rw [z1]
        show (match bindT (.tN 4) (.int p.2) [.val (.list (ns.map .int)), .val (.int 1), .own false [.int c], .val (.int p.1), t4, t5] with
          | some e1 => bindTs .nil [] e1
          | none => none) = _
        rw [z2]
        rfl
      refine ⟨[.val (.list (ns.map .int)), .val (.int 1), .own false [.int (c + p.2 * (p.1 + 2))], .val (.int p.1), .val (.int p.2), .val (.int 0)], ?_, _, _, _, _, rfl, rfl, rfl, rfl⟩
      try dsimp only
      rw [b1]
      try dsimp only
      refine seq_nx (e1 := [.val (.list (ns.map .int)), .val (.int 1), .own false [.int c], .val (.int p.1), .val (.int p.2), .val (.int 0)]) (asg_v (V_bin (V_prim (Vs_cons (V_var rfl) Vs_nil) (p_int _)) (V_var rfl) ?_) h5) (seq_nx (setIx_v (j := 0) (d := .int (c + p.2 * (p.1 + 2))) (V_bin (V_idxb rfl (V_var rfl) rfl) (V_bin (V_var rfl) (V_bin (V_var rfl) (V_c _) (b_add _ _)) ?_) (b_add _ _)) (V_var rfl) rfl rfl) rfl)
      · rw [b_mod, if_pos (by omega), Int.emod_one]
      · rw [b_mul, if_pos (mul_ok2 (by omega))]
  obtain ⟨c', t3, t4, t5, rfl, _⟩ := g2
  refine ⟨c', ?_⟩
  have body : ev (runF tb k) f_law_cells.body [.val (.list (ns.map .int)), .val (.int 1), .no, .no, .no, .no] = .ok (.fl (.ret (.o [.int c']))) [.val (.list (ns.map .int)), .val (.int 1), .no, t3, t4, t5] :=
    seq_nx (asg_l first rfl) (seq_nx (for_ok src g1) (seq_ret (ret_own rfl)))
  rw [u_law_cells]
  show endF [false, false] (ev (runF tb k) f_law_cells.body [.val (.list (ns.map .int)), .val (.int 1), .no, .no, .no, .no]) = _
  rw [body]
  rfl
theorem s_box (c : Int) : ∃ bx : List D, runF tb (k+1) "_law_box" [.d (.list [.int c]), .d (.int 0)] = .ok (.o bx) [] ∧ Box 0 bx := by
  generalize hA : (if c < 0 then -c else c) = A
  have hA0 : 0 ≤ A := by rw [← hA]; split <;> omega
  have pA : primD .abs [.int c] = some (.v (.int A)) := by rw [p_abs, hA]
  have hB : 0 ≤ (if decide ((1000000000000000000 : Int) ≤ A) = true then (1 : Int) else 0) ∧ (if decide ((1000000000000000000 : Int) ≤ A) = true then (1 : Int) else 0) < 2 ^ 63 := by split <;> omega
  have m0 : 0 ≤ c % 2305843009213693951 := Int.emod_nonneg _ (by omega)
  have m1 : c % 2305843009213693951 < 2305843009213693951 := Int.emod_lt_of_pos _ (by omega)
  refine ⟨[.int (A * (if decide ((1000000000000000000 : Int) ≤ A) = true then (1 : Int) else 0)), .int (c % 2305843009213693951 + 39373 * 0 + 2631695), .int 0], ?_, _, _, _, rfl, Int.mul_nonneg hA0 hB.1, by omega, by omega, by omega, by omega⟩
  have body : ev (runF tb k) f_law_box.body [.val (.list [.int c]), .val (.int 0), .no] = .ok (.fl (.ret (.o [.int (A * (if decide ((1000000000000000000 : Int) ≤ A) = true then (1 : Int) else 0)), .int (c % 2305843009213693951 + 39373 * 0 + 2631695), .int 0]))) [.val (.list [.int c]), .val (.int 0), .val (.int c)] := by
    refine seq_nx (asg_v (d := .int c) rfl rfl) (seq_ret (ret_o (O_lst (Vs_cons (V_bin (V_prim (Vs_cons (V_var rfl) Vs_nil) pA) (V_prim (Vs_cons (V_cmp (V_prim (Vs_cons (V_var rfl) Vs_nil) pA) (V_bin (V_c _) (V_c _) b_pow18) rfl) Vs_nil) (p_intB _)) ?_) (Vs_cons (V_bin (V_bin (V_bin (V_prim (Vs_cons (V_var rfl) Vs_nil) (p_int _)) (V_c _) ?_) (V_bin (V_c _) (V_var rfl) ?_) (b_add _ _)) (V_c _) (b_add _ _)) (Vs_cons (V_c _) Vs_nil))) (by unfold LINE; simp))))
    · rw [b_mul, if_pos (mul_ok2 hB)]
    · rw [b_mod, if_pos (by omega)]
    · rw [b_mul, if_pos (mul_ok2 (by omega))]
  rw [u_law_box]
  show endF [false, false] (ev (runF tb k) f_law_box.body [.val (.list [.int c]), .val (.int 0), .no]) = _
  rw [body]
  rfl
end
theorem same_seq (n : Nat) (xs : List D) (kd : Bool) (hl : xs.length ≤ 1000) (h : ∀ x ∈ xs, runF tb n "_law_same" [.d x, .d x] = .ok (.v (.bool true)) []) :
    runF tb (n+1) "_law_same" [.d (if kd = true then .tuple xs else .list xs), .d (if kd = true then .tuple xs else .list xs)] = .ok (.v (.bool true)) [] := by
  have hc : ∀ Y, (Y = .tuple xs ∨ Y = .list xs) → ev (runF tb n) c_law_same_0 [.val Y, .val Y, .no, .no] = .ok (.rv (.o (xs.map fun _ => .bool true))) [.val Y, .val Y, .no, .no] := by
    intro Y hY
    refine comp_map (fun x => .tuple [x, x]) (fun _ => .bool true) (by rw [← zip_self]; rcases hY with rfl | rfl <;> rfl) (by unfold LINE; omega) rfl fun x hx => ⟨[.val Y, .val Y, .val x, .val x], .v (.bool true), rfl, rfl, ?_, rfl⟩
    simp only [ev, R.rv, R.rvs, R.dsk, R.bnd, testR, partR, rd, rds, fz, fzs, nrm, optR, keepS, storable, tru, isD, tyN, Ty.sub, List.any_cons, List.any_nil, List.all_cons, List.all_nil, doCall, mkArgs, lent, isOwnS, noDup, putOuts, argsFit, endF, outsF, startF, bindT, bindTs, List.getElem?_cons_zero, List.getElem?_cons_succ, List.getElem?_nil, List.map_cons, List.map_nil, List.length_cons, List.length_nil, List.replicate, List.cons_append, List.nil_append, List.set_cons_zero, List.set_cons_succ, Option.bind, Option.map, Bool.and_true, Bool.true_and, Bool.and_false, Bool.false_and, Bool.or_true, Bool.true_or, Bool.or_false, Bool.false_or, Bool.not_true, Bool.not_false, Bool.not_not, if_true, if_false, Bool.false_eq_true, reduceIte, reduceCtorEq, decide_true, decide_false, List.isEmpty_nil, List.isEmpty_cons, beq_self_eq_true, Nat.reduceAdd, Nat.reduceSub, Nat.reduceLeDiff, Nat.reduceLT, List.contains_nil, it_l, it_t, it_r, ty_r, b_add, b_sub, b_mul, b_mod, b_fdiv, b_addt, b_addl, b_pow3, b_pow6, b_pow12, b_pow18, i_t, i_l, i_r, sl_t, sl_l, p_len_l, p_len_t, p_len_r, p_abs, p_int, p_intB, p_tup_l, p_tup_t, p_lst_l, p_lst_t, p_sum_l, p_sum_t, p_sum_r, p_all, p_any, p_max2, p_min2, isNon, nolistR, nolist, and_self, and_true, true_and, h x hx]
  have e : (xs.map fun _ => PyData.bool true) = (xs.map fun _ => true).map .bool := by rw [List.map_map]; rfl
  have ht : (xs.map fun _ => true).all id = true := by rw [List.all_map]; exact List.all_eq_true.mpr fun _ _ => rfl
  cases kd with
  | true =>
    rw [if_pos rfl, u_law_same]
    simp only [ev, R.rv, R.rvs, R.dsk, R.bnd, testR, partR, rd, rds, fz, fzs, nrm, optR, keepS, storable, tru, isD, tyN, Ty.sub, List.any_cons, List.any_nil, List.all_cons, List.all_nil, doCall, mkArgs, lent, isOwnS, noDup, putOuts, argsFit, endF, outsF, startF, bindT, bindTs, List.getElem?_cons_zero, List.getElem?_cons_succ, List.getElem?_nil, List.map_cons, List.map_nil, List.length_cons, List.length_nil, List.replicate, List.cons_append, List.nil_append, List.set_cons_zero, List.set_cons_succ, Option.bind, Option.map, Bool.and_true, Bool.true_and, Bool.and_false, Bool.false_and, Bool.or_true, Bool.true_or, Bool.or_false, Bool.false_or, Bool.not_true, Bool.not_false, Bool.not_not, if_true, if_false, Bool.false_eq_true, reduceIte, reduceCtorEq, decide_true, decide_false, List.isEmpty_nil, List.isEmpty_cons, beq_self_eq_true, Nat.reduceAdd, Nat.reduceSub, Nat.reduceLeDiff, Nat.reduceLT, List.contains_nil, it_l, it_t, it_r, ty_r, b_add, b_sub, b_mul, b_mod, b_fdiv, b_addt, b_addl, b_pow3, b_pow6, b_pow12, b_pow18, i_t, i_l, i_r, sl_t, sl_l, p_len_l, p_len_t, p_len_r, p_abs, p_int, p_intB, p_tup_l, p_tup_t, p_lst_l, p_lst_t, p_sum_l, p_sum_t, p_sum_r, p_all, p_any, p_max2, p_min2, isNon, nolistR, nolist, and_self, and_true, true_and, f_law_same, hc _ (.inl rfl), e, boolsOf_map, ht, c_neB, c_eq]
  | false =>
    rw [if_neg Bool.false_ne_true, u_law_same]
    simp only [ev, R.rv, R.rvs, R.dsk, R.bnd, testR, partR, rd, rds, fz, fzs, nrm, optR, keepS, storable, tru, isD, tyN, Ty.sub, List.any_cons, List.any_nil, List.all_cons, List.all_nil, doCall, mkArgs, lent, isOwnS, noDup, putOuts, argsFit, endF, outsF, startF, bindT, bindTs, List.getElem?_cons_zero, List.getElem?_cons_succ, List.getElem?_nil, List.map_cons, List.map_nil, List.length_cons, List.length_nil, List.replicate, List.cons_append, List.nil_append, List.set_cons_zero, List.set_cons_succ, Option.bind, Option.map, Bool.and_true, Bool.true_and, Bool.and_false, Bool.false_and, Bool.or_true, Bool.true_or, Bool.or_false, Bool.false_or, Bool.not_true, Bool.not_false, Bool.not_not, if_true, if_false, Bool.false_eq_true, reduceIte, reduceCtorEq, decide_true, decide_false, List.isEmpty_nil, List.isEmpty_cons, beq_self_eq_true, Nat.reduceAdd, Nat.reduceSub, Nat.reduceLeDiff, Nat.reduceLT, List.contains_nil, it_l, it_t, it_r, ty_r, b_add, b_sub, b_mul, b_mod, b_fdiv, b_addt, b_addl, b_pow3, b_pow6, b_pow12, b_pow18, i_t, i_l, i_r, sl_t, sl_l, p_len_l, p_len_t, p_len_r, p_abs, p_int, p_intB, p_tup_l, p_tup_t, p_lst_l, p_lst_t, p_sum_l, p_sum_t, p_sum_r, p_all, p_any, p_max2, p_min2, isNon, nolistR, nolist, and_self, and_true, true_and, f_law_same, hc _ (.inr rfl), e, boolsOf_map, ht, c_neB, c_eq]
mutual
theorem s_same : ∀ (d : D) (n : Nat), okD d = true → hgt d < n → runF tb n "_law_same" [.d d, .d d] = .ok (.v (.bool true)) []
  | _, 0, _, h => absurd h (Nat.not_lt_zero _)
  | .none, n + 1, _, _ => by rfl
  | .bool b, n + 1, _, _ => by cases b <;> rfl
  | .int i, n + 1, _, _ => by
    rw [u_law_same]
    simp only [ev, R.rv, R.rvs, R.dsk, R.bnd, testR, partR, rd, rds, fz, fzs, nrm, optR, keepS, storable, tru, isD, tyN, Ty.sub, List.any_cons, List.any_nil, List.all_cons, List.all_nil, doCall, mkArgs, lent, isOwnS, noDup, putOuts, argsFit, endF, outsF, startF, bindT, bindTs, List.getElem?_cons_zero, List.getElem?_cons_succ, List.getElem?_nil, List.map_cons, List.map_nil, List.length_cons, List.length_nil, List.replicate, List.cons_append, List.nil_append, List.set_cons_zero, List.set_cons_succ, Option.bind, Option.map, Bool.and_true, Bool.true_and, Bool.and_false, Bool.false_and, Bool.or_true, Bool.true_or, Bool.or_false, Bool.false_or, Bool.not_true, Bool.not_false, Bool.not_not, if_true, if_false, Bool.false_eq_true, reduceIte, reduceCtorEq, decide_true, decide_false, List.isEmpty_nil, List.isEmpty_cons, beq_self_eq_true, Nat.reduceAdd, Nat.reduceSub, Nat.reduceLeDiff, Nat.reduceLT, List.contains_nil, it_l, it_t, it_r, ty_r, b_add, b_sub, b_mul, b_mod, b_fdiv, b_addt, b_addl, b_pow3, b_pow6, b_pow12, b_pow18, i_t, i_l, i_r, sl_t, sl_l, p_len_l, p_len_t, p_len_r, p_abs, p_int, p_intB, p_tup_l, p_tup_t, p_lst_l, p_lst_t, p_sum_l, p_sum_t, p_sum_r, p_all, p_any, p_max2, p_min2, isNon, nolistR, nolist, and_self, and_true, true_and, f_law_same, c_eq, c_is]
  | .str s, n + 1, _, _ => by
    rw [u_law_same]
    simp only [ev, R.rv, R.rvs, R.dsk, R.bnd, testR, partR, rd, rds, fz, fzs, nrm, optR, keepS, storable, tru, isD, tyN, Ty.sub, List.any_cons, List.any_nil, List.all_cons, List.all_nil, doCall, mkArgs, lent, isOwnS, noDup, putOuts, argsFit, endF, outsF, startF, bindT, bindTs, List.getElem?_cons_zero, List.getElem?_cons_succ, List.getElem?_nil, List.map_cons, List.map_nil, List.length_cons, List.length_nil, List.replicate, List.cons_append, List.nil_append, List.set_cons_zero, List.set_cons_succ, Option.bind, Option.map, Bool.and_true, Bool.true_and, Bool.and_false, Bool.false_and, Bool.or_true, Bool.true_or, Bool.or_false, Bool.false_or, Bool.not_true, Bool.not_false, Bool.not_not, if_true, if_false, Bool.false_eq_true, reduceIte, reduceCtorEq, decide_true, decide_false, List.isEmpty_nil, List.isEmpty_cons, beq_self_eq_true, Nat.reduceAdd, Nat.reduceSub, Nat.reduceLeDiff, Nat.reduceLT, List.contains_nil, it_l, it_t, it_r, ty_r, b_add, b_sub, b_mul, b_mod, b_fdiv, b_addt, b_addl, b_pow3, b_pow6, b_pow12, b_pow18, i_t, i_l, i_r, sl_t, sl_l, p_len_l, p_len_t, p_len_r, p_abs, p_int, p_intB, p_tup_l, p_tup_t, p_lst_l, p_lst_t, p_sum_l, p_sum_t, p_sum_r, p_all, p_any, p_max2, p_min2, isNon, nolistR, nolist, and_self, and_true, true_and, f_law_same, c_eqS, c_is, c_eqB]
  | .list xs, n + 1, ho, h => by
    simp only [okD, Bool.and_eq_true, decide_eq_true_eq] at ho
    have h' : hgts xs + 1 < n + 1 := h
    exact same_seq n xs false ho.1 (s_sames xs n ho.2 (by omega))
  | .tuple xs, n + 1, ho, h => by
    simp only [okD, Bool.and_eq_true, decide_eq_true_eq] at ho
    have h' : hgts xs + 1 < n + 1 := h
    exact same_seq n xs true ho.1 (s_sames xs n ho.2 (by omega))
  | .dict _, _ + 1, ho, _ => by cases ho
theorem s_sames : ∀ (ds : List D) (n : Nat), okDs ds = true → hgts ds < n → ∀ d ∈ ds, runF tb n "_law_same" [.d d, .d d] = .ok (.v (.bool true)) []
  | [], _, _, _ => fun _ z => nomatch z
  | x :: r, n, ho, h => fun d hd => by
    simp only [okDs, Bool.and_eq_true] at ho
    have h' : max (hgt x) (hgts r) < n := h
    rcases List.mem_cons.mp hd with e | hd
    · rw [e]
      exact s_same x n ho.1 (by omega)
    · exact s_sames r n ho.2 (by omega) d hd
end
end L2.Mp
set_option Elab.async false
set_option linter.all false
set_option maxRecDepth 100000
set_option maxHeartbeats 0
namespace L2.Mp
open PySem PySem.Spec PyProof.Rows L2
/-! ### the law's books, its terms -/
def nm (s : Str) : D := .tuple [.str s]
def fT (x y : D) : D := .tuple [.str "f", x, y]
def gT : Nat → D → D
  | 0, t => t
  | n + 1, t => .tuple [.str "g", gT n t]
inductive Ph where
  | p1 | p2 | p3
def rl (x y : D) : D := .tuple [x, y]
def rules : Ph → List D
  | .p1 => [rl (nm "a") (nm "b"), rl (nm "b") (nm "e"), rl (nm "e") (nm "a"), rl (nm "c") (nm "d"), rl (nm "d") (nm "c")]
  | _ => [rl (nm "a") (nm "b"), rl (nm "b") (nm "a"), rl (nm "c") (nm "d"), rl (nm "d") (nm "c"), rl (fT (nm "b") (nm "d")) (fT (nm "c") (nm "a"))]
def bk (p : Ph) : D := .tuple (rules p)
def sz0 : Ph → Nat
  | .p1 => 3
  | _ => 2
def sz1 : Ph → Nat
  | _ => 2
def ba0 : Ph → Nat
  | .p1 => 0
  | .p2 => 0
  | .p3 => 2
def ba1 : Ph → Nat
  | .p1 => 3
  | .p2 => 2
  | .p3 => 0
def l0 : Ph → Nat → D
  | .p1, 0 => nm "a"
  | .p1, 1 => nm "b"
  | .p1, _ => nm "e"
  | .p2, 0 => nm "a"
  | .p2, _ => nm "b"
  | .p3, 0 => nm "c"
  | .p3, _ => nm "d"
def l1 : Ph → Nat → D
  | .p1, 0 => nm "c"
  | .p1, _ => nm "d"
  | .p2, 0 => nm "c"
  | .p2, _ => nm "d"
  | .p3, 0 => nm "a"
  | .p3, _ => nm "b"
def lf0 (p : Ph) (i : Nat) : D := l0 p (i % sz0 p)
def lf1 (p : Ph) (i : Nat) : D := l1 p (i % sz1 p)
def tm (p : Ph) (dp i j : Nat) : D := gT dp (fT (lf0 p i) (lf1 p j))
abbrev Stp := List Int × Int
def pl (dp : Nat) (q : List Int) : List Int := List.replicate dp 0 ++ q
def st0 (p : Ph) (dp i : Nat) : Stp := (pl dp [0], ((ba0 p + i % sz0 p : Nat) : Int))
def st1 (p : Ph) (dp i : Nat) : Stp := (pl dp [1], ((ba1 p + i % sz1 p : Nat) : Int))
def stw (dp : Nat) : Stp := (pl dp [], 4)
def encS (s : Stp) : D := .tuple [rowD s.1, .int s.2]
def okV (r : CR) (d : D) : Bool := match r with
  | .ok (.v x) [] => eqD x d
  | _ => false
theorem okV_ok {r : CR} {d : D} (h : okV r d = true) : r = .ok (.v d) [] := by
  unfold okV at h
  split at h
  · rw [eqD_ok h]
  · cases h
def phs : List Ph := [.p1, .p2, .p3]
theorem phs_in (p : Ph) : p ∈ phs := by cases p <;> simp [phs]
theorem sz0_pos (p : Ph) : 0 < sz0 p := by cases p <;> decide
theorem sz1_pos (p : Ph) : 0 < sz1 p := by cases p <;> decide
/-! ### told by the kernel -/
theorem k_after (k : Nat) : (phs.all fun p => (List.range 3).all fun dp => (List.range (sz0 p)).all fun i => (List.range (sz1 p)).all fun j =>
    okV (runF tb (k+6) "made_after" [.d (bk p), .d (tm p dp i j), .d (encS (st0 p dp i))]) (tm p dp (i+1) j) && okV (runF tb (k+6) "made_after" [.d (bk p), .d (tm p dp i j), .d (encS (st1 p dp j))]) (tm p dp i (j+1))) = true := by kernel_rfl
theorem k_whole (k : Nat) : ((List.range 3).all fun dp => okV (runF tb (k+6) "made_after" [.d (bk .p2), .d (tm .p2 dp 1 1), .d (encS (stw dp))]) (tm .p3 dp 0 0)) = true := by kernel_rfl
theorem k_term (k : Nat) : (phs.all fun p => (List.range 3).all fun dp => (List.range (sz0 p)).all fun i => (List.range (sz1 p)).all fun j =>
    okV (runF tb (k+9) "sure_term" [.d (tm p dp i j)]) (tm p dp i j) && okV (runF tb (k+6) "is_term" [.d (tm p dp i j)]) (.bool true)) = true := by kernel_rfl
theorem k_leaf (k : Nat) : (phs.all fun p => (List.range 3).all fun i => okV (runF tb (k+6) "is_term" [.d (l0 p i)]) (.bool true) && okV (runF tb (k+6) "is_term" [.d (l1 p i)]) (.bool true)) = true := by kernel_rfl
theorem k_book (k : Nat) : (phs.all fun p => okV (runF tb (k+9) "sure_book" [.d (bk p)]) (bk p)) = true := by kernel_rfl
theorem k_name (k : Nat) : (okV (runF tb (k+1) "is_name" [.d (.str "f")]) (.bool true) && okV (runF tb (k+1) "is_name" [.d (.str "g")]) (.bool true)) = true := by kernel_rfl
end L2.Mp
set_option Elab.async false
set_option linter.all false
set_option maxRecDepth 100000
set_option maxHeartbeats 0
namespace L2.Mp
open PySem PySem.Spec PyProof.Rows L2
/-! ### more plain steps -/
section
variable {cf : CF} {e : Fm}
theorem par_v {i j : Nat} {a b : T} {x y : D} (ha : V cf e a x) (hb : V cf e b y) (hi : storable e[i]? = true) (hj : storable e[j]? = true) : ev cf (.par i j a b) e = .ok (.fl .nx) ((e.set i (.val x)).set j (.val y)) := by
  show (ev cf a e).rv (fun ra e1 => (ev cf b e1).rv fun rb e2 => (match keepS ra e2 with
    | some (sa, e3) => (match keepS rb e3 with
      | some (sb, e4) => if storable e4[i]? && storable e4[j]? then R.ok (Val.fl .nx) ((e4.set i sa).set j sb) else .bad
      | none => .bad)
    | none => .bad)) = _
  rw [ha]
  show (ev cf b e).rv (fun rb e2 => (match keepS (.v x) e2 with
    | some (sa, e3) => (match keepS rb e3 with
      | some (sb, e4) => if storable e4[i]? && storable e4[j]? then R.ok (Val.fl .nx) ((e4.set i sa).set j sb) else .bad
      | none => .bad)
    | none => .bad)) = _
  rw [hb]
  show (if storable e[i]? && storable e[j]? then R.ok (Val.fl .nx) ((e.set i (.val x)).set j (.val y)) else .bad) = _
  rw [hi, hj]
  rfl
theorem V_idxO {a b : T} {xs : List D} {y d : D} (ha : O cf e a xs) (hb : V cf e b y) (h : idxD (.list xs) y = some d) : V cf e (.idx a b) d := by
  unfold V O at *
  simp only [ev, R.rv, R.rvs, R.dsk, R.bnd, testR, partR, rd, rds, fz, fzs, nrm, optR, keepS, storable, tru, isD, tyN, Ty.sub, List.any_cons, List.any_nil, List.all_cons, List.all_nil, doCall, mkArgs, lent, isOwnS, noDup, putOuts, argsFit, endF, outsF, startF, bindT, bindTs, List.getElem?_cons_zero, List.getElem?_cons_succ, List.getElem?_nil, List.map_cons, List.map_nil, List.length_cons, List.length_nil, List.replicate, List.cons_append, List.nil_append, List.set_cons_zero, List.set_cons_succ, Option.bind, Option.map, Bool.and_true, Bool.true_and, Bool.and_false, Bool.false_and, Bool.or_true, Bool.true_or, Bool.or_false, Bool.false_or, Bool.not_true, Bool.not_false, Bool.not_not, if_true, if_false, Bool.false_eq_true, reduceIte, reduceCtorEq, decide_true, decide_false, List.isEmpty_nil, List.isEmpty_cons, beq_self_eq_true, Nat.reduceAdd, Nat.reduceSub, Nat.reduceLeDiff, Nat.reduceLT, List.contains_nil, it_l, it_t, it_r, ty_r, b_add, b_sub, b_mul, b_mod, b_fdiv, b_addt, b_addl, b_pow3, b_pow6, b_pow12, b_pow18, i_t, i_l, i_r, sl_t, sl_l, p_len_l, p_len_t, p_len_r, p_abs, p_int, p_intB, p_tup_l, p_tup_t, p_lst_l, p_lst_t, p_sum_l, p_sum_t, p_sum_r, p_all, p_any, p_max2, p_min2, isNon, nolistR, nolist, and_self, and_true, true_and, ha, hb, h]
theorem V_isi {a : T} {d : D} {cs : List Ty} {b : Bool} (ha : V cf e a d) (h : isD d cs = b) : V cf e (.isi a cs) (.bool b) := by
  show (ev cf a e).rv (fun ra e1 => (match rd ra e1 with
    | some d => R.ok (Val.rv (.v (.bool (isD d cs)))) e1
    | none => .bad)) = _
  rw [ha, ← h]
  rfl
theorem V_orF {a b : T} {d : D} (ha : V cf e a (.bool false)) (hb : V cf e b d) : V cf e (.or a b) d := by
  show (ev cf a e).rv (fun ra e1 => (match (rd ra e1).bind tru with
    | some true => R.ok (Val.rv ra) e1
    | some false => ev cf b e1
    | none => .bad)) = _
  rw [ha]
  exact hb
theorem V_andT {a b : T} {d : D} (ha : V cf e a (.bool true)) (hb : V cf e b d) : V cf e (.and a b) d := by
  show (ev cf a e).rv (fun ra e1 => (match (rd ra e1).bind tru with
    | some true => ev cf b e1
    | some false => R.ok (Val.rv ra) e1
    | none => .bad)) = _
  rw [ha]
  exact hb
theorem V_notT {a : T} (ha : V cf e a (.bool true)) : V cf e (.notT a) (.bool false) := V_not (x := true) ha
theorem if_no {c a : T} (hc : V cf e c (.bool false)) : ev cf (.ifS c a .done) e = .ok (.fl .nx) e := if_r (x := false) hc (fun z => nomatch z) fun _ => rfl
theorem if_yes {c a b : T} {r : R Val} (hc : V cf e c (.bool true)) (ha : ev cf a e = r) : ev cf (.ifS c a b) e = r := if_r (x := true) hc (fun _ => ha) fun z => nomatch z
theorem if_not {c a b : T} {r : R Val} (hc : V cf e c (.bool false)) (hb : ev cf b e = r) : ev cf (.ifS c a b) e = r := if_r (x := false) hc (fun z => nomatch z) fun _ => hb
theorem V_allT {α : Type} {a : T} {l : List α} (ha : O cf e a (l.map fun _ => .bool true)) : V cf e (.prim .all (.cons a .nil)) (.bool true) := by
  have e1 : (l.map fun _ => PyData.bool true) = (l.map fun _ => true).map .bool := by rw [List.map_map]; rfl
  have e2 : (l.map fun _ => true).all id = true := by
    rw [List.all_map]
    exact List.all_eq_true.mpr fun _ _ => rfl
  rw [e1] at ha
  refine V_prim (Vs_consO ha Vs_nil) ?_
  rw [p_all, boolsOf_map]
  show some (RV.v (PyData.bool ((l.map fun _ => true).all id))) = _
  rw [e2]
theorem ex_v {x : T} {d : D} (h : V cf e x d) : ev cf (.expr x) e = .ok (.fl .nx) e := by
  show (ev cf x e).rv (fun _ e1 => R.ok (Val.fl .nx) e1) = _
  rw [h]
  rfl
theorem V_lenT {a : T} {xs : List D} (h : V cf e a (.tuple xs)) : V cf e (.prim .len (.cons a .nil)) (.int xs.length) := V_prim (Vs_cons h Vs_nil) rfl
theorem src_seq_t {a : T} {xs : List D} (ha : V cf e a (.tuple xs)) : ev cf (.sSeq a) e = .ok (.ds xs) e := by
  unfold V at ha
  simp only [ev, R.rv, R.rvs, R.dsk, R.bnd, testR, partR, rd, rds, fz, fzs, nrm, optR, keepS, storable, tru, isD, tyN, Ty.sub, List.any_cons, List.any_nil, List.all_cons, List.all_nil, doCall, mkArgs, lent, isOwnS, noDup, putOuts, argsFit, endF, outsF, startF, bindT, bindTs, List.getElem?_cons_zero, List.getElem?_cons_succ, List.getElem?_nil, List.map_cons, List.map_nil, List.length_cons, List.length_nil, List.replicate, List.cons_append, List.nil_append, List.set_cons_zero, List.set_cons_succ, Option.bind, Option.map, Bool.and_true, Bool.true_and, Bool.and_false, Bool.false_and, Bool.or_true, Bool.true_or, Bool.or_false, Bool.false_or, Bool.not_true, Bool.not_false, Bool.not_not, if_true, if_false, Bool.false_eq_true, reduceIte, reduceCtorEq, decide_true, decide_false, List.isEmpty_nil, List.isEmpty_cons, beq_self_eq_true, Nat.reduceAdd, Nat.reduceSub, Nat.reduceLeDiff, Nat.reduceLT, List.contains_nil, it_l, it_t, it_r, ty_r, b_add, b_sub, b_mul, b_mod, b_fdiv, b_addt, b_addl, b_pow3, b_pow6, b_pow12, b_pow18, i_t, i_l, i_r, sl_t, sl_l, p_len_l, p_len_t, p_len_r, p_abs, p_int, p_intB, p_tup_l, p_tup_t, p_lst_l, p_lst_t, p_sum_l, p_sum_t, p_sum_r, p_all, p_any, p_max2, p_min2, isNon, nolistR, nolist, and_self, and_true, true_and, ha]
theorem src_seq_o {a : T} {xs : List D} (ha : O cf e a xs) : ev cf (.sSeq a) e = .ok (.ds xs) e := by
  unfold O at ha
  simp only [ev, R.rv, R.rvs, R.dsk, R.bnd, testR, partR, rd, rds, fz, fzs, nrm, optR, keepS, storable, tru, isD, tyN, Ty.sub, List.any_cons, List.any_nil, List.all_cons, List.all_nil, doCall, mkArgs, lent, isOwnS, noDup, putOuts, argsFit, endF, outsF, startF, bindT, bindTs, List.getElem?_cons_zero, List.getElem?_cons_succ, List.getElem?_nil, List.map_cons, List.map_nil, List.length_cons, List.length_nil, List.replicate, List.cons_append, List.nil_append, List.set_cons_zero, List.set_cons_succ, Option.bind, Option.map, Bool.and_true, Bool.true_and, Bool.and_false, Bool.false_and, Bool.or_true, Bool.true_or, Bool.or_false, Bool.false_or, Bool.not_true, Bool.not_false, Bool.not_not, if_true, if_false, Bool.false_eq_true, reduceIte, reduceCtorEq, decide_true, decide_false, List.isEmpty_nil, List.isEmpty_cons, beq_self_eq_true, Nat.reduceAdd, Nat.reduceSub, Nat.reduceLeDiff, Nat.reduceLT, List.contains_nil, it_l, it_t, it_r, ty_r, b_add, b_sub, b_mul, b_mod, b_fdiv, b_addt, b_addl, b_pow3, b_pow6, b_pow12, b_pow18, i_t, i_l, i_r, sl_t, sl_l, p_len_l, p_len_t, p_len_r, p_abs, p_int, p_intB, p_tup_l, p_tup_t, p_lst_l, p_lst_t, p_sum_l, p_sum_t, p_sum_r, p_all, p_any, p_max2, p_min2, isNon, nolistR, nolist, and_self, and_true, true_and, ha]
theorem src_enum_t {a : T} {xs : List D} (ha : V cf e a (.tuple xs)) : ev cf (.sEnum a) e = .ok (.ds (enumF 0 xs)) e := by
  unfold V at ha
  simp only [ev, R.rv, R.rvs, R.dsk, R.bnd, testR, partR, rd, rds, fz, fzs, nrm, optR, keepS, storable, tru, isD, tyN, Ty.sub, List.any_cons, List.any_nil, List.all_cons, List.all_nil, doCall, mkArgs, lent, isOwnS, noDup, putOuts, argsFit, endF, outsF, startF, bindT, bindTs, List.getElem?_cons_zero, List.getElem?_cons_succ, List.getElem?_nil, List.map_cons, List.map_nil, List.length_cons, List.length_nil, List.replicate, List.cons_append, List.nil_append, List.set_cons_zero, List.set_cons_succ, Option.bind, Option.map, Bool.and_true, Bool.true_and, Bool.and_false, Bool.false_and, Bool.or_true, Bool.true_or, Bool.or_false, Bool.false_or, Bool.not_true, Bool.not_false, Bool.not_not, if_true, if_false, Bool.false_eq_true, reduceIte, reduceCtorEq, decide_true, decide_false, List.isEmpty_nil, List.isEmpty_cons, beq_self_eq_true, Nat.reduceAdd, Nat.reduceSub, Nat.reduceLeDiff, Nat.reduceLT, List.contains_nil, it_l, it_t, it_r, ty_r, b_add, b_sub, b_mul, b_mod, b_fdiv, b_addt, b_addl, b_pow3, b_pow6, b_pow12, b_pow18, i_t, i_l, i_r, sl_t, sl_l, p_len_l, p_len_t, p_len_r, p_abs, p_int, p_intB, p_tup_l, p_tup_t, p_lst_l, p_lst_t, p_sum_l, p_sum_t, p_sum_r, p_all, p_any, p_max2, p_min2, isNon, nolistR, nolist, and_self, and_true, true_and, ha]
theorem app_v {i : Nat} {x : T} {d : D} {io : Bool} {ds : List D} (hx : V cf e x d) (h0 : e[i]? = some (.own io ds)) (hl : ds.length < LINE) : ev cf (.app i x) e = .ok (.fl .nx) (e.set i (.own io (ds ++ [d]))) := by
  unfold V at hx
  simp only [ev, R.rv, R.rvs, R.dsk, R.bnd, testR, partR, rd, rds, fz, fzs, nrm, optR, keepS, storable, tru, isD, tyN, Ty.sub, List.any_cons, List.any_nil, List.all_cons, List.all_nil, doCall, mkArgs, lent, isOwnS, noDup, putOuts, argsFit, endF, outsF, startF, bindT, bindTs, List.getElem?_cons_zero, List.getElem?_cons_succ, List.getElem?_nil, List.map_cons, List.map_nil, List.length_cons, List.length_nil, List.replicate, List.cons_append, List.nil_append, List.set_cons_zero, List.set_cons_succ, Option.bind, Option.map, Bool.and_true, Bool.true_and, Bool.and_false, Bool.false_and, Bool.or_true, Bool.true_or, Bool.or_false, Bool.false_or, Bool.not_true, Bool.not_false, Bool.not_not, if_true, if_false, Bool.false_eq_true, reduceIte, reduceCtorEq, decide_true, decide_false, List.isEmpty_nil, List.isEmpty_cons, beq_self_eq_true, Nat.reduceAdd, Nat.reduceSub, Nat.reduceLeDiff, Nat.reduceLT, List.contains_nil, it_l, it_t, it_r, ty_r, b_add, b_sub, b_mul, b_mod, b_fdiv, b_addt, b_addl, b_pow3, b_pow6, b_pow12, b_pow18, i_t, i_l, i_r, sl_t, sl_l, p_len_l, p_len_t, p_len_r, p_abs, p_int, p_intB, p_tup_l, p_tup_t, p_lst_l, p_lst_t, p_sum_l, p_sum_t, p_sum_r, p_all, p_any, p_max2, p_min2, isNon, nolistR, nolist, and_self, and_true, true_and, hx, h0, hl]
end
theorem at_last {α : Type} (xs : List α) (x : α) : atI (xs ++ [x]) (-1) = some x := by
  unfold atI ixN
  have h : ¬ (0 : Int) ≤ -1 := by omega
  rw [if_neg h, if_pos (by rw [List.length_append, List.length_singleton]; omega)]
  have e : ((-1 : Int) + ((xs ++ [x]).length : Nat)).toNat = xs.length := by rw [List.length_append, List.length_singleton]; omega
  show (xs ++ [x])[((-1 : Int) + ((xs ++ [x]).length : Nat)).toNat]? = _
  rw [e, List.getElem?_append_right (Nat.le_refl _), Nat.sub_self]
  rfl
/-! ### told by the kernel, one by one -/
theorem tm_mod (p : Ph) (dp i j : Nat) : tm p dp i j = tm p dp (i % sz0 p) (j % sz1 p) := by
  unfold tm lf0 lf1
  rw [Nat.mod_mod, Nat.mod_mod]
theorem f_after (k : Nat) (p : Ph) {dp : Nat} (hd : dp < 3) (i j : Nat) : runF tb (k+6) "made_after" [.d (bk p), .d (tm p dp i j), .d (encS (st0 p dp i))] = .ok (.v (tm p dp (i+1) j)) [] ∧ runF tb (k+6) "made_after" [.d (bk p), .d (tm p dp i j), .d (encS (st1 p dp j))] = .ok (.v (tm p dp i (j+1))) [] := by
  have h := List.all_eq_true.mp (k_after k) p (phs_in p)
  have h := List.all_eq_true.mp h dp (List.mem_range.mpr hd)
  have h := List.all_eq_true.mp h (i % sz0 p) (List.mem_range.mpr (Nat.mod_lt _ (sz0_pos p)))
  have h := List.all_eq_true.mp h (j % sz1 p) (List.mem_range.mpr (Nat.mod_lt _ (sz1_pos p)))
  rw [Bool.and_eq_true] at h
  have e1 : st0 p dp (i % sz0 p) = st0 p dp i := by unfold st0; rw [Nat.mod_mod]
  have e2 : st1 p dp (j % sz1 p) = st1 p dp j := by unfold st1; rw [Nat.mod_mod]
  have e3 : tm p dp (i % sz0 p + 1) (j % sz1 p) = tm p dp (i + 1) j := by
    unfold tm lf0 lf1
    rw [Nat.mod_mod, Nat.mod_add_mod]
  have e4 : tm p dp (i % sz0 p) (j % sz1 p + 1) = tm p dp i (j + 1) := by
    unfold tm lf0 lf1
    rw [Nat.mod_mod, Nat.mod_add_mod]
  rw [e1, e2, e3, e4, ← tm_mod] at h
  exact ⟨okV_ok h.1, okV_ok h.2⟩
theorem f_whole (k : Nat) {dp : Nat} (hd : dp < 3) {i j : Nat} (hi : i % 2 = 1) (hj : j % 2 = 1) : runF tb (k+6) "made_after" [.d (bk .p2), .d (tm .p2 dp i j), .d (encS (stw dp))] = .ok (.v (tm .p3 dp 0 0)) [] := by
  have h := List.all_eq_true.mp (k_whole k) dp (List.mem_range.mpr hd)
  have e : tm .p2 dp i j = tm .p2 dp 1 1 := by
    rw [tm_mod, show i % sz0 .p2 = 1 from hi, show j % sz1 .p2 = 1 from hj]
  rw [e]
  exact okV_ok h
theorem f_term (k : Nat) (p : Ph) {dp : Nat} (hd : dp < 3) (i j : Nat) : runF tb (k+9) "sure_term" [.d (tm p dp i j)] = .ok (.v (tm p dp i j)) [] ∧ runF tb (k+6) "is_term" [.d (tm p dp i j)] = .ok (.v (.bool true)) [] := by
  have h := List.all_eq_true.mp (k_term k) p (phs_in p)
  have h := List.all_eq_true.mp h dp (List.mem_range.mpr hd)
  have h := List.all_eq_true.mp h (i % sz0 p) (List.mem_range.mpr (Nat.mod_lt _ (sz0_pos p)))
  have h := List.all_eq_true.mp h (j % sz1 p) (List.mem_range.mpr (Nat.mod_lt _ (sz1_pos p)))
  rw [Bool.and_eq_true, ← tm_mod] at h
  exact ⟨okV_ok h.1, okV_ok h.2⟩
theorem mod3 (p : Ph) (i : Nat) : i % sz0 p < 3 ∧ i % sz1 p < 3 := by
  have h1 := Nat.mod_lt i (sz0_pos p)
  have h2 := Nat.mod_lt i (sz1_pos p)
  have h3 : sz0 p ≤ 3 := by cases p <;> decide
  have h4 : sz1 p ≤ 3 := by cases p <;> decide
  omega
theorem f_leaf (k : Nat) (p : Ph) (i : Nat) : runF tb (k+6) "is_term" [.d (lf0 p i)] = .ok (.v (.bool true)) [] ∧ runF tb (k+6) "is_term" [.d (lf1 p i)] = .ok (.v (.bool true)) [] := by
  have h := List.all_eq_true.mp (k_leaf k) p (phs_in p)
  have a := List.all_eq_true.mp h (i % sz0 p) (List.mem_range.mpr (mod3 p i).1)
  have b := List.all_eq_true.mp h (i % sz1 p) (List.mem_range.mpr (mod3 p i).2)
  rw [Bool.and_eq_true] at a b
  exact ⟨okV_ok a.1, okV_ok b.2⟩
theorem f_book (k : Nat) (p : Ph) : runF tb (k+9) "sure_book" [.d (bk p)] = .ok (.v (bk p)) [] := okV_ok (List.all_eq_true.mp (k_book k) p (phs_in p))
theorem f_name (k : Nat) : runF tb (k+1) "is_name" [.d (.str "f")] = .ok (.v (.bool true)) [] ∧ runF tb (k+1) "is_name" [.d (.str "g")] = .ok (.v (.bool true)) [] := by
  have h := k_name k
  rw [Bool.and_eq_true] at h
  exact ⟨okV_ok h.1, okV_ok h.2⟩
theorem tm_term (p : Ph) (dp i j : Nat) : isNon (tm p dp i j) = false := by
  unfold tm
  cases dp <;> rfl
/-! ### tuple_of -/
mutual
theorem t_of : ∀ (d : D) (n : Nat), okD d = true → nolist d = true → hgt d < n → runF tb n "tuple_of" [.d d] = .ok (.v d) []
  | _, 0, _, _, h => absurd h (Nat.not_lt_zero _)
  | .none, n + 1, _, _, _ => by rfl
  | .bool b, n + 1, _, _, _ => by rfl
  | .int i, n + 1, _, _, _ => by rfl
  | .str s, n + 1, _, _, _ => by rfl
  | .list xs, n + 1, _, z, _ => by cases z
  | .tuple xs, n + 1, ho, z, h => by
    simp only [okD, Bool.and_eq_true, decide_eq_true_eq] at ho
    have h' : hgts xs + 1 < n + 1 := h
    have z' : nolists xs = true := z
    have hs := t_ofs xs n ho.2 z' (by omega)
    have hc : ev (runF tb n) c_tuple_of_0 [.val (.tuple xs), .no] = .ok (.rv (.o (xs.map fun x => x))) [.val (.tuple xs), .no] :=
      comp_map (fun x => x) (fun x => x) (by rw [List.map_id']; rfl) (by unfold LINE; omega) rfl fun x hx => ⟨[.val (.tuple xs), .val x], .v x, rfl, rfl, call_r (Vs_cons (V_var rfl) Vs_nil) (hs x hx), rfl⟩
    rw [List.map_id'] at hc
    rw [u_tuple_of]
    simp only [ev, R.rv, R.rvs, R.dsk, R.bnd, testR, partR, rd, rds, fz, fzs, nrm, optR, keepS, storable, tru, isD, tyN, Ty.sub, List.any_cons, List.any_nil, List.all_cons, List.all_nil, doCall, mkArgs, lent, isOwnS, noDup, putOuts, argsFit, endF, outsF, startF, bindT, bindTs, List.getElem?_cons_zero, List.getElem?_cons_succ, List.getElem?_nil, List.map_cons, List.map_nil, List.length_cons, List.length_nil, List.replicate, List.cons_append, List.nil_append, List.set_cons_zero, List.set_cons_succ, Option.bind, Option.map, Bool.and_true, Bool.true_and, Bool.and_false, Bool.false_and, Bool.or_true, Bool.true_or, Bool.or_false, Bool.false_or, Bool.not_true, Bool.not_false, Bool.not_not, if_true, if_false, Bool.false_eq_true, reduceIte, reduceCtorEq, decide_true, decide_false, List.isEmpty_nil, List.isEmpty_cons, beq_self_eq_true, Nat.reduceAdd, Nat.reduceSub, Nat.reduceLeDiff, Nat.reduceLT, List.contains_nil, it_l, it_t, it_r, ty_r, b_add, b_sub, b_mul, b_mod, b_fdiv, b_addt, b_addl, b_pow3, b_pow6, b_pow12, b_pow18, i_t, i_l, i_r, sl_t, sl_l, p_len_l, p_len_t, p_len_r, p_abs, p_int, p_intB, p_tup_l, p_tup_t, p_lst_l, p_lst_t, p_sum_l, p_sum_t, p_sum_r, p_all, p_any, p_max2, p_min2, isNon, nolistR, nolist, and_self, and_true, true_and, f_tuple_of, hc]
  | .dict _, _ + 1, ho, _, _ => by cases ho
theorem t_ofs : ∀ (ds : List D) (n : Nat), okDs ds = true → nolists ds = true → hgts ds < n → ∀ d ∈ ds, runF tb n "tuple_of" [.d d] = .ok (.v d) []
  | [], _, _, _, _ => fun _ z => nomatch z
  | x :: r, n, ho, z, h => fun d hd => by
    simp only [okDs, Bool.and_eq_true] at ho
    have z' : (nolist x && nolists r) = true := z
    rw [Bool.and_eq_true] at z'
    have h' : max (hgt x) (hgts r) < n := h
    rcases List.mem_cons.mp hd with e | hd
    · rw [e]
      exact t_of x n ho.1 z'.1 (by omega)
    · exact t_ofs r n ho.2 z'.2 (by omega) d hd
end
/-! ### steps, runs -/
def Nn (s : Stp) : Prop := s.1.length ≤ 1000 ∧ (∀ x ∈ s.1, 0 ≤ x) ∧ 0 ≤ s.2
theorem okD_step {s : Stp} (h : Nn s) : okD (encS s) = true := by
  show (decide (2 ≤ 1000) && (okD (rowD s.1) && (true && true))) = true
  rw [okD_row _ h.1]
  rfl
theorem hgt_step (s : Stp) : hgt (encS s) ≤ 2 := by
  have := hgt_row s.1
  show max (hgt (rowD s.1)) (max 0 0) + 1 ≤ 2
  omega
theorem nl_step (s : Stp) : nolist (encS s) = true := by
  show (nolist (rowD s.1) && (true && true)) = true
  rw [nolist_row]
  rfl
theorem nls_map {α : Type} (f : α → D) (l : List α) (h : ∀ x ∈ l, nolist (f x) = true) : nolists (l.map f) = true := by
  induction l with
  | nil => rfl
  | cons x l ih =>
    show (nolist (f x) && nolists (l.map f)) = true
    rw [h x List.mem_cons_self, ih fun y hy => h y (List.mem_cons_of_mem _ hy)]
    rfl
def runD (ss : List Stp) : D := .tuple (ss.map encS)
theorem okD_run {ss : List Stp} (hl : ss.length ≤ 1000) (h : ∀ s ∈ ss, Nn s) : okD (runD ss) = true := by
  show (decide ((ss.map encS).length ≤ 1000) && okDs (ss.map encS)) = true
  rw [List.length_map, decide_eq_true hl, okDs_map _ _ fun s hs => okD_step (h s hs)]
  rfl
theorem hgt_run (ss : List Stp) : hgt (runD ss) ≤ 3 := by
  have := hgts_map (n := 2) encS ss fun s _ => hgt_step s
  show hgts (ss.map encS) + 1 ≤ 3
  omega
theorem nl_run (ss : List Stp) : nolist (runD ss) = true := nls_map encS ss fun s _ => nl_step s
section
variable (k : Nat)
theorem s_is_pair {s : Stp} (h : Nn s) : runF tb (k+3) "is_pair" [.d (encS s)] = .ok (.v (.bool true)) [] := by
  obtain ⟨h1, h2, h3⟩ := h
  have ht : runF tb (k+2) "is_tuple_of" [.d (encS s), .d (.int 2)] = .ok (.v (.bool true)) [] := rfl
  have hf : runF tb (k+2) "is_from" [.d (.int s.2), .d (.int 0)] = .ok (.v (.bool true)) [] := by rw [s_from, decide_eq_true h3]
  have hc : ev (runF tb (k+2)) c_is_pair_0 [.val (encS s), .no] = .ok (.rv (.o (s.1.map fun _ => .bool true))) [.val (encS s), .no] :=
    comp_map .int (fun _ => .bool true) rfl (by unfold LINE; omega) rfl fun x hx => ⟨[.val (encS s), .val (.int x)], .v (.bool true), rfl, rfl, call_r (Vs_cons (V_var rfl) (Vs_cons (V_c _) Vs_nil)) ((s_from k x 0).trans (by rw [decide_eq_true (h2 x hx)])), rfl⟩
  have body : ev (runF tb (k+2)) f_is_pair.body [.val (encS s), .no] = .ok (.fl (.ret (.v (.bool true)))) [.val (encS s), .no] :=
    seq_nx (if_no (V_orF (V_notT (V_call (Vs_cons (V_var rfl) (Vs_cons (V_c _) Vs_nil)) ht)) (V_orF (V_notT (V_isi (V_idx (V_var rfl) (V_c _) rfl) rfl)) (V_one (V_notT (V_call (Vs_cons (V_idx (V_var rfl) (V_c _) rfl) (Vs_cons (V_c _) Vs_nil)) hf)))))) (seq_ret (ret_v (V_allT hc)))
  rw [u_is_pair]
  show endF [false] (ev (runF tb (k+2)) f_is_pair.body [.val (encS s), .no]) = _
  rw [body]
  rfl
theorem all_pairs {X : Slot} {ss : List Stp} (hl : ss.length ≤ 60) (h : ∀ s ∈ ss, Nn s) : ev (runF tb (k+3)) c_sure_run_0 [X, .val (runD ss), .no] = .ok (.rv (.o (ss.map fun _ => .bool true))) [X, .val (runD ss), .no] :=
  comp_map encS (fun _ => .bool true) rfl (by unfold LINE; omega) rfl fun s hs => ⟨[X, .val (runD ss), .val (encS s)], .v (.bool true), rfl, rfl, call_r (Vs_cons (V_var rfl) Vs_nil) (s_is_pair k (h s hs)), rfl⟩
theorem trues {α : Type} (l : List α) : (l.map fun _ => PyData.bool true) = (l.map fun _ => true).map .bool ∧ (l.map fun _ => true).all id = true := by
  refine ⟨by rw [List.map_map]; rfl, ?_⟩
  rw [List.all_map]
  exact List.all_eq_true.mpr fun _ _ => rfl
theorem s_sure_run {ss : List Stp} (hl : ss.length ≤ 60) (h : ∀ s ∈ ss, Nn s) : runF tb (k+5) "sure_run" [.d (runD ss)] = .ok (.v (runD ss)) [] := by
  have ht := t_of (runD ss) (k+4) (okD_run (by omega) h) (nl_run ss) (by have := hgt_run ss; omega)
  have hc : ev (runF tb (k+4)) c_sure_run_0 [.val (runD ss), .val (runD ss), .no] = .ok (.rv (.o (ss.map fun _ => .bool true))) [.val (runD ss), .val (runD ss), .no] := all_pairs (k+1) (X := .val (runD ss)) hl h
  have h60 : ((ss.map encS).length : Int) ≤ 60 := by rw [List.length_map]; omega
  have body : ev (runF tb (k+4)) f_sure_run.body [.val (runD ss), .no, .no] = .ok (.fl (.ret (.v (runD ss)))) [.val (runD ss), .val (runD ss), .no] :=
    seq_nx (asg_v (V_call (Vs_cons (V_var rfl) Vs_nil) ht) rfl) (seq_nx (ex_v (V_call (Vs_cons (V_andT (V_isi (V_var rfl) rfl) (V_andT (V_cmp (V_lenT (V_var rfl)) rfl (by rw [c_le, decide_eq_true h60])) (V_one (V_allT hc)))) Vs_nil) (s_sure (k+3)))) (seq_ret (ret_v (V_var rfl))))
  rw [u_sure_run]
  show endF [false] (ev (runF tb (k+4)) f_sure_run.body [.val (runD ss), .no, .no]) = _
  rw [body]
  rfl
/-! ### runs that go -/
inductive Go (b : D) : D → List Stp → D → Prop
  | nil (t : D) : Go b t [] t
  | cons {t t' u : D} {s : Stp} {ss : List Stp} (h : ∀ k, runF tb (k+6) "made_after" [.d b, .d t, .d (encS s)] = .ok (.v t') []) (hn : isNon t' = false) (r : Go b t' ss u) : Go b t (s :: ss) u
theorem Go.app {b t u w : D} {ss rs : List Stp} (h : Go b t ss u) (h2 : Go b u rs w) : Go b t (ss ++ rs) w := by
  induction h with
  | nil t => exact h2
  | cons h hn _ ih => exact .cons h hn (ih h2)
theorem enum_cons (i : Int) (x : D) (r : List D) : enumF i (x :: r) = .tuple [.int i, x] :: enumF (i + 1) r := rfl
theorem along_loop {b : D} {X1 X2 : Slot} : ∀ {t u : D} {ss : List Stp} (_ : Go b t ss u) (i : Int) (acc : List D) (s4 s5 s6 : Slot), storable (some s4) = true → storable (some s5) = true → storable (some s6) = true → acc.length + ss.length < 1000 →
    ∃ (acc' : List D) (t4 t5 t6 : Slot), fLoop (fun d e2 => match bindT (.tT (.cons (.tN 4) (.cons (.tN 5) .nil))) d e2 with
      | some e3 => ev (runF tb (k+6)) (.seq (.asg (.tN 6) (.call "made_after" [false, false, false] (.cons (.var 0) (.cons (.idx (.var 3) (.neg (.const (.int 1)))) (.cons (.var 5) .nil))))) (.seq (.ifS (.cmp .Is (.var 6) (.const .none)) (.seq .never .done) .done) (.seq (.app 3 (.var 6)) .done))) e3
      | none => .bad) (enumF i (ss.map encS)) [.val b, X1, X2, .own false (acc ++ [t]), s4, s5, s6] = .ok (.fl .nx) [.val b, X1, X2, .own false (acc' ++ [u]), t4, t5, t6] ∧ acc'.length = acc.length + ss.length
  | _, _, _, .nil t, i, acc, s4, s5, s6, _, _, _, _ => ⟨acc, s4, s5, s6, rfl, by simp⟩
  | _, _, _, .cons (t := t) (t' := t') (s := s) (ss := ss) h hn r, i, acc, s4, s5, s6, h4, h5, h6, hl => by
    rw [List.length_cons] at hl
    obtain ⟨acc', t4, t5, t6, q, ql⟩ := along_loop r (i + 1) (acc ++ [t]) (.val (.int i)) (.val (encS s)) (.val t') rfl rfl rfl (by rw [List.length_append, List.length_singleton]; omega)
    refine ⟨acc', t4, t5, t6, ?_, by rw [ql, List.length_append, List.length_singleton, List.length_cons]; omega⟩
    have b1 : bindT (.tT (.cons (.tN 4) (.cons (.tN 5) .nil))) (.tuple [.int i, encS s]) [.val b, X1, X2, .own false (acc ++ [t]), s4, s5, s6] = some [.val b, X1, X2, .own false (acc ++ [t]), .val (.int i), .val (encS s), s6] := by
      have z1 := bind_st (i := 4) (d := .int i) (e := [.val b, X1, X2, .own false (acc ++ [t]), s4, s5, s6]) rfl h4
      have z2 := bind_st (i := 5) (d := encS s) (e := [.val b, X1, X2, .own false (acc ++ [t]), .val (.int i), s5, s6]) rfl h5
      show (match bindT (.tN 4) (.int i) [.val b, X1, X2, .own false (acc ++ [t]), s4, s5, s6] with
        | some e1 => bindTs (.cons (.tN 5) .nil) [encS s] e1
        | none => none) = _
      rw [z1]
      show (match bindT (.tN 5) (encS s) [.val b, X1, X2, .own false (acc ++ [t]), .val (.int i), s5, s6] with
        | some e1 => bindTs .nil [] e1
        | none => none) = _
      rw [z2]
      rfl
    have step : ev (runF tb (k+6)) (.seq (.asg (.tN 6) (.call "made_after" [false, false, false] (.cons (.var 0) (.cons (.idx (.var 3) (.neg (.const (.int 1)))) (.cons (.var 5) .nil))))) (.seq (.ifS (.cmp .Is (.var 6) (.const .none)) (.seq .never .done) .done) (.seq (.app 3 (.var 6)) .done))) [.val b, X1, X2, .own false (acc ++ [t]), .val (.int i), .val (encS s), s6] = .ok (.fl .nx) [.val b, X1, X2, .own false (acc ++ [t] ++ [t']), .val (.int i), .val (encS s), .val t'] :=
      seq_nx (asg_v (V_call (Vs_cons (V_var rfl) (Vs_cons (V_idxb rfl (V_neg (V_c _)) (by rw [i_l]; exact at_last acc t)) (Vs_cons (V_var rfl) Vs_nil))) (h k)) h6) (seq_nx (if_r (x := false) (V_cmp (V_var rfl) (V_c _) (by rw [c_is, hn])) (fun z => nomatch z) fun _ => rfl) (seq_nx (app_v (V_var rfl) rfl (by rw [List.length_append, List.length_singleton]; unfold LINE; omega)) rfl))
    rw [List.map_cons, enum_cons]
    show (match (match bindT (.tT (.cons (.tN 4) (.cons (.tN 5) .nil))) (.tuple [.int i, encS s]) [.val b, X1, X2, .own false (acc ++ [t]), s4, s5, s6] with
      | some e3 => ev (runF tb (k+6)) (.seq (.asg (.tN 6) (.call "made_after" [false, false, false] (.cons (.var 0) (.cons (.idx (.var 3) (.neg (.const (.int 1)))) (.cons (.var 5) .nil))))) (.seq (.ifS (.cmp .Is (.var 6) (.const .none)) (.seq .never .done) .done) (.seq (.app 3 (.var 6)) .done))) e3
      | none => .bad) with
      | .ok (.fl .nx) e1 => fLoop _ (enumF (i + 1) (ss.map encS)) e1
      | .ok (.fl .cont) e1 => fLoop _ (enumF (i + 1) (ss.map encS)) e1
      | .ok (.fl .brk) e1 => .ok (.fl .nx) e1
      | .ok (.fl (.ret r)) e1 => .ok (.fl (.ret r)) e1
      | .rz x e1 => .rz x e1
      | _ => .bad) = _
    rw [b1]
    dsimp only
    rw [step]
    exact q
theorem s_along {b t u : D} {ss : List Stp} (h : Go b t ss u) (hl : ss.length ≤ 60) : ∃ acc : List D, runF tb (k+7) "made_along" [.d b, .d t, .d (runD ss)] = .ok (.o (acc ++ [u])) [] := by
  obtain ⟨acc, t4, t5, t6, q, _⟩ := along_loop k (X1 := .val t) (X2 := .val (runD ss)) h 0 [] .no .no .no rfl rfl rfl (by rw [List.length_nil]; omega)
  refine ⟨acc, ?_⟩
  have body : ev (runF tb (k+6)) f_made_along.body [.val b, .val t, .val (runD ss), .no, .no, .no, .no] = .ok (.fl (.ret (.o (acc ++ [u])))) [.val b, .val t, .val (runD ss), .no, t4, t5, t6] :=
    seq_nx (asg_l (O_lst (Vs_cons (V_var rfl) Vs_nil) one_line) rfl) (seq_nx (for_ok (src_enum_t (V_var rfl)) q) (seq_ret (ret_own rfl)))
  rw [u_made_along]
  show endF [false, false, false] (ev (runF tb (k+6)) f_made_along.body [.val b, .val t, .val (runD ss), .no, .no, .no, .no]) = _
  rw [body]
  rfl
/-- what a law's run may be -/
structure Fit (p : Ph) (t u : D) (ss : List Stp) : Prop where
  len : ss.length ≤ 60
  nn : ∀ s ∈ ss, Nn s
  go : Go (bk p) t ss u
  tt : ∀ k, runF tb (k+9) "sure_term" [.d t] = .ok (.v t) []
  tu : ∀ k, runF tb (k+9) "sure_term" [.d u] = .ok (.v u) []
theorem s_terms {p : Ph} {t u : D} {ss : List Stp} (h : Fit p t u ss) : ∃ acc : List D, runF tb (k+10) "terms_along" [.d (bk p), .d t, .d (runD ss)] = .ok (.o (acc ++ [u])) [] := by
  obtain ⟨acc, q⟩ := s_along (k+2) h.go h.len
  refine ⟨acc, ?_⟩
  have body : ev (runF tb (k+9)) f_terms_along.body [.val (bk p), .val t, .val (runD ss), .no, .no] = .ok (.fl (.ret (.o (acc ++ [u])))) [.val (bk p), .val t, .val (runD ss), .val (bk p), .val t] :=
    seq_nx (par_v (V_call (Vs_cons (V_var rfl) Vs_nil) (f_book k p)) (V_call (Vs_cons (V_var rfl) Vs_nil) (h.tt k)) rfl rfl) (seq_ret (ret_o (call_r (Vs_cons (V_var rfl) (Vs_cons (V_var rfl) (Vs_cons (V_call (Vs_cons (V_var rfl) Vs_nil) (s_sure_run (k+4) h.len h.nn)) Vs_nil))) q)))
  rw [u_terms_along]
  show endF [false, false, false] (ev (runF tb (k+9)) f_terms_along.body [.val (bk p), .val t, .val (runD ss), .no, .no]) = _
  rw [body]
  rfl
theorem s_end {p : Ph} {t u : D} {ss : List Stp} (h : Fit p t u ss) : runF tb (k+11) "end_of" [.d (bk p), .d t, .d (runD ss)] = .ok (.v u) [] := by
  obtain ⟨acc, q⟩ := s_terms k h
  have body : ev (runF tb (k+10)) f_end_of.body [.val (bk p), .val t, .val (runD ss)] = .ok (.fl (.ret (.v u))) [.val (bk p), .val t, .val (runD ss)] :=
    seq_ret (ret_v (V_idxO (call_r (Vs_cons (V_var rfl) (Vs_cons (V_var rfl) (Vs_cons (V_var rfl) Vs_nil))) q) (V_neg (V_c _)) (by rw [i_l]; exact at_last acc u)))
  rw [u_end_of]
  show endF [false, false, false] (ev (runF tb (k+10)) f_end_of.body [.val (bk p), .val t, .val (runD ss)]) = _
  rw [body]
  rfl
end
end L2.Mp
set_option Elab.async false
set_option linter.all false
set_option maxRecDepth 100000
set_option maxHeartbeats 0
namespace L2.Mp
open PySem PySem.Spec PyProof.Rows L2
section
variable {cf : CF} {e : Fm}
theorem V_glo (x : Str) (d : D) : V cf e (.glo x d) d := rfl
theorem V_cmpb {op : CmpOp} {a : T} {i : Nat} {io : Bool} {x : D} {ys : List D} {t : Bool} (ha : V cf e a x) (h0 : e[i]? = some (.own io ys)) (h : cmpD op x (.list ys) = some t) : V cf e (.cmp op a (.var i)) (.bool t) := by
  unfold V at *
  simp only [ev, R.rv, R.rvs, R.dsk, R.bnd, testR, partR, rd, rds, fz, fzs, nrm, optR, keepS, storable, tru, isD, tyN, Ty.sub, List.any_cons, List.any_nil, List.all_cons, List.all_nil, doCall, mkArgs, lent, isOwnS, noDup, putOuts, argsFit, endF, outsF, startF, bindT, bindTs, List.getElem?_cons_zero, List.getElem?_cons_succ, List.getElem?_nil, List.map_cons, List.map_nil, List.length_cons, List.length_nil, List.replicate, List.cons_append, List.nil_append, List.set_cons_zero, List.set_cons_succ, Option.bind, Option.map, Bool.and_true, Bool.true_and, Bool.and_false, Bool.false_and, Bool.or_true, Bool.true_or, Bool.or_false, Bool.false_or, Bool.not_true, Bool.not_false, Bool.not_not, if_true, if_false, Bool.false_eq_true, reduceIte, reduceCtorEq, decide_true, decide_false, List.isEmpty_nil, List.isEmpty_cons, beq_self_eq_true, Nat.reduceAdd, Nat.reduceSub, Nat.reduceLeDiff, Nat.reduceLT, List.contains_nil, it_l, it_t, it_r, ty_r, b_add, b_sub, b_mul, b_mod, b_fdiv, b_addt, b_addl, b_pow3, b_pow6, b_pow12, b_pow18, i_t, i_l, i_r, sl_t, sl_l, p_len_l, p_len_t, p_len_r, p_abs, p_int, p_intB, p_tup_l, p_tup_t, p_lst_l, p_lst_t, p_sum_l, p_sum_t, p_sum_r, p_all, p_any, p_max2, p_min2, isNon, nolistR, nolist, and_self, and_true, true_and, ha, h0, h]
theorem V_cmpOb {op : CmpOp} {b : T} {i : Nat} {io : Bool} {xs ys : List D} {t : Bool} (h0 : e[i]? = some (.own io xs)) (hb : O cf e b ys) (h : cmpD op (.list xs) (.list ys) = some t) : V cf e (.cmp op (.var i) b) (.bool t) := by
  unfold V O at *
  simp only [ev, R.rv, R.rvs, R.dsk, R.bnd, testR, partR, rd, rds, fz, fzs, nrm, optR, keepS, storable, tru, isD, tyN, Ty.sub, List.any_cons, List.any_nil, List.all_cons, List.all_nil, doCall, mkArgs, lent, isOwnS, noDup, putOuts, argsFit, endF, outsF, startF, bindT, bindTs, List.getElem?_cons_zero, List.getElem?_cons_succ, List.getElem?_nil, List.map_cons, List.map_nil, List.length_cons, List.length_nil, List.replicate, List.cons_append, List.nil_append, List.set_cons_zero, List.set_cons_succ, Option.bind, Option.map, Bool.and_true, Bool.true_and, Bool.and_false, Bool.false_and, Bool.or_true, Bool.true_or, Bool.or_false, Bool.false_or, Bool.not_true, Bool.not_false, Bool.not_not, if_true, if_false, Bool.false_eq_true, reduceIte, reduceCtorEq, decide_true, decide_false, List.isEmpty_nil, List.isEmpty_cons, beq_self_eq_true, Nat.reduceAdd, Nat.reduceSub, Nat.reduceLeDiff, Nat.reduceLT, List.contains_nil, it_l, it_t, it_r, ty_r, b_add, b_sub, b_mul, b_mod, b_fdiv, b_addt, b_addl, b_pow3, b_pow6, b_pow12, b_pow18, i_t, i_l, i_r, sl_t, sl_l, p_len_l, p_len_t, p_len_r, p_abs, p_int, p_intB, p_tup_l, p_tup_t, p_lst_l, p_lst_t, p_sum_l, p_sum_t, p_sum_r, p_all, p_any, p_max2, p_min2, isNon, nolistR, nolist, and_self, and_true, true_and, hb, h0, h]
theorem add_e {a b : T} {x y : List D} (ha : O cf e a x) (hb : O cf e b y) (hl : x.length + y.length ≤ LINE) : O cf e (.bin .Add a b) (x ++ y) := by
  unfold O at *
  simp only [ev, R.rv, R.rvs, R.dsk, R.bnd, testR, partR, rd, rds, fz, fzs, nrm, optR, keepS, storable, tru, isD, tyN, Ty.sub, List.any_cons, List.any_nil, List.all_cons, List.all_nil, doCall, mkArgs, lent, isOwnS, noDup, putOuts, argsFit, endF, outsF, startF, bindT, bindTs, List.getElem?_cons_zero, List.getElem?_cons_succ, List.getElem?_nil, List.map_cons, List.map_nil, List.length_cons, List.length_nil, List.replicate, List.cons_append, List.nil_append, List.set_cons_zero, List.set_cons_succ, Option.bind, Option.map, Bool.and_true, Bool.true_and, Bool.and_false, Bool.false_and, Bool.or_true, Bool.true_or, Bool.or_false, Bool.false_or, Bool.not_true, Bool.not_false, Bool.not_not, if_true, if_false, Bool.false_eq_true, reduceIte, reduceCtorEq, decide_true, decide_false, List.isEmpty_nil, List.isEmpty_cons, beq_self_eq_true, Nat.reduceAdd, Nat.reduceSub, Nat.reduceLeDiff, Nat.reduceLT, List.contains_nil, it_l, it_t, it_r, ty_r, b_add, b_sub, b_mul, b_mod, b_fdiv, b_addt, b_addl, b_pow3, b_pow6, b_pow12, b_pow18, i_t, i_l, i_r, sl_t, sl_l, p_len_l, p_len_t, p_len_r, p_abs, p_int, p_intB, p_tup_l, p_tup_t, p_lst_l, p_lst_t, p_sum_l, p_sum_t, p_sum_r, p_all, p_any, p_max2, p_min2, isNon, nolistR, nolist, and_self, and_true, true_and, ha, hb, hl]
theorem ext_o {i : Nat} {x : T} {io : Bool} {ds es : List D} (h0 : e[i]? = some (.own io ds)) (hx : O cf e x es) (hl : ds.length + es.length ≤ LINE) : ev cf (.ext i x) e = .ok (.fl .nx) (e.set i (.own io (ds ++ es))) := by
  unfold O at hx
  simp only [ev, R.rv, R.rvs, R.dsk, R.bnd, testR, partR, rd, rds, fz, fzs, nrm, optR, keepS, storable, tru, isD, tyN, Ty.sub, List.any_cons, List.any_nil, List.all_cons, List.all_nil, doCall, mkArgs, lent, isOwnS, noDup, putOuts, argsFit, endF, outsF, startF, bindT, bindTs, List.getElem?_cons_zero, List.getElem?_cons_succ, List.getElem?_nil, List.map_cons, List.map_nil, List.length_cons, List.length_nil, List.replicate, List.cons_append, List.nil_append, List.set_cons_zero, List.set_cons_succ, Option.bind, Option.map, Bool.and_true, Bool.true_and, Bool.and_false, Bool.false_and, Bool.or_true, Bool.true_or, Bool.or_false, Bool.false_or, Bool.not_true, Bool.not_false, Bool.not_not, if_true, if_false, Bool.false_eq_true, reduceIte, reduceCtorEq, decide_true, decide_false, List.isEmpty_nil, List.isEmpty_cons, beq_self_eq_true, Nat.reduceAdd, Nat.reduceSub, Nat.reduceLeDiff, Nat.reduceLT, List.contains_nil, it_l, it_t, it_r, ty_r, b_add, b_sub, b_mul, b_mod, b_fdiv, b_addt, b_addl, b_pow3, b_pow6, b_pow12, b_pow18, i_t, i_l, i_r, sl_t, sl_l, p_len_l, p_len_t, p_len_r, p_abs, p_int, p_intB, p_tup_l, p_tup_t, p_lst_l, p_lst_t, p_sum_l, p_sum_t, p_sum_r, p_all, p_any, p_max2, p_min2, isNon, nolistR, nolist, and_self, and_true, true_and, hx, h0, hl]
theorem tup2_e {a b : T} {x y : D} {e1 : Fm} (ha : ev cf a e = .ok (.rv (.v x)) e1) (hb : V cf e1 b y) : ev cf (.tup (.cons a (.cons b .nil))) e = .ok (.rv (.v (.tuple [x, y]))) e1 := by
  unfold V at hb
  simp only [ev, R.rv, R.rvs, R.dsk, R.bnd, testR, partR, rd, rds, fz, fzs, nrm, optR, keepS, storable, tru, isD, tyN, Ty.sub, List.any_cons, List.any_nil, List.all_cons, List.all_nil, doCall, mkArgs, lent, isOwnS, noDup, putOuts, argsFit, endF, outsF, startF, bindT, bindTs, List.getElem?_cons_zero, List.getElem?_cons_succ, List.getElem?_nil, List.map_cons, List.map_nil, List.length_cons, List.length_nil, List.replicate, List.cons_append, List.nil_append, List.set_cons_zero, List.set_cons_succ, Option.bind, Option.map, Bool.and_true, Bool.true_and, Bool.and_false, Bool.false_and, Bool.or_true, Bool.true_or, Bool.or_false, Bool.false_or, Bool.not_true, Bool.not_false, Bool.not_not, if_true, if_false, Bool.false_eq_true, reduceIte, reduceCtorEq, decide_true, decide_false, List.isEmpty_nil, List.isEmpty_cons, beq_self_eq_true, Nat.reduceAdd, Nat.reduceSub, Nat.reduceLeDiff, Nat.reduceLT, List.contains_nil, it_l, it_t, it_r, ty_r, b_add, b_sub, b_mul, b_mod, b_fdiv, b_addt, b_addl, b_pow3, b_pow6, b_pow12, b_pow18, i_t, i_l, i_r, sl_t, sl_l, p_len_l, p_len_t, p_len_r, p_abs, p_int, p_intB, p_tup_l, p_tup_t, p_lst_l, p_lst_t, p_sum_l, p_sum_t, p_sum_r, p_all, p_any, p_max2, p_min2, isNon, nolistR, nolist, and_self, and_true, true_and, ha, hb, two_line]
theorem bind_two {i j : Nat} {a b : D} {s t : Slot} (hi : e[i]? = some s) (hj : e[j]? = some t) (ne : i ≠ j) (h1 : storable (some s) = true) (h2 : storable (some t) = true) : bindT (.tT (.cons (.tN i) (.cons (.tN j) .nil))) (.tuple [a, b]) e = some ((e.set i (.val a)).set j (.val b)) := by
  have z1 := bind_st (i := i) (d := a) (e := e) hi h1
  have z2 := bind_st (i := j) (d := b) (e := e.set i (.val a)) (by rw [List.getElem?_set_ne ne]; exact hj) h2
  show (match bindT (.tN i) a e with
    | some e1 => bindTs (.cons (.tN j) .nil) [b] e1
    | none => none) = _
  rw [z1]
  show (match bindT (.tN j) b (e.set i (.val a)) with
    | some e1 => bindTs .nil [] e1
    | none => none) = _
  rw [z2]
  rfl
theorem V_tupb {i : Nat} {io : Bool} {xs : List D} (h0 : e[i]? = some (.own io xs)) : V cf e (.prim .tuple (.cons (.var i) .nil)) (.tuple xs) := V_prim1b h0 rfl
end
theorem ne_nil_t (x : D) (r : List D) : cmpD .Eq (.tuple (x :: r)) (.tuple []) = some false := by
  have e : cmpD .Eq (.tuple (x :: r)) (.tuple []) = if cmpOk (.tuple (x :: r)) (.tuple []) then some (PyData.eqvAll (x :: r) []) else none := rfl
  have hc : cmpOk (.tuple (x :: r)) (.tuple []) = true := decide_eq_true (by
    have : (PyData.tuple []).depth ≤ 190 := by decide
    omega)
  rw [e, if_pos hc]
  rfl
theorem ne_nilL (xs : List D) : cmpD .NotEq (.list xs) (.list []) = some (!xs.isEmpty) := by
  have e : cmpD .NotEq (.list xs) (.list []) = if cmpOk (.list xs) (.list []) then some (!PyData.eqvAll xs []) else none := rfl
  have hc : cmpOk (.list xs) (.list []) = true := decide_eq_true (by
    have : (PyData.list []).depth ≤ 190 := by decide
    omega)
  rw [e, if_pos hc]
  cases xs <;> rfl
theorem none_in (xs : List D) (h : ∀ x ∈ xs, isNon x = false) : cmpD .In .none (.list xs) = some false := by
  have e : cmpD .In .none (.list xs) = if cmpOk .none (.list xs) then some (xs.any fun y => PyData.eqv y .none) else none := rfl
  have hc : cmpOk .none (.list xs) = true := decide_eq_true (by
    have : (PyData.none).depth ≤ 190 := by decide
    omega)
  rw [e, if_pos hc]
  congr 1
  exact List.any_eq_false.mpr fun x hx => by
    have := h x hx
    cases x <;> first | exact absurd this (by decide) | (intro z; cases z)
theorem str_eq : cmpD .Eq (.str "same") (.str "same") = some true ∧ cmpD .Eq (.str "parts") (.str "same") = some false ∧ cmpD .Eq (.str "by") (.str "same") = some false ∧ cmpD .Eq (.str "parts") (.str "parts") = some true ∧ cmpD .Eq (.str "by") (.str "parts") = some false ∧ cmpD .Eq (.str "by") (.str "by") = some true ∧ cmpD .NotEq (.str "by") (.str "by") = some false ∧ cmpD .Eq (.str "same") (.str "parts") = some false ∧ cmpD .Eq (.str "same") (.str "by") = some false := by decide +kernel
/-- a def's run, by its body -/
theorem fin_b {fl : List Bool} {as : List Arg} {x : CR} {cf : CF} {bd : T} {n : Nat} {r : R Val} {out : CR} (hu : x = if argsFit fl as then endF fl (ev cf bd (startF n as)) else .bad) (hb : ev cf bd (startF n as) = r) (hf : argsFit fl as = true := by rfl) (ho : endF fl r = out := by rfl) : x = out := by
  rw [hu, if_pos hf, hb, ho]
/-! ### counts -/
def cnt (ss : List Stp) : List Int := (List.range 5).map fun n : Nat => (((ss.filter fun s => decide (s.2 = (n : Int))).length : Nat) : Int)
def pre (q : Int) (s : Stp) : Stp := (q :: s.1, s.2)
abbrev addR (a b : List Int) : List Int := (a.zip b).map fun p => p.1 + p.2
theorem cnt_app (x y : List Stp) : addR (cnt x) (cnt y) = cnt (x ++ y) := by
  show (((List.range 5).map _).zip ((List.range 5).map _)).map _ = _
  rw [List.zip_map', List.map_map]
  refine List.map_congr_left fun n _ => ?_
  show (((x.filter fun s => decide (s.2 = (n : Int))).length : Nat) : Int) + (((y.filter fun s => decide (s.2 = (n : Int))).length : Nat) : Int) = _
  rw [List.filter_append, List.length_append, Int.natCast_add]
theorem cnt_pre (q : Int) (ss : List Stp) : cnt (ss.map (pre q)) = cnt ss := by
  refine List.map_congr_left fun n _ => ?_
  rw [List.filter_map, List.length_map]
  rfl
theorem cnt_perm {x y : List Stp} (h : x.Perm y) : cnt x = cnt y := by
  refine List.map_congr_left fun n _ => ?_
  rw [(h.filter _).length_eq]
theorem cnt_len (x : List Stp) : (cnt x).length = 5 := by
  unfold cnt
  rw [List.length_map, List.length_range]
section
variable (k : Nat)
theorem s_added (a b : List Int) (h : a.length ≤ 1000) : runF tb (k+1) "added" [.d (rowD a), .d (rowD b)] = .ok (.v (rowD (addR a b))) [] := by
  have hc : ev (runF tb k) c_added_0 [.val (rowD a), .val (rowD b), .no, .no] = .ok (.rv (.o ((a.zip b).map fun p => .int (p.1 + p.2)))) [.val (rowD a), .val (rowD b), .no, .no] := by
    refine comp_map (fun p : Int × Int => .tuple [.int p.1, .int p.2]) (fun p => .int (p.1 + p.2)) (by rw [← zipF_enc]; rfl) (by rw [List.length_zip]; unfold LINE; omega) rfl fun p _ => ⟨[.val (rowD a), .val (rowD b), .val (.int p.1), .val (.int p.2)], .v (.int (p.1 + p.2)), rfl, rfl, rfl, rfl⟩
  have e : ((a.zip b).map fun p => PyData.int (p.1 + p.2)) = (addR a b).map .int := by rw [List.map_map]; rfl
  rw [u_added]
  simp only [ev, R.rv, R.rvs, R.dsk, R.bnd, testR, partR, rd, rds, fz, fzs, nrm, optR, keepS, storable, tru, isD, tyN, Ty.sub, List.any_cons, List.any_nil, List.all_cons, List.all_nil, doCall, mkArgs, lent, isOwnS, noDup, putOuts, argsFit, endF, outsF, startF, bindT, bindTs, List.getElem?_cons_zero, List.getElem?_cons_succ, List.getElem?_nil, List.map_cons, List.map_nil, List.length_cons, List.length_nil, List.replicate, List.cons_append, List.nil_append, List.set_cons_zero, List.set_cons_succ, Option.bind, Option.map, Bool.and_true, Bool.true_and, Bool.and_false, Bool.false_and, Bool.or_true, Bool.true_or, Bool.or_false, Bool.false_or, Bool.not_true, Bool.not_false, Bool.not_not, if_true, if_false, Bool.false_eq_true, reduceIte, reduceCtorEq, decide_true, decide_false, List.isEmpty_nil, List.isEmpty_cons, beq_self_eq_true, Nat.reduceAdd, Nat.reduceSub, Nat.reduceLeDiff, Nat.reduceLT, List.contains_nil, it_l, it_t, it_r, ty_r, b_add, b_sub, b_mul, b_mod, b_fdiv, b_addt, b_addl, b_pow3, b_pow6, b_pow12, b_pow18, i_t, i_l, i_r, sl_t, sl_l, p_len_l, p_len_t, p_len_r, p_abs, p_int, p_intB, p_tup_l, p_tup_t, p_lst_l, p_lst_t, p_sum_l, p_sum_t, p_sum_r, p_all, p_any, p_max2, p_min2, isNon, nolistR, nolist, and_self, and_true, true_and, f_added, hc]
  rw [e]
  rfl
theorem fm_len2 (n : Int) : ∀ ss : List Stp, (ss.filterMap fun s => if s.2 = n then some (encS s) else none).length = (ss.filter fun s => decide (s.2 = n)).length
  | [] => rfl
  | s :: r => by
    have ih := fm_len2 n r
    by_cases h : s.2 = n
    · rw [List.filterMap_cons_some (f := fun s : Stp => if s.2 = n then some (encS s) else none) (a := s) (b := encS s) (if_pos h), List.filter_cons_of_pos (by simpa using h), List.length_cons, List.length_cons, ih]
    · rw [List.filterMap_cons_none (f := fun s : Stp => if s.2 = n then some (encS s) else none) (a := s) (if_neg h), List.filter_cons_of_neg (by simpa using h), ih]
theorem s_counts (p : Ph) {ss : List Stp} (hl : ss.length ≤ 60) : runF tb (k+1) "made_counts" [.d (bk p), .d (runD ss)] = .ok (.v (rowD (cnt ss))) [] := by
  have inner (n : Nat) : O (runF tb k) [.val (bk p), .val (runD ss), .val (.int (0 + (n : Nat))), .no] c_made_counts_0 (ss.filterMap fun s => if s.2 = (n : Int) then some (encS s) else none) := by
    refine comp_fm encS (fun s => if s.2 = (n : Int) then some (encS s) else none) rfl (by unfold LINE; omega) rfl fun s hs => ⟨[.val (bk p), .val (runD ss), .val (.int (0 + (n : Nat))), .val (encS s)], rfl, rfl, ?_⟩
    have c : V (runF tb k) [.val (bk p), .val (runD ss), .val (.int (0 + (n : Nat))), .val (encS s)] (.cmp .Eq (.idx (.var 3) (.const (.int 1))) (.var 2)) (.bool (decide (s.2 = (n : Int)))) := V_cmp (V_idx (V_var rfl) (V_c _) rfl) (V_var rfl) (by rw [c_eq, Int.zero_add])
    by_cases h : s.2 = (n : Int)
    · rw [decide_eq_true h] at c
      exact .inr ⟨encS s, .v (encS s), if_pos h, evC_V c, rfl, rfl⟩
    · rw [decide_eq_false h] at c
      exact .inl ⟨if_neg h, evC_V c⟩
  have lb : (rules p).length = 5 := by cases p <;> rfl
  have outer : O (runF tb k) [.val (bk p), .val (runD ss), .no, .no] c_made_counts_1 ((List.range 5).map fun n : Nat => .int (((ss.filter fun s => decide (s.2 = (n : Int))).length : Nat) : Int)) := by
    refine comp_map (cf := runF tb k) (own := [2]) (tg := .tN 2) (elt := .prim .len (.cons c_made_counts_0 .nil)) (e1 := [.val (bk p), .val (runD ss), .no, .no]) (fun i : Nat => PyData.int (0 + (i : Nat))) (fun n : Nat => .int (((ss.filter fun s => decide (s.2 = (n : Int))).length : Nat) : Int)) (sR1_ok (n := 5) (V_prim (Vs_cons (V_var rfl) Vs_nil) (by show some (RV.v (.int ((rules p).length : Nat))) = _; rw [lb]) : V (runF tb k) [.val (bk p), .val (runD ss), .no, .no] (.prim .len (.cons (.var 0) .nil)) (.int ((5 : Nat) : Int))) (by omega)) (by rw [List.length_range]; unfold LINE; omega) rfl fun n hn => ?_
    exact ⟨[.val (bk p), .val (runD ss), .val (.int (0 + (n : Nat))), .no], .v _, rfl, rfl, V_prim (Vs_consO (inner n) Vs_nil) (by rw [p_len_l, fm_len2]), rfl⟩
  have e1 : ((List.range 5).map fun n : Nat => PyData.int (((ss.filter fun s => decide (s.2 = (n : Int))).length : Nat) : Int)) = (cnt ss).map .int := by unfold cnt; rw [List.map_map]; rfl
  rw [e1] at outer
  have body : ev (runF tb k) f_made_counts.body [.val (bk p), .val (runD ss), .no, .no] = .ok (.fl (.ret (.v (rowD (cnt ss))))) [.val (bk p), .val (runD ss), .no, .no] := seq_ret (ret_v (V_tupO outer))
  exact fin_b (u_made_counts _ _) body
theorem en_bind {i : Int} {d : D} {x0 x1 x2 x3 s4 s5 : Slot} (h4 : storable (some s4) = true) (h5 : storable (some s5) = true) : bindT (.tT (.cons (.tN 4) (.cons (.tN 5) .nil))) (.tuple [.int i, d]) [x0, x1, x2, x3, s4, s5] = some [x0, x1, x2, x3, .val (.int i), .val d] := by
  have z1 := bind_st (i := 4) (d := .int i) (e := [x0, x1, x2, x3, s4, s5]) rfl h4
  have z2 := bind_st (i := 5) (d := d) (e := [x0, x1, x2, x3, .val (.int i), s5]) rfl h5
  show (match bindT (.tN 4) (.int i) [x0, x1, x2, x3, s4, s5] with
    | some e1 => bindTs (.cons (.tN 5) .nil) [d] e1
    | none => none) = _
  rw [z1]
  show (match bindT (.tN 5) d [x0, x1, x2, x3, .val (.int i), s5] with
    | some e1 => bindTs .nil [] e1
    | none => none) = _
  rw [z2]
  rfl
theorem enumF_map {α : Type} (f : α → D) : ∀ (l : List α) (i : Int), ∃ ps : List (Int × α), enumF i (l.map f) = ps.map (fun p => PyData.tuple [.int p.1, f p.2]) ∧ ∀ p ∈ ps, p.2 ∈ l
  | [], _ => ⟨[], rfl, fun _ z => nomatch z⟩
  | x :: l, i => by
    obtain ⟨ps, h1, h2⟩ := enumF_map f l (i + 1)
    refine ⟨(i, x) :: ps, ?_, fun p hp => ?_⟩
    · show PyData.tuple [.int i, f x] :: enumF (i + 1) (l.map f) = _
      rw [h1]
      rfl
    · rcases List.mem_cons.mp hp with rfl | hp
      · exact List.mem_cons_self
      · exact List.mem_cons_of_mem _ (h2 p hp)
theorem s_counts_of (p : Ph) {ss : List Stp} (hl : ss.length ≤ 60) (h : ∀ s ∈ ss, Nn s ∧ s.2 < 5) : runF tb (k+10) "counts_of" [.d (bk p), .d (runD ss)] = .ok (.v (rowD (cnt ss))) [] := by
  have lb : (rules p).length = 5 := by cases p <;> rfl
  obtain ⟨ps, q1, q2⟩ := enumF_map encS ss 0
  have src : ev (runF tb (k+9)) (.sEnum (.var 3)) [.val (bk p), .val (runD ss), .val (bk p), .val (runD ss), .no, .no] = .ok (.ds (ps.map fun p => PyData.tuple [.int p.1, encS p.2])) [.val (bk p), .val (runD ss), .val (bk p), .val (runD ss), .no, .no] := by
    rw [← q1]
    exact src_enum_t (V_var rfl)
  obtain ⟨e', g1, g2⟩ := fLoop_inv (enc := fun p : Int × Stp => PyData.tuple [.int p.1, encS p.2]) (step := fun d e2 => match bindT (.tT (.cons (.tN 4) (.cons (.tN 5) .nil))) d e2 with
    | some e3 => ev (runF tb (k+9)) (.seq (.ifS (.cmp .GtE (.idx (.var 5) (.const (.int 1))) (.prim .len (.cons (.var 2) .nil))) (.seq .never .done) .done) .done) e3
    | none => .bad) (P := fun e => ∃ t4 t5, e = [.val (bk p), .val (runD ss), .val (bk p), .val (runD ss), t4, t5] ∧ storable (some t4) = true ∧ storable (some t5) = true) ps _ ⟨.no, .no, rfl, rfl, rfl⟩ fun x hx e he => by
      obtain ⟨t4, t5, rfl, h4, h5⟩ := he
      have hs := h _ (q2 x hx)
      refine ⟨[.val (bk p), .val (runD ss), .val (bk p), .val (runD ss), .val (.int x.1), .val (encS x.2)], ?_, _, _, rfl, rfl, rfl⟩
      try dsimp only
      rw [en_bind h4 h5]
      try dsimp only
      exact seq_nx (if_no (V_cmp (V_idx (V_var rfl) (V_c _) rfl) (V_lenT (V_var rfl)) (by rw [lb, c_ge, decide_eq_false (by omega)]))) rfl
  obtain ⟨t4, t5, rfl, _⟩ := g2
  have body : ev (runF tb (k+9)) f_counts_of.body [.val (bk p), .val (runD ss), .no, .no, .no, .no] = .ok (.fl (.ret (.v (rowD (cnt ss))))) [.val (bk p), .val (runD ss), .val (bk p), .val (runD ss), t4, t5] :=
    seq_nx (par_v (V_call (Vs_cons (V_var rfl) Vs_nil) (f_book k p)) (V_call (Vs_cons (V_var rfl) Vs_nil) (s_sure_run (k+4) hl fun s hs => (h s hs).1)) rfl rfl) (seq_nx (for_ok src g1) (seq_ret (ret_v (V_call (Vs_cons (V_var rfl) (Vs_cons (V_var rfl) Vs_nil)) (s_counts (k+8) p hl)))))
  exact fin_b (u_counts_of _ _) body
/-! ### is_run -/
theorem leads_loop {b : D} {X1 X2 X3 : Slot} : ∀ {t u : D} {ss : List Stp} (_ : Go b t ss u) (s5 : Slot), storable (some s5) = true → ∃ t5 : Slot, fLoop (fun d e2 => match bindT (.tN 5) d e2 with
      | some e3 => ev (runF tb (k+6)) (.seq (.asg (.tN 4) (.call "made_after" [false, false, false] (.cons (.var 0) (.cons (.var 4) (.cons (.var 5) .nil))))) (.seq (.ifS (.cmp .Is (.var 4) (.const .none)) (.seq (.ret (.const (.bool false))) .done) .done) .done)) e3
      | none => .bad) (ss.map encS) [.val b, X1, X2, X3, .val t, s5] = .ok (.fl .nx) [.val b, X1, X2, X3, .val u, t5]
  | _, _, _, .nil t, s5, _ => ⟨s5, rfl⟩
  | _, _, _, .cons (t := t) (t' := t') (s := s) (ss := ss) h hn r, s5, h5 => by
    obtain ⟨t5, q⟩ := leads_loop r (.val (encS s)) rfl
    refine ⟨t5, ?_⟩
    have b1 := bind_st (i := 5) (d := encS s) (e := [.val b, X1, X2, X3, .val t, s5]) rfl h5
    have step : ev (runF tb (k+6)) (.seq (.asg (.tN 4) (.call "made_after" [false, false, false] (.cons (.var 0) (.cons (.var 4) (.cons (.var 5) .nil))))) (.seq (.ifS (.cmp .Is (.var 4) (.const .none)) (.seq (.ret (.const (.bool false))) .done) .done) .done)) [.val b, X1, X2, X3, .val t, .val (encS s)] = .ok (.fl .nx) [.val b, X1, X2, X3, .val t', .val (encS s)] :=
      seq_nx (asg_v (V_call (Vs_cons (V_var rfl) (Vs_cons (V_var rfl) (Vs_cons (V_var rfl) Vs_nil))) (h k)) rfl) (seq_nx (if_no (V_cmp (V_var rfl) (V_c _) (by rw [c_is, hn]))) rfl)
    rw [List.map_cons]
    show (match (match bindT (.tN 5) (encS s) [.val b, X1, X2, X3, .val t, s5] with
      | some e3 => ev (runF tb (k+6)) (.seq (.asg (.tN 4) (.call "made_after" [false, false, false] (.cons (.var 0) (.cons (.var 4) (.cons (.var 5) .nil))))) (.seq (.ifS (.cmp .Is (.var 4) (.const .none)) (.seq (.ret (.const (.bool false))) .done) .done) .done)) e3
      | none => .bad) with
      | .ok (.fl .nx) e1 => fLoop _ (ss.map encS) e1
      | .ok (.fl .cont) e1 => fLoop _ (ss.map encS) e1
      | .ok (.fl .brk) e1 => .ok (.fl .nx) e1
      | .ok (.fl (.ret r)) e1 => .ok (.fl (.ret r)) e1
      | .rz x e1 => .rz x e1
      | _ => .bad) = _
    rw [b1]
    dsimp only [List.set_cons_succ, List.set_cons_zero]
    rw [step]
    exact q
theorem s_leads {b t u : D} {ss : List Stp} (hg : Go b t ss u) (hl : ss.length ≤ 60) (h : ∀ s ∈ ss, Nn s) (hu : cmpD .Eq u u = some true) : runF tb (k+7) "leads_so" [.d b, .d t, .d u, .d (runD ss)] = .ok (.v (.bool true)) [] := by
  obtain ⟨t5, q⟩ := leads_loop k (X1 := .val t) (X2 := .val u) (X3 := .val (runD ss)) hg .no rfl
  have hc : O (runF tb (k+6)) [.val b, .val t, .val u, .val (runD ss), .no, .no] c_leads_so_0 (ss.map fun _ => .bool true) :=
    comp_map encS (fun _ => .bool true) rfl (by unfold LINE; omega) rfl fun s hs => ⟨[.val b, .val t, .val u, .val (runD ss), .no, .val (encS s)], .v (.bool true), rfl, rfl, call_r (Vs_cons (V_var rfl) Vs_nil) (s_is_pair (k+3) (h s hs)), rfl⟩
  have body : ev (runF tb (k+6)) f_leads_so.body [.val b, .val t, .val u, .val (runD ss), .no, .no] = .ok (.fl (.ret (.v (.bool true)))) [.val b, .val t, .val u, .val (runD ss), .val u, t5] :=
    seq_nx (if_no (V_orF (V_notT (V_isi (V_var rfl) rfl)) (V_one (V_notT (V_allT hc))))) (seq_nx (asg_v (V_var rfl) rfl) (seq_nx (for_ok (src_seq_t (V_var rfl)) q) (seq_ret (ret_v (V_cmp (V_var rfl) (V_var rfl) hu)))))
  exact fin_b (u_leads_so _ _) body
theorem s_is_run {p : Ph} {t u : D} {ss : List Stp} (h : Fit p t u ss) (hu : cmpD .Eq u u = some true) : runF tb (k+10) "is_run" [.d (bk p), .d t, .d u, .d (runD ss)] = .ok (.v (.bool true)) [] := by
  have body : ev (runF tb (k+9)) f_is_run.body [.val (bk p), .val t, .val u, .val (runD ss), .no, .no, .no] = .ok (.fl (.ret (.v (.bool true)))) [.val (bk p), .val t, .val u, .val (runD ss), .val (bk p), .val t, .val u] :=
    seq_nx (asg_v (V_call (Vs_cons (V_var rfl) Vs_nil) (f_book k p)) rfl) (seq_nx (par_v (V_call (Vs_cons (V_var rfl) Vs_nil) (h.tt k)) (V_call (Vs_cons (V_var rfl) Vs_nil) (h.tu k)) rfl rfl) (seq_ret (ret_v (V_call (Vs_cons (V_var rfl) (Vs_cons (V_var rfl) (Vs_cons (V_var rfl) (Vs_cons (V_var rfl) Vs_nil)))) (s_leads (k+2) h.go h.len h.nn hu)))))
  exact fin_b (u_is_run _ _) body
end
end L2.Mp
set_option Elab.async false
set_option linter.all false
set_option maxRecDepth 100000
set_option maxHeartbeats 0
namespace L2.Mp
open PySem PySem.Spec PyProof.Rows L2
/-! ### derivations, put together -/
abbrev Yes (n : Nat) (f : Str) (as : List Arg) (r : RV) : Prop := ∀ k, n ≤ k → runF tb k f as = .ok r []
structure Dr (b : D) (n : Nat) (d t u : D) (ss : List Stp) : Prop where
  form : Yes n "has_form" [.d d] (.v (.bool true))
  ends : Yes n "made_ends" [.d b, .d d] (.v (.tuple [t, u]))
  cnts : Yes n "made_in" [.d b, .d d] (.v (rowD (cnt ss)))
  runs : Yes n "made_run" [.d d] (.o (ss.map encS))
  okd : okD d = true
  nl : nolist d = true
  hg : hgt d < n
  len : ss.length ≤ 1000
  big : 8 ≤ n
def sameD (t : D) : D := .tuple [.str "same", t]
def byD (m : Int) (d d' : D) : D := .tuple [.str "by", .int m, d, d']
def partsD (nm : Str) (ds : List D) : D := .tuple [.str "parts", .str nm, .tuple ds]
theorem up {n k : Nat} (h : n + 1 ≤ k) : ∃ j, k = j + 1 ∧ n ≤ j := ⟨k - 1, by omega, by omega⟩
theorem up6 {k : Nat} (h : 8 ≤ k) : ∃ j, k = j + 8 := ⟨k - 8, by omega⟩
theorem dr_same {p : Ph} {t : D} (h : ∀ k, runF tb (k+6) "is_term" [.d t] = .ok (.v (.bool true)) []) (ok : okD t = true) (nl : nolist t = true) (hg : hgt t ≤ 6) : Dr (bk p) 8 (sameD t) t t [] := by
  have lb : (rules p).length = 5 := by cases p <;> rfl
  refine ⟨fun k hk => ?_, fun k hk => ?_, fun k hk => ?_, fun k hk => ?_, ?_, ?_, ?_, by simp, Nat.le_refl _⟩
  · obtain ⟨k, rfl⟩ := up6 hk
    have body : ev (runF tb (k+7)) f_has_form.body [.val (sameD t), .no] = .ok (.fl (.ret (.v (.bool true)))) [.val (sameD t), .no] :=
      seq_nx (if_no (V_orF (V_notT (V_isi (V_var rfl) rfl)) (V_orF (V_cmp (V_var rfl) (V_tup Vs_nil (Nat.zero_le _)) (ne_nil_t _ _)) (V_one (V_notT (V_isi (V_idx (V_var rfl) (V_c _) rfl) rfl))))))
        (seq_ret (if_yes (V_cmp (V_idx (V_var rfl) (V_c _) rfl) (V_glo _ _) str_eq.1) (seq_ret (ret_v (V_andT (V_cmp (V_lenT (V_var rfl)) (V_c _) (c_eq _ _)) (V_one (V_call (Vs_cons (V_idx (V_var rfl) (V_c _) rfl) Vs_nil) (h (k+1)))))))))
    exact fin_b (u_has_form _ _) body
  · obtain ⟨k, rfl⟩ := up6 hk
    have body : ev (runF tb (k+7)) f_made_ends.body [.val (bk p), .val (sameD t), .no, .no, .no, .no, .no, .no] = .ok (.fl (.ret (.v (.tuple [t, t])))) [.val (bk p), .val (sameD t), .no, .no, .no, .no, .no, .no] :=
      seq_ret (if_yes (V_cmp (V_idx (V_var rfl) (V_c _) rfl) (V_glo _ _) str_eq.1) (seq_ret (ret_v (V_tup (Vs_cons (V_idx (V_var rfl) (V_c _) rfl) (Vs_cons (V_idx (V_var rfl) (V_c _) rfl) Vs_nil)) two_line))))
    exact fin_b (u_made_ends _ _) body
  · obtain ⟨k, rfl⟩ := up6 hk
    have zero : V (runF tb (k+7)) [.val (bk p), .val (sameD t), .no, .no] (.bin .Mult (.tup (.cons (.const (.int 0)) .nil)) (.prim .len (.cons (.var 0) .nil))) (rowD (cnt [])) := V_bin (V_tup (Vs_cons (V_c _) Vs_nil) one_line) (V_lenT (V_var rfl)) (by rw [lb]; rfl)
    have body : ev (runF tb (k+7)) f_made_in.body [.val (bk p), .val (sameD t), .no, .no] = .ok (.fl (.ret (.v (rowD (cnt []))))) [.val (bk p), .val (sameD t), .val (rowD (cnt [])), .no] :=
      seq_nx (asg_v zero rfl) (seq_nx (if_not (V_cmp (V_idx (V_var rfl) (V_c _) rfl) (V_glo _ _) str_eq.2.2.2.2.2.2.2.1) (seq_nx (if_no (V_cmp (V_idx (V_var rfl) (V_c _) rfl) (V_glo _ _) str_eq.2.2.2.2.2.2.2.2)) rfl)) (seq_ret (ret_v (V_var rfl))))
    exact fin_b (u_made_in _ _) body
  · obtain ⟨k, rfl⟩ := up6 hk
    have body : ev (runF tb (k+7)) f_made_run.body [.val (sameD t), .no, .no, .no, .no, .no] = .ok (.fl (.ret (.o []))) [.val (sameD t), .no, .no, .no, .no, .no] :=
      seq_nx (asg_l (O_lst (ds := []) Vs_nil (Nat.zero_le _)) rfl) (seq_nx (if_not (V_cmp (V_idx (V_var rfl) (V_c _) rfl) (V_glo _ _) str_eq.2.2.2.2.2.2.2.1) (seq_nx (if_no (V_cmp (V_idx (V_var rfl) (V_c _) rfl) (V_glo _ _) str_eq.2.2.2.2.2.2.2.2)) rfl)) (seq_ret (ret_own rfl)))
    exact fin_b (u_made_run _ _) body
  · show (decide (2 ≤ 1000) && (true && (okD t && true))) = true
    rw [ok]; rfl
  · show (true && (nolist t && true)) = true
    rw [nl]; rfl
  · show max 0 (max (hgt t) 0) + 1 < 8
    omega
theorem unit_cnt (m : Int) : ((List.range 5).map fun j : Nat => (if ((j : Nat) : Int) = m then 1 else 0 : Int)) = cnt [([], m)] := by
  refine List.map_congr_left fun n _ => ?_
  by_cases h : m = (n : Int)
  · rw [if_pos h.symm, List.filter_cons_of_pos (by simpa using h)]
    rfl
  · rw [if_neg fun z => h z.symm, List.filter_cons_of_neg (by simpa using h)]
    rfl
theorem s_unit (k : Nat) (m : Int) : runF tb (k+1) "unit" [.d (.int 5), .d (.int m)] = .ok (.v (rowD (cnt [([], m)]))) [] := by
  have hc : O (runF tb k) [.val (.int 5), .val (.int m), .no] c_unit_0 ((List.range 5).map fun j : Nat => .int (if ((j : Nat) : Int) = m then 1 else 0)) :=
    comp_map (cf := runF tb k) (own := [2]) (tg := .tN 2) (elt := .prim .int (.cons (.cmp .Eq (.var 2) (.var 1)) .nil)) (e1 := [.val (.int 5), .val (.int m), .no]) (fun i : Nat => PyData.int (0 + (i : Nat))) (fun j : Nat => .int (if ((j : Nat) : Int) = m then 1 else 0)) (sR1_ok (n := 5) (V_var rfl) (by omega)) (by rw [List.length_range]; unfold LINE; omega) rfl fun j _ =>
      ⟨[.val (.int 5), .val (.int m), .val (.int (0 + (j : Nat)))], .v _, rfl, rfl, V_prim (Vs_cons (V_cmp (V_var rfl) (V_var rfl) (c_eq _ _)) Vs_nil) (by rw [p_intB, Int.zero_add]; simp only [decide_eq_true_eq]), rfl⟩
  have e1 : ((List.range 5).map fun j : Nat => PyData.int (if ((j : Nat) : Int) = m then 1 else 0)) = (cnt [([], m)]).map .int := by rw [← unit_cnt, List.map_map]; rfl
  rw [e1] at hc
  have body : ev (runF tb k) f_unit.body [.val (.int 5), .val (.int m), .no] = .ok (.fl (.ret (.v (rowD (cnt [([], m)]))))) [.val (.int 5), .val (.int m), .no] := seq_ret (ret_v (V_tupO hc))
  exact fin_b (u_unit _ _) body
def byS (m : Int) (ss ss' : List Stp) : List Stp := ss ++ ([([], m)] ++ ss')
theorem cnt_by (m : Int) (ss ss' : List Stp) : cnt ([([], m)] ++ (ss ++ ss')) = cnt (byS m ss ss') := cnt_perm (by
  unfold byS
  rw [← List.append_assoc, ← List.append_assoc]
  exact List.Perm.append_right ss' List.perm_append_comm)
theorem dr_by {p : Ph} {n : Nat} {d d' t l r u : D} {ss ss' : List Stp} {m : Nat} (h : Dr (bk p) n d t l ss) (h' : Dr (bk p) n d' r u ss') (hm : atI (rules p) (m : Int) = some (rl l r)) (h5 : m < 5) (hq : cmpD .NotEq (rl l r) (rl l r) = some false) (hl : ss.length + ss'.length < 999) : Dr (bk p) (n+1) (byD m d d') t u (byS m ss ss') := by
  have lb : (rules p).length = 5 := by cases p <;> rfl
  have i1 : ∀ x y z : D, idxD (.tuple [.str "by", x, y, z]) (.int 1) = some x := fun _ _ _ => rfl
  have hn := h.hg
  have big := h.big
  refine ⟨fun k hk => ?_, fun k hk => ?_, fun k hk => ?_, fun k hk => ?_, ?_, ?_, ?_, ?_, by omega⟩
  · obtain ⟨k, rfl, hk'⟩ := up hk
    obtain ⟨j, rfl⟩ : ∃ j, k = j + 2 := ⟨k - 2, by omega⟩
    have body : ev (runF tb (j+2)) f_has_form.body [.val (byD m d d'), .no] = .ok (.fl (.ret (.v (.bool true)))) [.val (byD m d d'), .no] :=
      seq_nx (if_no (V_orF (V_notT (V_isi (V_var rfl) rfl)) (V_orF (V_cmp (V_var rfl) (V_tup Vs_nil (Nat.zero_le _)) (ne_nil_t _ _)) (V_one (V_notT (V_isi (V_idx (V_var rfl) (V_c _) rfl) rfl))))))
        (seq_nx (if_no (V_cmp (V_idx (V_var rfl) (V_c _) rfl) (V_glo _ _) str_eq.2.2.1)) (seq_nx (if_no (V_cmp (V_idx (V_var rfl) (V_c _) rfl) (V_glo _ _) str_eq.2.2.2.2.1))
          (seq_nx (if_no (V_orF (V_cmp (V_idx (V_var rfl) (V_c _) rfl) (V_glo _ _) str_eq.2.2.2.2.2.2.1) (V_orF (V_notT (V_call (Vs_cons (V_var rfl) (Vs_cons (V_c _) Vs_nil)) rfl)) (V_one (V_notT (V_call (Vs_cons (V_idx (V_var rfl) (V_c _) rfl) (Vs_cons (V_c _) Vs_nil)) ((s_from j m 0).trans (by rw [decide_eq_true (by omega)]))))))))
            (seq_ret (ret_v (V_andT (V_call (Vs_cons (V_idx (V_var rfl) (V_c _) rfl) Vs_nil) (h.form _ hk')) (V_one (V_call (Vs_cons (V_idx (V_var rfl) (V_c _) rfl) Vs_nil) (h'.form _ hk')))))))))
    exact fin_b (u_has_form _ _) body
  · obtain ⟨k, rfl, hk'⟩ := up hk
    have rr : V (runF tb k) [.val (bk p), .val (byD m d d'), .no, .val (.tuple [t, l]), .val (.tuple [r, u]), .no, .no, .no] (.idx (.var 0) (.idx (.var 1) (.const (.int 1)))) (rl l r) := V_idx (V_var rfl) (V_idx (V_var rfl) (V_c _) rfl) hm
    have body : ev (runF tb k) f_made_ends.body [.val (bk p), .val (byD m d d'), .no, .no, .no, .no, .no, .no] = .ok (.fl (.ret (.v (.tuple [t, u])))) [.val (bk p), .val (byD m d d'), .no, .val (.tuple [t, l]), .val (.tuple [r, u]), .no, .no, .no] :=
      seq_nx (if_no (V_cmp (V_idx (V_var rfl) (V_c _) rfl) (V_glo _ _) str_eq.2.2.1)) (seq_nx (if_no (V_cmp (V_idx (V_var rfl) (V_c _) rfl) (V_glo _ _) str_eq.2.2.2.2.1))
        (seq_nx (if_no (V_cmp (V_idx (V_var rfl) (V_c _) rfl) (V_lenT (V_var rfl)) (by rw [lb, c_ge, decide_eq_false (by omega)])))
          (seq_nx (par_v (V_call (Vs_cons (V_var rfl) (Vs_cons (V_idx (V_var rfl) (V_c _) rfl) Vs_nil)) (h.ends _ hk')) (V_call (Vs_cons (V_var rfl) (Vs_cons (V_idx (V_var rfl) (V_c _) rfl) Vs_nil)) (h'.ends _ hk')) rfl rfl)
            (seq_nx (if_no (V_orF (V_cmp (V_var rfl) (V_c _) rfl) (V_orF (V_cmp (V_var rfl) (V_c _) rfl) (V_one (V_cmp (V_tup (Vs_cons (V_idx (V_var rfl) (V_c _) rfl) (Vs_cons (V_idx (V_var rfl) (V_c _) rfl) Vs_nil)) two_line) rr hq)))))
              (seq_ret (ret_v (V_tup (Vs_cons (V_idx (V_var rfl) (V_c _) rfl) (Vs_cons (V_idx (V_var rfl) (V_c _) rfl) Vs_nil)) two_line)))))))
    exact fin_b (u_made_ends _ _) body
  · obtain ⟨k, rfl, hk'⟩ := up hk
    obtain ⟨j, rfl⟩ : ∃ j, k = j + 1 := ⟨k - 1, by omega⟩
    have zero : V (runF tb (j+1)) [.val (bk p), .val (byD m d d'), .no, .no] (.bin .Mult (.tup (.cons (.const (.int 0)) .nil)) (.prim .len (.cons (.var 0) .nil))) (rowD (cnt [])) := V_bin (V_tup (Vs_cons (V_c _) Vs_nil) one_line) (V_lenT (V_var rfl)) (by rw [lb]; rfl)
    have s1 := s_added j (cnt ss) (cnt ss') (by rw [cnt_len]; omega)
    rw [cnt_app] at s1
    have s2 := s_added j (cnt [([], (m : Int))]) (cnt (ss ++ ss')) (by rw [cnt_len]; omega)
    rw [cnt_app, cnt_by] at s2
    have ul : V (runF tb (j+1)) [.val (bk p), .val (byD m d d'), .val (rowD (cnt [])), .no] (.prim .len (.cons (.var 0) .nil)) (.int 5) := by
      have := V_lenT (cf := runF tb (j+1)) (e := [.val (bk p), .val (byD m d d'), .val (rowD (cnt [])), .no]) (a := .var 0) (xs := rules p) (V_var rfl)
      rw [lb] at this
      exact this
    have body : ev (runF tb (j+1)) f_made_in.body [.val (bk p), .val (byD m d d'), .no, .no] = .ok (.fl (.ret (.v (rowD (cnt (byS m ss ss')))))) [.val (bk p), .val (byD m d d'), .val (rowD (cnt (byS m ss ss'))), .no] :=
      seq_nx (asg_v zero rfl) (seq_nx (if_not (V_cmp (V_idx (V_var rfl) (V_c _) rfl) (V_glo _ _) str_eq.2.2.2.2.1) (seq_nx (if_yes (V_cmp (V_idx (V_var rfl) (V_c _) rfl) (V_glo _ _) str_eq.2.2.2.2.2.1)
        (seq_nx (asg_v (V_call (Vs_cons (V_call (Vs_cons ul (Vs_cons (V_idx (V_var rfl) (V_c _) rfl) Vs_nil)) (s_unit j m)) (Vs_cons (V_call (Vs_cons (V_call (Vs_cons (V_var rfl) (Vs_cons (V_idx (V_var rfl) (V_c _) rfl) Vs_nil)) (h.cnts _ hk')) (Vs_cons (V_call (Vs_cons (V_var rfl) (Vs_cons (V_idx (V_var rfl) (V_c _) rfl) Vs_nil)) (h'.cnts _ hk')) Vs_nil)) s1) Vs_nil)) s2) rfl) rfl)) rfl)) (seq_ret (ret_v (V_var rfl))))
    exact fin_b (u_made_in _ _) body
  · obtain ⟨k, rfl, hk'⟩ := up hk
    have r1 : O (runF tb k) [.val (byD m d d'), .own false [], .no, .no, .no, .no] (.call "made_run" [false] (.cons (.idx (.var 0) (.const (.int 2))) .nil)) (ss.map encS) := call_r (Vs_cons (V_idx (V_var rfl) (V_c _) rfl) Vs_nil) (h.runs _ hk')
    have r2 : O (runF tb k) [.val (byD m d d'), .own false [], .no, .no, .no, .no] (.call "made_run" [false] (.cons (.idx (.var 0) (.const (.int 3))) .nil)) (ss'.map encS) := call_r (Vs_cons (V_idx (V_var rfl) (V_c _) rfl) Vs_nil) (h'.runs _ hk')
    have r3 : O (runF tb k) [.val (byD m d d'), .own false [], .no, .no, .no, .no] (.lst (.cons (.tup (.cons (.tup .nil) (.cons (.idx (.var 0) (.const (.int 1))) .nil))) .nil)) [encS ([], (m : Int))] := O_lst (Vs_cons (V_tup (Vs_cons (V_tup Vs_nil (Nat.zero_le _)) (Vs_cons (V_idx (V_var rfl) (V_c _) rfl) Vs_nil)) two_line) Vs_nil) one_line
    have sum := add_e (add_e r1 r3 (by rw [List.length_map, List.length_singleton]; unfold LINE; omega)) r2 (by rw [List.length_append, List.length_map, List.length_map, List.length_singleton]; unfold LINE; omega)
    have e1 : ss.map encS ++ [encS ([], (m : Int))] ++ ss'.map encS = (byS m ss ss').map encS := by unfold byS; rw [List.map_append, List.map_append, List.append_assoc]; rfl
    rw [e1] at sum
    have body : ev (runF tb k) f_made_run.body [.val (byD m d d'), .no, .no, .no, .no, .no] = .ok (.fl (.ret (.o ((byS m ss ss').map encS)))) [.val (byD m d d'), .no, .no, .no, .no, .no] :=
      seq_nx (asg_l (O_lst (ds := []) Vs_nil (Nat.zero_le _)) rfl) (seq_nx (if_not (V_cmp (V_idx (V_var rfl) (V_c _) rfl) (V_glo _ _) str_eq.2.2.2.2.1) (seq_nx (if_yes (V_cmp (V_idx (V_var rfl) (V_c _) rfl) (V_glo _ _) str_eq.2.2.2.2.2.1) (seq_nx (asg_l sum rfl) rfl)) rfl)) (seq_ret (ret_own rfl)))
    exact fin_b (u_made_run _ _) body
  · show (decide (4 ≤ 1000) && (true && (true && (okD d && (okD d' && true))))) = true
    rw [h.okd, h'.okd]; rfl
  · show (true && (true && (nolist d && (nolist d' && true)))) = true
    rw [h.nl, h'.nl]; rfl
  · have := h.hg
    have := h'.hg
    show max 0 (max 0 (max (hgt d) (max (hgt d') 0))) + 1 < n + 1
    omega
  · unfold byS
    rw [List.length_append, List.length_append, List.length_singleton]
    omega
/-! ### parts -/
structure PartE where
  d : D
  t : D
  u : D
  ss : List Stp
def preAll : Int → List PartE → List Stp
  | _, [] => []
  | i, x :: l => x.ss.map (pre i) ++ preAll (i + 1) l
theorem cnt_preAll : ∀ (l : List PartE) (i : Int), cnt (preAll i l) = cnt ((l.map PartE.ss).flatten)
  | [], _ => rfl
  | x :: l, i => by
    show cnt (x.ss.map (pre i) ++ preAll (i + 1) l) = cnt (x.ss ++ (l.map PartE.ss).flatten)
    rw [← cnt_app, ← cnt_app, cnt_pre, cnt_preAll l (i + 1)]
theorem in_loop {b : D} {X1 : Slot} {k : Nat} : ∀ (l : List PartE) (acc : List Stp) (s3 : Slot), storable (some s3) = true → (∀ x ∈ l, runF tb (k+1) "made_in" [.d b, .d x.d] = .ok (.v (rowD (cnt x.ss))) []) → ∃ t3 : Slot, fLoop (fun d e2 => match bindT (.tN 3) d e2 with
      | some e3 => ev (runF tb (k+1)) (.seq (.asg (.tN 2) (.call "added" [false, false] (.cons (.var 2) (.cons (.call "made_in" [false, false] (.cons (.var 0) (.cons (.var 3) .nil))) .nil)))) .done) e3
      | none => .bad) (l.map PartE.d) [.val b, X1, .val (rowD (cnt acc)), s3] = .ok (.fl .nx) [.val b, X1, .val (rowD (cnt (acc ++ (l.map PartE.ss).flatten))), t3]
  | [], acc, s3, _, _ => ⟨s3, by simp [fLoop]⟩
  | x :: l, acc, s3, h3, h => by
    obtain ⟨t3, q⟩ := in_loop l (acc ++ x.ss) (.val x.d) rfl fun y hy => h y (List.mem_cons_of_mem _ hy)
    refine ⟨t3, ?_⟩
    have b1 := bind_st (i := 3) (d := x.d) (e := [.val b, X1, .val (rowD (cnt acc)), s3]) rfl h3
    have ad := s_added k (cnt acc) (cnt x.ss) (by rw [cnt_len]; omega)
    rw [cnt_app] at ad
    have step : ev (runF tb (k+1)) (.seq (.asg (.tN 2) (.call "added" [false, false] (.cons (.var 2) (.cons (.call "made_in" [false, false] (.cons (.var 0) (.cons (.var 3) .nil))) .nil)))) .done) [.val b, X1, .val (rowD (cnt acc)), .val x.d] = .ok (.fl .nx) [.val b, X1, .val (rowD (cnt (acc ++ x.ss))), .val x.d] :=
      seq_nx (asg_v (V_call (Vs_cons (V_var rfl) (Vs_cons (V_call (Vs_cons (V_var rfl) (Vs_cons (V_var rfl) Vs_nil)) (h x List.mem_cons_self)) Vs_nil)) ad) rfl) rfl
    rw [List.map_cons, List.map_cons, List.flatten_cons, ← List.append_assoc]
    show (match (match bindT (.tN 3) x.d [.val b, X1, .val (rowD (cnt acc)), s3] with
      | some e3 => ev (runF tb (k+1)) (.seq (.asg (.tN 2) (.call "added" [false, false] (.cons (.var 2) (.cons (.call "made_in" [false, false] (.cons (.var 0) (.cons (.var 3) .nil))) .nil)))) .done) e3
      | none => .bad) with
      | .ok (.fl .nx) e1 => fLoop _ (l.map PartE.d) e1
      | .ok (.fl .cont) e1 => fLoop _ (l.map PartE.d) e1
      | .ok (.fl .brk) e1 => .ok (.fl .nx) e1
      | .ok (.fl (.ret r)) e1 => .ok (.fl (.ret r)) e1
      | .rz x e1 => .rz x e1
      | _ => .bad) = _
    rw [b1]
    dsimp only [List.set_cons_succ, List.set_cons_zero]
    rw [step]
    exact q
theorem run_loop {X0 : Slot} {k : Nat} : ∀ (l : List PartE) (i : Int) (acc : List Stp) (s2 s3 : Slot), storable (some s2) = true → storable (some s3) = true → (∀ x ∈ l, runF tb k "made_run" [.d x.d] = .ok (.o (x.ss.map encS)) []) → acc.length + (preAll i l).length ≤ 1000000 → (∀ x ∈ l, ∀ s ∈ x.ss, s.1.length ≤ 900) → ∃ t2 t3 : Slot, fLoop (fun d e2 => match bindT (.tT (.cons (.tN 2) (.cons (.tN 3) .nil))) d e2 with
      | some e3 => ev (runF tb k) (.seq (.ext 1 c_made_run_0) .done) e3
      | none => .bad) (enumF i (l.map PartE.d)) [X0, .own false (acc.map encS), s2, s3, .no, .no] = .ok (.fl .nx) [X0, .own false ((acc ++ preAll i l).map encS), t2, t3, .no, .no]
  | [], i, acc, s2, s3, _, _, _, _, _ => ⟨s2, s3, by simp [fLoop, preAll, enumF]⟩
  | x :: l, i, acc, s2, s3, h2, h3, h, hl, hp => by
    have hl' : acc.length + (x.ss.length + (preAll (i + 1) l).length) ≤ 1000000 := by
      have e : (preAll i (x :: l)).length = x.ss.length + (preAll (i + 1) l).length := by
        show (x.ss.map (pre i) ++ preAll (i + 1) l).length = _
        rw [List.length_append, List.length_map]
      omega
    obtain ⟨t2, t3, q⟩ := run_loop l (i + 1) (acc ++ x.ss.map (pre i)) (.val (.int i)) (.val x.d) rfl rfl (fun y hy => h y (List.mem_cons_of_mem _ hy)) (by rw [List.length_append, List.length_map]; omega) fun y hy => hp y (List.mem_cons_of_mem _ hy)
    refine ⟨t2, t3, ?_⟩
    have b1 := bind_two (i := 2) (j := 3) (a := .int i) (b := x.d) (e := [X0, .own false (acc.map encS), s2, s3, .no, .no]) rfl rfl (by omega) h2 h3
    have ex : O (runF tb k) [X0, .own false (acc.map encS), .val (.int i), .val x.d, .no, .no] c_made_run_0 (x.ss.map fun s => encS (pre i s)) :=
      comp_map (cf := runF tb k) (own := [4, 5]) (tg := .tT (.cons (.tN 4) (.cons (.tN 5) .nil))) (elt := .tup (.cons (.bin .Add (.tup (.cons (.var 2) .nil)) (.var 4)) (.cons (.var 5) .nil))) (src := .sSeq (.call "made_run" [false] (.cons (.var 3) .nil))) (e1 := [X0, .own false (acc.map encS), .val (.int i), .val x.d, .no, .no]) encS (fun s => encS (pre i s)) (src_seq_o (call_r (Vs_cons (V_var rfl) Vs_nil) (h x List.mem_cons_self))) (by unfold LINE; omega) rfl fun s hs =>
        ⟨[X0, .own false (acc.map encS), .val (.int i), .val x.d, .val (rowD s.1), .val (.int s.2)], .v (encS (pre i s)), rfl, rfl, V_tup (Vs_cons (V_bin (V_tup (Vs_cons (V_var rfl) Vs_nil) one_line) (V_var rfl) (b_addr [i] s.1 (by have := hp x List.mem_cons_self s hs; rw [List.length_singleton]; omega))) (Vs_cons (V_var rfl) Vs_nil)) two_line, rfl⟩
    have e1 : (x.ss.map fun s => encS (pre i s)) = (x.ss.map (pre i)).map encS := by rw [List.map_map]; rfl
    rw [e1] at ex
    have step : ev (runF tb k) (.seq (.ext 1 c_made_run_0) .done) [X0, .own false (acc.map encS), .val (.int i), .val x.d, .no, .no] = .ok (.fl .nx) [X0, .own false ((acc ++ x.ss.map (pre i)).map encS), .val (.int i), .val x.d, .no, .no] := by
      rw [List.map_append]
      exact seq_nx (ext_o rfl ex (by rw [List.length_map, List.length_map, List.length_map]; unfold LINE; omega)) rfl
    show (match (match bindT (.tT (.cons (.tN 2) (.cons (.tN 3) .nil))) (.tuple [.int i, x.d]) [X0, .own false (acc.map encS), s2, s3, .no, .no] with
      | some e3 => ev (runF tb k) (.seq (.ext 1 c_made_run_0) .done) e3
      | none => .bad) with
      | .ok (.fl .nx) e1 => fLoop _ (enumF (i + 1) (l.map PartE.d)) e1
      | .ok (.fl .cont) e1 => fLoop _ (enumF (i + 1) (l.map PartE.d)) e1
      | .ok (.fl .brk) e1 => .ok (.fl .nx) e1
      | .ok (.fl (.ret r)) e1 => .ok (.fl (.ret r)) e1
      | .rz x e1 => .rz x e1
      | _ => .bad) = _
    rw [b1]
    dsimp only [List.set_cons_succ, List.set_cons_zero]
    rw [step]
    have e2 : acc ++ preAll i (x :: l) = acc ++ x.ss.map (pre i) ++ preAll (i + 1) l := by rw [List.append_assoc]; rfl
    rw [e2]
    exact q
theorem dr_parts {p : Ph} {n : Nat} {nm : Str} {l : List PartE} (h : ∀ x ∈ l, Dr (bk p) n x.d x.t x.u x.ss) (hq : ∀ k, runF tb (k+1) "is_name" [.d (.str nm)] = .ok (.v (.bool true)) []) (hl : l.length ≤ 3) (hs : (preAll 0 l).length ≤ 1000) (hp : ∀ x ∈ l, ∀ s ∈ x.ss, s.1.length ≤ 900) (hn : 8 ≤ n) : Dr (bk p) (n+2) (partsD nm (l.map PartE.d)) (.tuple (.str nm :: l.map PartE.t)) (.tuple (.str nm :: l.map PartE.u)) (preAll 0 l) := by
  have lb : (rules p).length = 5 := by cases p <;> rfl
  have ll : (l.map PartE.d).length ≤ LINE := by rw [List.length_map]; unfold LINE; omega
  refine ⟨fun k hk => ?_, fun k hk => ?_, fun k hk => ?_, fun k hk => ?_, ?_, ?_, ?_, hs, by omega⟩
  · obtain ⟨k, rfl⟩ : ∃ j, k = j + 2 := ⟨k - 2, by omega⟩
    have hc : O (runF tb (k+1)) [.val (partsD nm (l.map PartE.d)), .no] c_has_form_0 (l.map fun _ => .bool true) :=
      comp_map (cf := runF tb (k+1)) (own := [1]) (tg := .tN 1) (elt := .call "has_form" [false] (.cons (.var 1) .nil)) (src := .sSeq (.idx (.var 0) (.const (.int 2)))) (e1 := [.val (partsD nm (l.map PartE.d)), .no]) PartE.d (fun _ : PartE => .bool true) (src_seq_t (V_idx (V_var rfl) (V_c _) rfl)) (by unfold LINE; omega) rfl fun x hx => ⟨[.val (partsD nm (l.map PartE.d)), .val x.d], .v (.bool true), rfl, rfl, call_r (Vs_cons (V_var rfl) Vs_nil) ((h x hx).form _ (by omega)), rfl⟩
    have body : ev (runF tb (k+1)) f_has_form.body [.val (partsD nm (l.map PartE.d)), .no] = .ok (.fl (.ret (.v (.bool true)))) [.val (partsD nm (l.map PartE.d)), .no] :=
      seq_nx (if_no (V_orF (V_notT (V_isi (V_var rfl) rfl)) (V_orF (V_cmp (V_var rfl) (V_tup Vs_nil (Nat.zero_le _)) (ne_nil_t _ _)) (V_one (V_notT (V_isi (V_idx (V_var rfl) (V_c _) rfl) rfl))))))
        (seq_nx (if_no (V_cmp (V_idx (V_var rfl) (V_c _) rfl) (V_glo _ _) str_eq.2.1)) (seq_ret (if_yes (V_cmp (V_idx (V_var rfl) (V_c _) rfl) (V_glo _ _) str_eq.2.2.2.1)
          (seq_nx (if_no (V_orF (V_cmp (V_lenT (V_var rfl)) (V_c _) (by rfl)) (V_orF (V_notT (V_call (Vs_cons (V_idx (V_var rfl) (V_c _) rfl) Vs_nil) (hq k))) (V_orF (V_notT (V_isi (V_idx (V_var rfl) (V_c _) rfl) rfl)) (V_one (V_cmp (V_lenT (V_idx (V_var rfl) (V_c _) rfl)) (V_glo _ _) (by rw [c_gt, List.length_map, decide_eq_false (by omega)])))))))
            (seq_ret (ret_v (V_allT hc)))))))
    exact fin_b (u_has_form _ _) body
  · obtain ⟨k, rfl⟩ : ∃ j, k = j + 1 := ⟨k - 1, by omega⟩
    have hc : O (runF tb k) [.val (bk p), .val (partsD nm (l.map PartE.d)), .no, .no, .no, .no, .no, .no] c_made_ends_2 (l.map fun x : PartE => PyData.tuple [x.t, x.u]) :=
      comp_map (cf := runF tb k) (own := [5]) (tg := .tN 5) (elt := .call "made_ends" [false, false] (.cons (.var 0) (.cons (.var 5) .nil))) (src := .sSeq (.idx (.var 1) (.const (.int 2)))) (e1 := [.val (bk p), .val (partsD nm (l.map PartE.d)), .no, .no, .no, .no, .no, .no]) PartE.d (fun x : PartE => .tuple [x.t, x.u]) (src_seq_t (V_idx (V_var rfl) (V_c _) rfl)) (by unfold LINE; omega) rfl fun x hx => ⟨[.val (bk p), .val (partsD nm (l.map PartE.d)), .no, .no, .no, .val x.d, .no, .no], .v (.tuple [x.t, x.u]), rfl, rfl, call_r (Vs_cons (V_var rfl) (Vs_cons (V_var rfl) Vs_nil)) ((h x hx).ends _ (by omega)), rfl⟩
    have c0 : ev (runF tb k) c_made_ends_0 [.val (bk p), .val (partsD nm (l.map PartE.d)), .own false (l.map fun x : PartE => PyData.tuple [x.t, x.u]), .no, .no, .no, .no, .no] = .ok (.rv (.o (l.map PartE.t))) [.val (bk p), .val (partsD nm (l.map PartE.d)), .val (.list (l.map fun x : PartE => PyData.tuple [x.t, x.u])), .no, .no, .no, .no, .no] :=
      comp_map (cf := runF tb k) (own := [6, 7]) (tg := .tT (.cons (.tN 6) (.cons (.tN 7) .nil))) (elt := .var 6) (src := .sSeq (.var 2)) (e1 := [.val (bk p), .val (partsD nm (l.map PartE.d)), .val (.list (l.map fun x : PartE => PyData.tuple [x.t, x.u])), .no, .no, .no, .no, .no]) (fun x : PartE => .tuple [x.t, x.u]) PartE.t rfl (by unfold LINE; omega) rfl fun x _ => ⟨[.val (bk p), .val (partsD nm (l.map PartE.d)), .val (.list (l.map fun x : PartE => PyData.tuple [x.t, x.u])), .no, .no, .no, .val x.t, .val x.u], .v x.t, rfl, rfl, rfl, rfl⟩
    have c1 : O (runF tb k) [.val (bk p), .val (partsD nm (l.map PartE.d)), .val (.list (l.map fun x : PartE => PyData.tuple [x.t, x.u])), .no, .no, .no, .no, .no] c_made_ends_1 (l.map PartE.u) :=
      comp_map (cf := runF tb k) (own := [6, 7]) (tg := .tT (.cons (.tN 6) (.cons (.tN 7) .nil))) (elt := .var 7) (src := .sSeq (.var 2)) (e1 := [.val (bk p), .val (partsD nm (l.map PartE.d)), .val (.list (l.map fun x : PartE => PyData.tuple [x.t, x.u])), .no, .no, .no, .no, .no]) (fun x : PartE => .tuple [x.t, x.u]) PartE.u rfl (by unfold LINE; omega) rfl fun x _ => ⟨[.val (bk p), .val (partsD nm (l.map PartE.d)), .val (.list (l.map fun x : PartE => PyData.tuple [x.t, x.u])), .no, .no, .no, .val x.t, .val x.u], .v x.u, rfl, rfl, rfl, rfl⟩
    have sm : ∀ xs : List D, xs.length ≤ 3 → binD .Add (.tuple [.str nm]) (.tuple xs) = some (.v (.tuple (.str nm :: xs))) := fun xs hx => by
      rw [b_addt, if_pos (by rw [List.length_singleton]; unfold LINE; omega)]
      rfl
    have body : ev (runF tb k) f_made_ends.body [.val (bk p), .val (partsD nm (l.map PartE.d)), .no, .no, .no, .no, .no, .no] = .ok (.fl (.ret (.v (.tuple [.tuple (.str nm :: l.map PartE.t), .tuple (.str nm :: l.map PartE.u)])))) [.val (bk p), .val (partsD nm (l.map PartE.d)), .val (.list (l.map fun x : PartE => PyData.tuple [x.t, x.u])), .no, .no, .no, .no, .no] :=
      seq_nx (if_no (V_cmp (V_idx (V_var rfl) (V_c _) rfl) (V_glo _ _) str_eq.2.1)) (seq_ret (if_yes (V_cmp (V_idx (V_var rfl) (V_c _) rfl) (V_glo _ _) str_eq.2.2.2.1)
        (seq_nx (asg_l hc rfl) (seq_nx (if_no (V_cmpb (V_c _) rfl (none_in _ fun x hx => by obtain ⟨y, _, rfl⟩ := List.mem_map.mp hx; rfl)))
          (seq_ret (ret_v (tup2_e (bin_e (V_tup (Vs_cons (V_idx (V_var rfl) (V_c _) rfl) Vs_nil) one_line) (tup1 c0) (sm _ (by rw [List.length_map]; exact hl))) (V_bin (V_tup (Vs_cons (V_idx (V_var rfl) (V_c _) rfl) Vs_nil) one_line) (V_tupO c1) (sm _ (by rw [List.length_map]; exact hl))))))))))
    exact fin_b (u_made_ends _ _) body
  · obtain ⟨k, rfl⟩ : ∃ j, k = j + 2 := ⟨k - 2, by omega⟩
    have zero : V (runF tb (k+1)) [.val (bk p), .val (partsD nm (l.map PartE.d)), .no, .no] (.bin .Mult (.tup (.cons (.const (.int 0)) .nil)) (.prim .len (.cons (.var 0) .nil))) (rowD (cnt [])) := V_bin (V_tup (Vs_cons (V_c _) Vs_nil) one_line) (V_lenT (V_var rfl)) (by rw [lb]; rfl)
    obtain ⟨t3, q⟩ := in_loop (b := bk p) (X1 := .val (partsD nm (l.map PartE.d))) (k := k) l [] .no rfl fun x hx => (h x hx).cnts _ (by omega)
    rw [List.nil_append, ← cnt_preAll l 0] at q
    have body : ev (runF tb (k+1)) f_made_in.body [.val (bk p), .val (partsD nm (l.map PartE.d)), .no, .no] = .ok (.fl (.ret (.v (rowD (cnt (preAll 0 l)))))) [.val (bk p), .val (partsD nm (l.map PartE.d)), .val (rowD (cnt (preAll 0 l))), t3] :=
      seq_nx (asg_v zero rfl) (seq_nx (if_yes (V_cmp (V_idx (V_var rfl) (V_c _) rfl) (V_glo _ _) str_eq.2.2.2.1) (seq_nx (for_ok (src_seq_t (V_idx (V_var rfl) (V_c _) rfl)) q) rfl)) (seq_ret (ret_v (V_var rfl))))
    exact fin_b (u_made_in _ _) body
  · obtain ⟨k, rfl⟩ : ∃ j, k = j + 1 := ⟨k - 1, by omega⟩
    obtain ⟨t2, t3, q⟩ := run_loop (X0 := .val (partsD nm (l.map PartE.d))) (k := k) l 0 [] .no .no rfl rfl (fun x hx => (h x hx).runs _ (by omega)) (by rw [List.length_nil]; omega) hp
    rw [List.nil_append] at q
    have body : ev (runF tb k) f_made_run.body [.val (partsD nm (l.map PartE.d)), .no, .no, .no, .no, .no] = .ok (.fl (.ret (.o ((preAll 0 l).map encS)))) [.val (partsD nm (l.map PartE.d)), .no, t2, t3, .no, .no] :=
      seq_nx (asg_l (O_lst (ds := []) Vs_nil (Nat.zero_le _)) rfl) (seq_nx (if_yes (V_cmp (V_idx (V_var rfl) (V_c _) rfl) (V_glo _ _) str_eq.2.2.2.1) (seq_nx (for_ok (src_enum_t (V_idx (V_var rfl) (V_c _) rfl)) q) rfl)) (seq_ret (ret_own rfl)))
    exact fin_b (u_made_run _ _) body
  · show (decide (3 ≤ 1000) && (true && (true && ((decide ((l.map PartE.d).length ≤ 1000) && okDs (l.map PartE.d)) && true)))) = true
    rw [okDs_map _ _ fun x hx => (h x hx).okd, show decide ((l.map PartE.d).length ≤ 1000) = true from decide_eq_true (by rw [List.length_map]; omega)]
    rfl
  · show (true && (true && (nolists (l.map PartE.d) && true))) = true
    rw [nls_map _ _ fun x hx => (h x hx).nl]
    rfl
  · have := hgts_map (n := n - 1) PartE.d l fun x hx => by have := (h x hx).hg; omega
    show max 0 (max 0 (max (hgts (l.map PartE.d) + 1) 0)) + 1 < n + 2
    omega
end L2.Mp
set_option Elab.async false
set_option linter.all false
set_option maxRecDepth 100000
set_option maxHeartbeats 0
namespace L2.Mp
open PySem PySem.Spec PyProof.Rows L2
/-! ### derivations out of runs -/
abbrev Md (b : D) (n : Nat) (t : D) (ss : List Stp) (d : D) : Prop := Yes n "made_derivation" [.d b, .d t, .d (runD ss)] (.v d)
theorem md_nil {b t : D} : Md b 1 t [] (sameD t) := fun k hk => by
  obtain ⟨k, rfl, _⟩ := up hk
  have body : ev (runF tb k) f_made_derivation.body [.val b, .val t, .val (runD []), .no, .no, .no, .no, .no, .no, .no, .no, .no, .no] = .ok (.fl (.ret (.v (sameD t)))) [.val b, .val t, .val (runD []), .no, .no, .no, .no, .no, .no, .no, .no, .no, .no] :=
    seq_ret (if_yes (V_cmp (V_var rfl) (V_tup Vs_nil (Nat.zero_le _)) rfl) (seq_ret (ret_v (V_tup (Vs_cons (V_glo _ _) (Vs_cons (V_var rfl) Vs_nil)) two_line))))
  exact fin_b (u_made_derivation _ _) body
def en (i : Int) : List Stp → List (Int × Stp)
  | [] => []
  | s :: r => (i, s) :: en (i + 1) r
theorem en_enum : ∀ (ss : List Stp) (i : Int), enumF i (ss.map encS) = (en i ss).map fun p => .tuple [.int p.1, encS p.2]
  | [], _ => rfl
  | s :: r, i => by
    show PyData.tuple [.int i, encS s] :: enumF (i + 1) (r.map encS) = _
    rw [en_enum r (i + 1)]
    rfl
theorem en_len : ∀ (ss : List Stp) (i : Int), (en i ss).length = ss.length
  | [], _ => rfl
  | s :: r, i => congrArg (· + 1) (en_len r (i + 1))
def whF (p : Int × Stp) : Option D := if p.2.1 = [] then some (.int p.1) else none
def wh (i : Int) (ss : List Stp) : List D := (en i ss).filterMap whF
theorem at_zero {α : Type} (x : α) (xs : List α) : atI (x :: xs) 0 = some x := at_nat (xs := x :: xs) (i := 0) (by simp)
theorem wh_none : ∀ (ss : List Stp) (i : Int), (∀ s ∈ ss, s.1 ≠ []) → wh i ss = []
  | [], _, _ => rfl
  | s :: r, i, h => by
    unfold wh
    rw [show en i (s :: r) = (i, s) :: en (i + 1) r from rfl, List.filterMap_cons_none (show whF (i, s) = none from if_neg (h s List.mem_cons_self))]
    exact wh_none r (i + 1) fun x hx => h x (List.mem_cons_of_mem _ hx)
theorem wh_some (m : Int) (r : List Stp) : ∀ (ss : List Stp) (i : Int), (∀ s ∈ ss, s.1 ≠ []) → ∃ w, wh i (ss ++ ([([], m)] ++ r)) = .int (i + (ss.length : Nat)) :: w
  | [], i, _ => by
    refine ⟨wh (i + 1) r, ?_⟩
    unfold wh
    rw [show en i ([] ++ ([([], m)] ++ r)) = (i, ([], m)) :: en (i + 1) r from rfl, List.filterMap_cons_some (show whF (i, ([], m)) = some (PyData.int i) from if_pos rfl)]
    simp
  | s :: ss, i, h => by
    obtain ⟨w, q⟩ := wh_some m r ss (i + 1) fun x hx => h x (List.mem_cons_of_mem _ hx)
    refine ⟨w, ?_⟩
    have e : wh i (s :: ss ++ ([([], m)] ++ r)) = wh (i + 1) (ss ++ ([([], m)] ++ r)) := by
      unfold wh
      rw [show en i (s :: ss ++ ([([], m)] ++ r)) = (i, s) :: en (i + 1) (ss ++ ([([], m)] ++ r)) from rfl, List.filterMap_cons_none (show whF (i, s) = none from if_neg (h s List.mem_cons_self))]
    rw [e, q, List.length_cons]
    congr 2
    omega
theorem whole_ok {cf : CF} {b t : D} {ss : List Stp} (hl : ss.length ≤ 1000) : O cf [.val b, .val t, .val (runD ss), .no, .no, .no, .no, .no, .no, .no, .no, .no, .no] c_made_derivation_0 (wh 0 ss) := by
  refine comp_fm (cf := cf) (own := [8, 11]) (tg := .tT (.cons (.tN 8) (.cons (.tN 11) .nil))) (elt := .var 8) (src := .sEnum (.var 2)) (e1 := [.val b, .val t, .val (runD ss), .no, .no, .no, .no, .no, .no, .no, .no, .no, .no]) (fun p : Int × Stp => .tuple [.int p.1, encS p.2]) whF (by rw [← en_enum]; exact src_enum_t (V_var rfl)) (by rw [en_len]; unfold LINE; omega) rfl fun p _ => ⟨[.val b, .val t, .val (runD ss), .no, .no, .no, .no, .no, .val (.int p.1), .no, .no, .val (encS p.2), .no], rfl, rfl, ?_⟩
  have c : V cf [.val b, .val t, .val (runD ss), .no, .no, .no, .no, .no, .val (.int p.1), .no, .no, .val (encS p.2), .no] (.cmp .Eq (.idx (.var 11) (.const (.int 0))) (.tup .nil)) (.bool (decide (p.2.1 = []))) := V_cmp (V_idx (V_var rfl) (V_c _) rfl) (V_tup Vs_nil (Nat.zero_le _)) (eq_row p.2.1 [])
  by_cases h : p.2.1 = []
  · rw [decide_eq_true h] at c
    exact .inr ⟨.int p.1, .v (.int p.1), if_pos h, evC_V c, rfl, rfl⟩
  · rw [decide_eq_false h] at c
    exact .inl ⟨if_neg h, evC_V c⟩
theorem run_ne {s : Stp} {r : List Stp} : cmpD .Eq (runD (s :: r)) (.tuple []) = some false := ne_nil_t _ _
/-- cut at the first step of the whole -/
theorem md_whole {p : Ph} {n : Nat} {t l r d d' : D} {ss ss' : List Stp} {m : Nat} (h : Md (bk p) n t ss d) (h' : Md (bk p) n r ss' d') (hm : atI (rules p) (m : Int) = some (rl l r)) (hn : ∀ s ∈ ss, s.1 ≠ []) (hl : ss.length + ss'.length < 999) : Md (bk p) (n+1) t (byS m ss ss') (byD m d d') := fun k hk => by
  obtain ⟨k, rfl, hk'⟩ := up hk
  obtain ⟨w, hw⟩ := wh_some m ss' ss 0 hn
  rw [Int.zero_add] at hw
  have ln : (byS m ss ss').length = ss.length + 1 + ss'.length := by unfold byS; rw [List.length_append, List.length_append, List.length_singleton]; omega
  have wo := whole_ok (cf := runF tb k) (b := bk p) (t := t) (ss := byS m ss ss') (by rw [ln]; omega)
  rw [show wh 0 (byS m ss ss') = .int ((ss.length : Nat) : Int) :: w from hw] at wo
  have ne : cmpD .Eq (runD (byS m ss ss')) (.tuple []) = some false := by
    cases ss with
    | nil => exact run_ne
    | cons s r => exact run_ne
  have at1 : idxD (runD (byS m ss ss')) (.int ((ss.length : Nat) : Int)) = some (encS ([], (m : Int))) := by
    show atI ((byS m ss ss').map encS) ((ss.length : Nat) : Int) = _
    rw [at_nat (by rw [List.length_map, ln]; omega)]
    congr 1
    rw [List.getElem_map]
    congr 1
    unfold byS
    rw [List.getElem_append_right (Nat.le_refl _)]
    simp
  have c1 : cut ((byS m ss ss').map encS) none (some ((ss.length : Nat) : Int)) = ss.map encS := by
    rw [cut_lo _ _ (by rw [List.length_map, ln]; omega)]
    unfold byS
    rw [List.map_append, List.take_left' (List.length_map _)]
  have c2 : cut ((byS m ss ss').map encS) (some (((ss.length + 1 : Nat) : Nat) : Int)) none = ss'.map encS := by
    rw [cut_hi _ _ (by rw [List.length_map, ln]; omega)]
    unfold byS
    rw [← List.append_assoc, List.map_append, List.drop_left' (by rw [List.length_map, List.length_append, List.length_singleton])]
  have sl : ∀ e : Fm, e[2]? = some (.val (runD (byS m ss ss'))) → e[5]? = some (.val (.int ((ss.length : Nat) : Int))) → V (runF tb k) e (.slc (.var 2) .absent (.var 5)) (runD ss) := fun e h2 h5 => by
    have := V_slo (cf := runF tb k) (e := e) (i := 2) (j := 5) (xs := (byS m ss ss').map encS) (h := ((ss.length : Nat) : Int)) h2 h5
    rw [c1] at this
    exact this
  have sh : ∀ e : Fm, e[2]? = some (.val (runD (byS m ss ss'))) → e[5]? = some (.val (.int ((ss.length : Nat) : Int))) → V (runF tb k) e (.slc (.var 2) (.bin .Add (.var 5) (.const (.int 1))) .absent) (runD ss') := fun e h2 h5 => by
    have := V_shi (cf := runF tb k) (e := e) (i := 2) (a := .var 5) (b := .const (.int 1)) (op := .Add) (xs := (byS m ss ss').map encS) (l := ((ss.length + 1 : Nat) : Int)) h2 (V_bin (V_var h5) (V_c _) rfl)
    rw [c2] at this
    exact this
  have body : ∃ e', ev (runF tb k) f_made_derivation.body [.val (bk p), .val t, .val (runD (byS m ss ss')), .no, .no, .no, .no, .no, .no, .no, .no, .no, .no] = .ok (.fl (.ret (.v (byD m d d')))) e' :=
    ⟨_, seq_nx (if_no (V_cmp (V_var rfl) (V_tup Vs_nil (Nat.zero_le _)) ne)) (seq_nx (asg_l wo rfl) (seq_ret (if_yes (V_cmpOb (i := 3) rfl (O_lst (ds := []) Vs_nil (Nat.zero_le _)) (ne_nilL _))
      (seq_nx (asg_v (V_idxb (i := 3) rfl (V_c _) (show idxD (.list (.int ((ss.length : Nat) : Int) :: w)) (.int 0) = some (.int ((ss.length : Nat) : Int)) from at_zero _ _)) rfl) (seq_nx (asg_v (d := .int m) (V_idx (V_idx (V_var rfl) (V_var rfl) at1) (V_c _) rfl) rfl) (seq_nx (asg_v (V_call (Vs_cons (V_var rfl) (Vs_cons (V_var rfl) (Vs_cons (sl _ rfl rfl) Vs_nil))) (h _ hk')) rfl)
        (seq_ret (ret_v (V_tup (Vs_cons (V_glo _ _) (Vs_cons (V_var rfl) (Vs_cons (V_var rfl) (Vs_cons (V_call (Vs_cons (V_var rfl) (Vs_cons (V_idx (V_idx (V_var rfl) (V_var rfl) hm) (V_c _) rfl) (Vs_cons (sh _ rfl rfl) Vs_nil))) (h' _ hk')) Vs_nil)))) (by unfold LINE; simp))))))))))⟩
  obtain ⟨e', body⟩ := body
  refine fin_b (u_made_derivation _ _) body rfl ?_
  rfl
/-! ### part by part -/
def subE (i : Int) (s : Stp) : Option Stp := match s.1 with
  | q :: r => if q = i then some (r, s.2) else none
  | [] => none
def sub (i : Int) (ss : List Stp) : List Stp := ss.filterMap (subE i)
theorem sub_len (i : Int) (ss : List Stp) : (sub i ss).length ≤ ss.length := List.length_filterMap_le _ _
def subF (i : Int) (s : Stp) : Option D := match s.1 with
  | q :: r => if q = i then some (encS (r, s.2)) else none
  | [] => none
theorem sub_enc (i : Int) : ∀ ss : List Stp, (sub i ss).map encS = ss.filterMap (subF i)
  | [] => rfl
  | (pl, m) :: r => by
    have ih := sub_enc i r
    cases pl with
    | nil =>
      rw [List.filterMap_cons_none (show subF i ([], m) = none from rfl), ← ih]
      rfl
    | cons q l =>
      by_cases h : q = i
      · rw [List.filterMap_cons_some (show subF i (q :: l, m) = some (encS (l, m)) from if_pos h), ← ih]
        unfold sub
        rw [List.filterMap_cons_some (show subE i (q :: l, m) = some (l, m) from if_pos h)]
        rfl
      · rw [List.filterMap_cons_none (show subF i (q :: l, m) = none from if_neg h), ← ih]
        unfold sub
        rw [List.filterMap_cons_none (show subE i (q :: l, m) = none from if_neg h)]
structure PartM where
  t : D
  d : D
def Parts (b : D) (n : Nat) (ss : List Stp) : Int → List PartM → Prop
  | _, [] => True
  | i, x :: l => Md b n x.t (sub i ss) x.d ∧ Parts b n ss (i + 1) l
theorem sub_ok {cf : CF} {b t : D} {ss : List Stp} {i : Int} {x3 x4 x5 x7 x9 x10 x11 : Slot} (hl : ss.length ≤ 1000) (hn : ∀ s ∈ ss, s.1 ≠ []) : O cf [.val b, .val t, .val (runD ss), x3, x4, x5, .no, x7, .val (.int i), x9, x10, x11, .no] c_made_derivation_1 ((sub i ss).map encS) := by
  rw [sub_enc]
  refine comp_fm (cf := cf) (own := [12, 6]) (tg := .tT (.cons (.tN 12) (.cons (.tN 6) .nil))) (elt := .tup (.cons (.slc (.var 12) (.const (.int 1)) .absent) (.cons (.var 6) .nil))) (src := .sSeq (.var 2)) (e1 := [.val b, .val t, .val (runD ss), x3, x4, x5, .no, x7, .val (.int i), x9, x10, x11, .no]) encS (subF i) (src_seq_t (V_var rfl)) (by unfold LINE; omega) rfl fun s hs => ⟨[.val b, .val t, .val (runD ss), x3, x4, x5, .val (.int s.2), x7, .val (.int i), x9, x10, x11, .val (rowD s.1)], rfl, rfl, ?_⟩
  obtain ⟨pl, m⟩ := s
  cases pl with
  | nil => exact absurd rfl (hn _ hs)
  | cons q r =>
    have c : V cf [.val b, .val t, .val (runD ss), x3, x4, x5, .val (.int m), x7, .val (.int i), x9, x10, x11, .val (rowD (q :: r))] (.cmp .Eq (.idx (.var 12) (.const (.int 0))) (.var 8)) (.bool (decide (q = i))) := V_cmp (V_idx (V_var rfl) (V_c _) (show idxD (rowD (q :: r)) (.int 0) = some (.int q) from at_zero _ _)) (V_var rfl) (c_eq _ _)
    by_cases h : q = i
    · rw [decide_eq_true h] at c
      refine .inr ⟨encS (r, m), .v (encS (r, m)), if_pos h, evC_V c, ?_, rfl⟩
      exact V_tup (Vs_cons (V_sl1 (xs := (q :: r).map .int) rfl (by rw [List.length_map, List.length_cons]; omega)) (Vs_cons (V_var rfl) Vs_nil)) two_line
    · rw [decide_eq_false h] at c
      exact .inl ⟨if_neg h, evC_V c⟩
theorem md_loop {b t : D} {ss : List Stp} {n k : Nat} {x3 x5 x7 x11 : Slot} (hk : n ≤ k) (hl : ss.length ≤ 1000) (hn : ∀ s ∈ ss, s.1 ≠ []) : ∀ (l : List PartM) (i : Int) (acc : List D) (s8 s9 s10 : Slot), storable (some s8) = true → storable (some s9) = true → storable (some s10) = true → Parts b n ss i l → acc.length + l.length < 1000 →
    ∃ t8 t9 t10, fLoop (fun d e2 => match bindT (.tT (.cons (.tN 8) (.cons (.tN 9) .nil))) d e2 with
      | some e3 => ev (runF tb k) (.seq (.asg (.tN 10) (.prim .tuple (.cons c_made_derivation_1 .nil))) (.seq (.app 4 (.call "made_derivation" [false, false, false] (.cons (.var 0) (.cons (.var 9) (.cons (.var 10) .nil))))) .done)) e3
      | none => .bad) (enumF i (l.map PartM.t)) [.val b, .val t, .val (runD ss), x3, .own false acc, x5, .no, x7, s8, s9, s10, x11, .no] = .ok (.fl .nx) [.val b, .val t, .val (runD ss), x3, .own false (acc ++ l.map PartM.d), x5, .no, x7, t8, t9, t10, x11, .no]
  | [], i, acc, s8, s9, s10, _, _, _, _, _ => ⟨s8, s9, s10, by simp [fLoop, enumF]⟩
  | x :: l, i, acc, s8, s9, s10, h8, h9, h10, hp, hs => by
    rw [List.length_cons] at hs
    obtain ⟨t8, t9, t10, q⟩ := md_loop (x3 := x3) (x5 := x5) (x7 := x7) (x11 := x11) hk hl hn l (i + 1) (acc ++ [x.d]) (.val (.int i)) (.val x.t) (.val (runD (sub i ss))) rfl rfl rfl hp.2 (by rw [List.length_append, List.length_singleton]; omega)
    refine ⟨t8, t9, t10, ?_⟩
    have b1 := bind_two (i := 8) (j := 9) (a := .int i) (b := x.t) (e := [.val b, .val t, .val (runD ss), x3, .own false acc, x5, .no, x7, s8, s9, s10, x11, .no]) rfl rfl (by omega) h8 h9
    have step : ev (runF tb k) (.seq (.asg (.tN 10) (.prim .tuple (.cons c_made_derivation_1 .nil))) (.seq (.app 4 (.call "made_derivation" [false, false, false] (.cons (.var 0) (.cons (.var 9) (.cons (.var 10) .nil))))) .done)) [.val b, .val t, .val (runD ss), x3, .own false acc, x5, .no, x7, .val (.int i), .val x.t, s10, x11, .no] = .ok (.fl .nx) [.val b, .val t, .val (runD ss), x3, .own false (acc ++ [x.d]), x5, .no, x7, .val (.int i), .val x.t, .val (runD (sub i ss)), x11, .no] :=
      seq_nx (asg_v (d := runD (sub i ss)) (V_tupO (sub_ok hl hn)) h10) (seq_nx (app_v (V_call (Vs_cons (V_var rfl) (Vs_cons (V_var rfl) (Vs_cons (V_var rfl) Vs_nil))) (hp.1 k hk)) rfl (by unfold LINE; omega)) rfl)
    have e1 : acc ++ (x :: l).map PartM.d = acc ++ [x.d] ++ l.map PartM.d := by rw [List.append_assoc]; rfl
    rw [e1]
    show (match (match bindT (.tT (.cons (.tN 8) (.cons (.tN 9) .nil))) (.tuple [.int i, x.t]) [.val b, .val t, .val (runD ss), x3, .own false acc, x5, .no, x7, s8, s9, s10, x11, .no] with
      | some e3 => ev (runF tb k) (.seq (.asg (.tN 10) (.prim .tuple (.cons c_made_derivation_1 .nil))) (.seq (.app 4 (.call "made_derivation" [false, false, false] (.cons (.var 0) (.cons (.var 9) (.cons (.var 10) .nil))))) .done)) e3
      | none => .bad) with
      | .ok (.fl .nx) e1 => fLoop _ (enumF (i + 1) (l.map PartM.t)) e1
      | .ok (.fl .cont) e1 => fLoop _ (enumF (i + 1) (l.map PartM.t)) e1
      | .ok (.fl .brk) e1 => .ok (.fl .nx) e1
      | .ok (.fl (.ret r)) e1 => .ok (.fl (.ret r)) e1
      | .rz x e1 => .rz x e1
      | _ => .bad) = _
    rw [b1]
    dsimp only [List.set_cons_succ, List.set_cons_zero]
    rw [step]
    exact q
theorem md_parts {b : D} {n : Nat} {nm : Str} {l : List PartM} {ss : List Stp} (hp : Parts b n ss 0 l) (hl : ss.length ≤ 1000) (hn : ∀ s ∈ ss, s.1 ≠ []) (ne : ss ≠ []) (ll : l.length ≤ 3) : Md b (n+1) (.tuple (.str nm :: l.map PartM.t)) ss (partsD nm (l.map PartM.d)) := fun k hk => by
  obtain ⟨k, rfl, hk'⟩ := up hk
  have wo := whole_ok (cf := runF tb k) (b := b) (t := .tuple (.str nm :: l.map PartM.t)) (ss := ss) hl
  rw [wh_none ss 0 hn] at wo
  have ne : cmpD .Eq (runD ss) (.tuple []) = some false := by
    cases ss with
    | nil => exact absurd rfl ne
    | cons s r => exact run_ne
  obtain ⟨t8, t9, t10, q⟩ := md_loop (b := b) (t := .tuple (.str nm :: l.map PartM.t)) (x3 := .own false []) (x5 := .no) (x7 := .no) (x11 := .no) hk' hl hn l 0 [] .no .no .no rfl rfl rfl hp (by rw [List.length_nil]; omega)
  rw [List.nil_append] at q
  have src : ev (runF tb k) (.sEnum (.slc (.var 1) (.const (.int 1)) .absent)) [.val b, .val (.tuple (.str nm :: l.map PartM.t)), .val (runD ss), .own false [], .own false [], .no, .no, .no, .no, .no, .no, .no, .no] = .ok (.ds (enumF 0 (l.map PartM.t))) [.val b, .val (.tuple (.str nm :: l.map PartM.t)), .val (runD ss), .own false [], .own false [], .no, .no, .no, .no, .no, .no, .no, .no] :=
    src_enum_t (V_sl1 (xs := .str nm :: l.map PartM.t) rfl (by rw [List.length_cons]; omega))
  have body : ev (runF tb k) f_made_derivation.body [.val b, .val (.tuple (.str nm :: l.map PartM.t)), .val (runD ss), .no, .no, .no, .no, .no, .no, .no, .no, .no, .no] = .ok (.fl (.ret (.v (partsD nm (l.map PartM.d))))) [.val b, .val (.tuple (.str nm :: l.map PartM.t)), .val (runD ss), .own false [], .own false (l.map PartM.d), .no, .no, .no, t8, t9, t10, .no, .no] :=
    seq_nx (if_no (V_cmp (V_var rfl) (V_tup Vs_nil (Nat.zero_le _)) ne)) (seq_nx (asg_l wo rfl) (seq_nx (if_no (V_cmpOb (i := 3) rfl (O_lst (ds := []) Vs_nil (Nat.zero_le _)) (ne_nilL _)))
      (seq_nx (asg_l (O_lst (ds := []) Vs_nil (Nat.zero_le _)) rfl) (seq_nx (for_ok src q) (seq_ret (ret_v (V_tup (Vs_cons (V_glo _ _) (Vs_cons (V_idx (V_var rfl) (V_c _) (show idxD (.tuple (.str nm :: l.map PartM.t)) (.int 0) = some (.str nm) from at_zero _ _)) (Vs_cons (V_tupb rfl) Vs_nil))) (by unfold LINE; simp))))))))
  exact fin_b (u_made_derivation _ _) body
/-! ### the interface -/
theorem s_derivation {p : Ph} {n : Nat} {t u d : D} {ss : List Stp} (h : Fit p t u ss) (hm : Md (bk p) n t ss d) : Yes (n+12) "derivation_of" [.d (bk p), .d t, .d (runD ss)] (.v d) := fun k hk => by
  obtain ⟨k, rfl⟩ : ∃ j, k = j + 12 := ⟨k - 12, by omega⟩
  obtain ⟨acc, al⟩ := s_along (k+4) h.go h.len
  have al' : ev (runF tb (k+11)) (.call "made_along" [false, false, false] (.cons (.var 4) (.cons (.var 5) (.cons (.var 3) .nil)))) [.val (bk p), .val t, .val (runD ss), .val (runD ss), .val (bk p), .val t] = .ok (.rv (.o (acc ++ [u]))) [.val (bk p), .val t, .val (runD ss), .val (runD ss), .val (bk p), .val t] := call_r (Vs_cons (V_var rfl) (Vs_cons (V_var rfl) (Vs_cons (V_var rfl) Vs_nil))) al
  have ex : ev (runF tb (k+11)) (.expr (.call "made_along" [false, false, false] (.cons (.var 4) (.cons (.var 5) (.cons (.var 3) .nil))))) [.val (bk p), .val t, .val (runD ss), .val (runD ss), .val (bk p), .val t] = .ok (.fl .nx) [.val (bk p), .val t, .val (runD ss), .val (runD ss), .val (bk p), .val t] := by
    show (ev _ _ _).rv (fun _ e1 => R.ok (Val.fl .nx) e1) = _
    rw [al']
    rfl
  have body : ev (runF tb (k+11)) f_derivation_of.body [.val (bk p), .val t, .val (runD ss), .no, .no, .no] = .ok (.fl (.ret (.v d))) [.val (bk p), .val t, .val (runD ss), .val (runD ss), .val (bk p), .val t] :=
    seq_nx (par_v (V_call (Vs_cons (V_var rfl) Vs_nil) (f_book (k+2) p)) (V_call (Vs_cons (V_var rfl) Vs_nil) (h.tt (k+2))) rfl rfl) (seq_nx (asg_v (V_call (Vs_cons (V_var rfl) Vs_nil) (s_sure_run (k+6) h.len h.nn)) rfl) (seq_nx ex (seq_ret (ret_v (V_call (Vs_cons (V_var rfl) (Vs_cons (V_var rfl) (Vs_cons (V_var rfl) Vs_nil))) (hm _ (by omega)))))))
  exact fin_b (u_derivation_of _ _) body
theorem s_sure_d {p : Ph} {n : Nat} {d t u : D} {ss : List Stp} (h : Dr (bk p) n d t u ss) : Yes (n+1) "sure_derivation" [.d (bk p), .d d] (.v d) := fun k hk => by
  obtain ⟨k, rfl, hk'⟩ := up hk
  have big := h.big
  obtain ⟨j, rfl⟩ : ∃ j, k = j + 1 := ⟨k - 1, by omega⟩
  have to := t_of d (j+1) h.okd h.nl (by have := h.hg; omega)
  have body : ev (runF tb (j+1)) f_sure_derivation.body [.val (bk p), .val d, .no] = .ok (.fl (.ret (.v d))) [.val (bk p), .val d, .val d] :=
    seq_nx (asg_v (V_call (Vs_cons (V_var rfl) Vs_nil) to) rfl) (seq_nx (ex_v (V_call (Vs_cons (V_andT (V_call (Vs_cons (V_var rfl) Vs_nil) (h.form _ hk')) (V_one (V_cmp (V_call (Vs_cons (V_var rfl) (Vs_cons (V_var rfl) Vs_nil)) (h.ends _ hk')) (V_c _) rfl))) Vs_nil) (s_sure j))) (seq_ret (ret_v (V_var rfl))))
  exact fin_b (u_sure_derivation _ _) body
theorem s_ends_of {p : Ph} {n : Nat} {d t u : D} {ss : List Stp} (h : Dr (bk p) n d t u ss) : Yes (n+12) "ends_of" [.d (bk p), .d d] (.v (.tuple [t, u])) := fun k hk => by
  obtain ⟨k, rfl⟩ : ∃ j, k = j + 12 := ⟨k - 12, by omega⟩
  have body : ev (runF tb (k+11)) f_ends_of.body [.val (bk p), .val d, .no] = .ok (.fl (.ret (.v (.tuple [t, u])))) [.val (bk p), .val d, .val (bk p)] :=
    seq_nx (asg_v (V_call (Vs_cons (V_var rfl) Vs_nil) (f_book (k+2) p)) rfl) (seq_ret (ret_v (V_call (Vs_cons (V_var rfl) (Vs_cons (V_call (Vs_cons (V_var rfl) (Vs_cons (V_var rfl) Vs_nil)) (s_sure_d h _ (by omega))) Vs_nil)) (h.ends _ (by omega)))))
  exact fin_b (u_ends_of _ _) body
theorem s_counts_in {p : Ph} {n : Nat} {d t u : D} {ss : List Stp} (h : Dr (bk p) n d t u ss) : Yes (n+12) "counts_in" [.d (bk p), .d d] (.v (rowD (cnt ss))) := fun k hk => by
  obtain ⟨k, rfl⟩ : ∃ j, k = j + 12 := ⟨k - 12, by omega⟩
  have body : ev (runF tb (k+11)) f_counts_in.body [.val (bk p), .val d, .no] = .ok (.fl (.ret (.v (rowD (cnt ss))))) [.val (bk p), .val d, .val (bk p)] :=
    seq_nx (asg_v (V_call (Vs_cons (V_var rfl) Vs_nil) (f_book (k+2) p)) rfl) (seq_ret (ret_v (V_call (Vs_cons (V_var rfl) (Vs_cons (V_call (Vs_cons (V_var rfl) (Vs_cons (V_var rfl) Vs_nil)) (s_sure_d h _ (by omega))) Vs_nil)) (h.cnts _ (by omega)))))
  exact fin_b (u_counts_in _ _) body
theorem s_run_of {p : Ph} {n : Nat} {d t u : D} {ss : List Stp} (h : Dr (bk p) n d t u ss) : Yes (n+12) "run_of" [.d (bk p), .d d] (.v (runD ss)) := fun k hk => by
  obtain ⟨k, rfl⟩ : ∃ j, k = j + 12 := ⟨k - 12, by omega⟩
  have body : ev (runF tb (k+11)) f_run_of.body [.val (bk p), .val d, .no] = .ok (.fl (.ret (.v (runD ss)))) [.val (bk p), .val d, .val (bk p)] :=
    seq_nx (asg_v (V_call (Vs_cons (V_var rfl) Vs_nil) (f_book (k+2) p)) rfl) (seq_ret (ret_v (tup1 (call_r (Vs_cons (V_call (Vs_cons (V_var rfl) (Vs_cons (V_var rfl) Vs_nil)) (s_sure_d h _ (by omega))) Vs_nil) (h.runs _ (by omega))))))
  exact fin_b (u_run_of _ _) body
end L2.Mp
set_option Elab.async false
set_option linter.all false
set_option maxRecDepth 100000
set_option maxHeartbeats 0
namespace L2.Mp
open PySem PySem.Spec PyProof.Rows L2
/-! ### told by the kernel -/
def isYes (o : Option Bool) (b : Bool) : Bool := match o with
  | some x => x == b
  | none => false
theorem isYes_ok {o : Option Bool} {b : Bool} (h : isYes o b = true) : o = some b := by
  unfold isYes at h
  split at h
  · rw [eq_of_beq h]
  · cases h
theorem k_same : (phs.all fun p => (List.range 3).all fun dp => (List.range (sz0 p)).all fun i => (List.range (sz1 p)).all fun j => isYes (cmpD .Eq (tm p dp i j) (tm p dp i j)) true && okD (tm p dp i j) && nolist (tm p dp i j) && decide (hgt (tm p dp i j) ≤ 4)) = true := by decide +kernel
theorem k_rule : (phs.all fun p => (List.range (sz0 p)).all (fun i => isYes (cmpD .NotEq (rl (lf0 p i) (lf0 p (i+1))) (rl (lf0 p i) (lf0 p (i+1)))) false) && (List.range (sz1 p)).all (fun i => isYes (cmpD .NotEq (rl (lf1 p i) (lf1 p (i+1))) (rl (lf1 p i) (lf1 p (i+1)))) false)) = true := by decide +kernel
theorem k_wrule : cmpD .NotEq (rl (fT (nm "b") (nm "d")) (fT (nm "c") (nm "a"))) (rl (fT (nm "b") (nm "d")) (fT (nm "c") (nm "a"))) = some false := by decide +kernel
theorem k_leaves : (phs.all fun p => (List.range 3).all fun i => okD (l0 p i) && nolist (l0 p i) && decide (hgt (l0 p i) ≤ 4) && okD (l1 p i) && nolist (l1 p i) && decide (hgt (l1 p i) ≤ 4)) = true := by decide +kernel
theorem tm_facts (p : Ph) {dp : Nat} (hd : dp < 3) (i j : Nat) : cmpD .Eq (tm p dp i j) (tm p dp i j) = some true ∧ okD (tm p dp i j) = true ∧ nolist (tm p dp i j) = true ∧ hgt (tm p dp i j) ≤ 4 := by
  have h := List.all_eq_true.mp k_same p (phs_in p)
  have h := List.all_eq_true.mp h dp (List.mem_range.mpr hd)
  have h := List.all_eq_true.mp h (i % sz0 p) (List.mem_range.mpr (Nat.mod_lt _ (sz0_pos p)))
  have h := List.all_eq_true.mp h (j % sz1 p) (List.mem_range.mpr (Nat.mod_lt _ (sz1_pos p)))
  simp only [← tm_mod, Bool.and_eq_true, decide_eq_true_eq] at h
  exact ⟨isYes_ok h.1.1.1, h.1.1.2, h.1.2, h.2⟩
theorem leaf_facts (p : Ph) (i : Nat) : (okD (lf0 p i) = true ∧ nolist (lf0 p i) = true ∧ hgt (lf0 p i) ≤ 4) ∧ (okD (lf1 p i) = true ∧ nolist (lf1 p i) = true ∧ hgt (lf1 p i) ≤ 4) := by
  have h := List.all_eq_true.mp k_leaves p (phs_in p)
  have a := List.all_eq_true.mp h (i % sz0 p) (List.mem_range.mpr (mod3 p i).1)
  have b := List.all_eq_true.mp h (i % sz1 p) (List.mem_range.mpr (mod3 p i).2)
  simp only [Bool.and_eq_true, decide_eq_true_eq] at a b
  exact ⟨⟨a.1.1.1.1.1, a.1.1.1.1.2, a.1.1.1.2⟩, b.1.1.2, b.1.2, b.2⟩
theorem lf0_mod (p : Ph) (i : Nat) : lf0 p (i % sz0 p) = lf0 p i ∧ lf0 p (i % sz0 p + 1) = lf0 p (i + 1) := by
  unfold lf0
  rw [Nat.mod_mod, Nat.mod_add_mod]
  exact ⟨rfl, rfl⟩
theorem lf1_mod (p : Ph) (i : Nat) : lf1 p (i % sz1 p) = lf1 p i ∧ lf1 p (i % sz1 p + 1) = lf1 p (i + 1) := by
  unfold lf1
  rw [Nat.mod_mod, Nat.mod_add_mod]
  exact ⟨rfl, rfl⟩
theorem rule_ne (p : Ph) (i : Nat) : cmpD .NotEq (rl (lf0 p i) (lf0 p (i+1))) (rl (lf0 p i) (lf0 p (i+1))) = some false ∧ cmpD .NotEq (rl (lf1 p i) (lf1 p (i+1))) (rl (lf1 p i) (lf1 p (i+1))) = some false := by
  have h := List.all_eq_true.mp k_rule p (phs_in p)
  rw [Bool.and_eq_true] at h
  have a := List.all_eq_true.mp h.1 (i % sz0 p) (List.mem_range.mpr (Nat.mod_lt _ (sz0_pos p)))
  have b := List.all_eq_true.mp h.2 (i % sz1 p) (List.mem_range.mpr (Nat.mod_lt _ (sz1_pos p)))
  rw [(lf0_mod p i).1, (lf0_mod p i).2] at a
  rw [(lf1_mod p i).1, (lf1_mod p i).2] at b
  exact ⟨isYes_ok a, isYes_ok b⟩
theorem rule0_lt : ∀ (p : Ph) (i : Nat), i < sz0 p → atI (rules p) ((ba0 p + i : Nat) : Int) = some (rl (lf0 p i) (lf0 p (i+1)))
  | .p1, 0, _ => rfl
  | .p1, 1, _ => rfl
  | .p1, 2, _ => rfl
  | .p1, n + 3, h => by
    have h : n + 3 < 3 := h
    omega
  | .p2, 0, _ => rfl
  | .p2, 1, _ => rfl
  | .p2, n + 2, h => by
    have h : n + 2 < 2 := h
    omega
  | .p3, 0, _ => rfl
  | .p3, 1, _ => rfl
  | .p3, n + 2, h => by
    have h : n + 2 < 2 := h
    omega
theorem rule1_lt : ∀ (p : Ph) (i : Nat), i < sz1 p → atI (rules p) ((ba1 p + i : Nat) : Int) = some (rl (lf1 p i) (lf1 p (i+1)))
  | .p1, 0, _ => rfl
  | .p1, 1, _ => rfl
  | .p1, n + 2, h => by
    have h : n + 2 < 2 := h
    omega
  | .p2, 0, _ => rfl
  | .p2, 1, _ => rfl
  | .p2, n + 2, h => by
    have h : n + 2 < 2 := h
    omega
  | .p3, 0, _ => rfl
  | .p3, 1, _ => rfl
  | .p3, n + 2, h => by
    have h : n + 2 < 2 := h
    omega
theorem rule0 (p : Ph) (i : Nat) : atI (rules p) ((ba0 p + i % sz0 p : Nat) : Int) = some (rl (lf0 p i) (lf0 p (i+1))) := by
  rw [rule0_lt p _ (Nat.mod_lt _ (sz0_pos p)), (lf0_mod p i).1, (lf0_mod p i).2]
theorem rule1 (p : Ph) (i : Nat) : atI (rules p) ((ba1 p + i % sz1 p : Nat) : Int) = some (rl (lf1 p i) (lf1 p (i+1))) := by
  rw [rule1_lt p _ (Nat.mod_lt _ (sz1_pos p)), (lf1_mod p i).1, (lf1_mod p i).2]
theorem ba_lt (p : Ph) (i : Nat) : ba0 p + i % sz0 p < 5 ∧ ba1 p + i % sz1 p < 5 := by
  have h1 := Nat.mod_lt i (sz0_pos p)
  have h2 := Nat.mod_lt i (sz1_pos p)
  cases p <;> simp only [ba0, ba1, sz0, sz1] at * <;> omega
/-! ### chains -/
def lr0 (p : Ph) : Nat → Nat → List Stp
  | _, 0 => []
  | i, n + 1 => ([], ((ba0 p + i % sz0 p : Nat) : Int)) :: lr0 p (i + 1) n
def lr1 (p : Ph) : Nat → Nat → List Stp
  | _, 0 => []
  | i, n + 1 => ([], ((ba1 p + i % sz1 p : Nat) : Int)) :: lr1 p (i + 1) n
def ch0 (p : Ph) : Nat → Nat → D
  | i, 0 => sameD (lf0 p i)
  | i, n + 1 => byD ((ba0 p + i % sz0 p : Nat) : Int) (sameD (lf0 p i)) (ch0 p (i + 1) n)
def ch1 (p : Ph) : Nat → Nat → D
  | i, 0 => sameD (lf1 p i)
  | i, n + 1 => byD ((ba1 p + i % sz1 p : Nat) : Int) (sameD (lf1 p i)) (ch1 p (i + 1) n)
theorem lr0_len (p : Ph) : ∀ n i, (lr0 p i n).length = n
  | 0, _ => rfl
  | n + 1, i => congrArg (· + 1) (lr0_len p n (i + 1))
theorem lr1_len (p : Ph) : ∀ n i, (lr1 p i n).length = n
  | 0, _ => rfl
  | n + 1, i => congrArg (· + 1) (lr1_len p n (i + 1))
theorem Dr.mono {b : D} {n n' : Nat} {d t u : D} {ss : List Stp} (h : Dr b n d t u ss) (hn : n ≤ n') : Dr b n' d t u ss :=
  ⟨fun k hk => h.form k (by omega), fun k hk => h.ends k (by omega), fun k hk => h.cnts k (by omega), fun k hk => h.runs k (by omega), h.okd, h.nl, by have := h.hg; omega, h.len, by have := h.big; omega⟩
theorem dr_ch0 (p : Ph) : ∀ n i, n < 900 → Dr (bk p) (8 + n) (ch0 p i n) (lf0 p i) (lf0 p (i + n)) (lr0 p i n)
  | 0, i, _ => dr_same (fun k => (f_leaf k p i).1) (leaf_facts p i).1.1 (leaf_facts p i).1.2.1 (by have := (leaf_facts p i).1.2.2; omega)
  | n + 1, i, h => by
    have ih := dr_ch0 p n (i + 1) (by omega)
    have s := dr_same (p := p) (fun k => (f_leaf k p i).1) (leaf_facts p i).1.1 (leaf_facts p i).1.2.1 (by have := (leaf_facts p i).1.2.2; omega)
    have := dr_by (s.mono (n' := 8 + n) (by omega)) ih (rule0 p i) (ba_lt p i).1 (rule_ne p i).1 (by rw [lr0_len, List.length_nil]; omega)
    rw [show i + 1 + n = i + (n + 1) by omega] at this
    exact this
theorem dr_ch1 (p : Ph) : ∀ n i, n < 900 → Dr (bk p) (8 + n) (ch1 p i n) (lf1 p i) (lf1 p (i + n)) (lr1 p i n)
  | 0, i, _ => dr_same (fun k => (f_leaf k p i).2) (leaf_facts p i).2.1 (leaf_facts p i).2.2.1 (by have := (leaf_facts p i).2.2.2; omega)
  | n + 1, i, h => by
    have ih := dr_ch1 p n (i + 1) (by omega)
    have s := dr_same (p := p) (fun k => (f_leaf k p i).2) (leaf_facts p i).2.1 (leaf_facts p i).2.2.1 (by have := (leaf_facts p i).2.2.2; omega)
    have := dr_by (s.mono (n' := 8 + n) (by omega)) ih (rule1 p i) (ba_lt p i).2 (rule_ne p i).2 (by rw [lr1_len, List.length_nil]; omega)
    rw [show i + 1 + n = i + (n + 1) by omega] at this
    exact this
theorem md_ch0 (p : Ph) : ∀ n i, n < 900 → Md (bk p) (1 + n) (lf0 p i) (lr0 p i n) (ch0 p i n)
  | 0, i, _ => md_nil
  | n + 1, i, h => by
    have ih := md_ch0 p n (i + 1) (by omega)
    exact md_whole (n := 1 + n) (ss := []) (fun k hk => md_nil k (by omega)) ih (rule0 p i) (fun _ z => nomatch z) (by rw [lr0_len, List.length_nil]; omega)
theorem md_ch1 (p : Ph) : ∀ n i, n < 900 → Md (bk p) (1 + n) (lf1 p i) (lr1 p i n) (ch1 p i n)
  | 0, i, _ => md_nil
  | n + 1, i, h => by
    have ih := md_ch1 p n (i + 1) (by omega)
    exact md_whole (n := 1 + n) (ss := []) (fun k hk => md_nil k (by omega)) ih (rule1 p i) (fun _ z => nomatch z) (by rw [lr1_len, List.length_nil]; omega)
/-! ### two parts, mixed -/
def sM (p : Ph) : Nat → Nat → List Bool → List Stp
  | _, _, [] => []
  | i, j, false :: m => ([0], ((ba0 p + i % sz0 p : Nat) : Int)) :: sM p (i + 1) j m
  | i, j, true :: m => ([1], ((ba1 p + j % sz1 p : Nat) : Int)) :: sM p i (j + 1) m
abbrev c0 (m : List Bool) : Nat := m.count false
abbrev c1 (m : List Bool) : Nat := m.count true
theorem c01 : ∀ m : List Bool, c0 m + c1 m = m.length
  | [] => rfl
  | false :: m => by
    have := c01 m
    simp only [c0, c1, List.count_cons, List.length_cons] at *
    simp
    omega
  | true :: m => by
    have := c01 m
    simp only [c0, c1, List.count_cons, List.length_cons] at *
    simp
    omega
theorem sM_len (p : Ph) : ∀ (m : List Bool) (i j : Nat), (sM p i j m).length = m.length
  | [], _, _ => rfl
  | false :: m, i, j => congrArg (· + 1) (sM_len p m (i + 1) j)
  | true :: m, i, j => congrArg (· + 1) (sM_len p m i (j + 1))
theorem sM_ne (p : Ph) : ∀ (m : List Bool) (i j : Nat), ∀ s ∈ sM p i j m, s.1.length = 1 ∧ (∀ x ∈ s.1, 0 ≤ x) ∧ 0 ≤ s.2 ∧ s.2 < 5
  | [], _, _ => fun _ z => nomatch z
  | false :: m, i, j => fun s hs => by
    rcases List.mem_cons.mp hs with rfl | hs
    · exact ⟨rfl, fun x hx => by rw [List.mem_singleton.mp hx]; exact Int.le_refl _, by dsimp only; omega, by have := (ba_lt p i).1; dsimp only; omega⟩
    · exact sM_ne p m (i + 1) j s hs
  | true :: m, i, j => fun s hs => by
    rcases List.mem_cons.mp hs with rfl | hs
    · exact ⟨rfl, fun x hx => by rw [List.mem_singleton.mp hx]; omega, by dsimp only; omega, by have := (ba_lt p j).2; dsimp only; omega⟩
    · exact sM_ne p m i (j + 1) s hs
theorem sub0 (p : Ph) : ∀ (m : List Bool) (i j : Nat), sub 0 (sM p i j m) = lr0 p i (c0 m)
  | [], _, _ => rfl
  | false :: m, i, j => by
    have ih := sub0 p m (i + 1) j
    have e : c0 (false :: m) = c0 m + 1 := by simp [c0]
    rw [e]
    show (([0], ((ba0 p + i % sz0 p : Nat) : Int)) :: sM p (i + 1) j m).filterMap (subE 0) = ([], ((ba0 p + i % sz0 p : Nat) : Int)) :: lr0 p (i + 1) (c0 m)
    rw [List.filterMap_cons_some (show subE 0 ([0], ((ba0 p + i % sz0 p : Nat) : Int)) = some ([], ((ba0 p + i % sz0 p : Nat) : Int)) from rfl), ← ih]
    rfl
  | true :: m, i, j => by
    have ih := sub0 p m i (j + 1)
    have e : c0 (true :: m) = c0 m := by simp [c0]
    rw [e]
    show (([1], ((ba1 p + j % sz1 p : Nat) : Int)) :: sM p i (j + 1) m).filterMap (subE 0) = _
    rw [List.filterMap_cons_none (show subE 0 ([1], ((ba1 p + j % sz1 p : Nat) : Int)) = none from rfl), ← ih]
    rfl
theorem sub1 (p : Ph) : ∀ (m : List Bool) (i j : Nat), sub 1 (sM p i j m) = lr1 p j (c1 m)
  | [], _, _ => rfl
  | false :: m, i, j => by
    have ih := sub1 p m (i + 1) j
    have e : c1 (false :: m) = c1 m := by simp [c1]
    rw [e]
    show (([0], ((ba0 p + i % sz0 p : Nat) : Int)) :: sM p (i + 1) j m).filterMap (subE 1) = _
    rw [List.filterMap_cons_none (show subE 1 ([0], ((ba0 p + i % sz0 p : Nat) : Int)) = none from rfl), ← ih]
    rfl
  | true :: m, i, j => by
    have ih := sub1 p m i (j + 1)
    have e : c1 (true :: m) = c1 m + 1 := by simp [c1]
    rw [e]
    show (([1], ((ba1 p + j % sz1 p : Nat) : Int)) :: sM p i (j + 1) m).filterMap (subE 1) = ([], ((ba1 p + j % sz1 p : Nat) : Int)) :: lr1 p (j + 1) (c1 m)
    rw [List.filterMap_cons_some (show subE 1 ([1], ((ba1 p + j % sz1 p : Nat) : Int)) = some ([], ((ba1 p + j % sz1 p : Nat) : Int)) from rfl), ← ih]
    rfl
/-- sorted by parts -/
def srt (a b : Nat) : List Bool := List.replicate a false ++ List.replicate b true
theorem c_srt (a b : Nat) : c0 (srt a b) = a ∧ c1 (srt a b) = b := by
  unfold srt c0 c1
  rw [List.count_append, List.count_append]
  simp [List.count_replicate]
theorem sM_app (p : Ph) : ∀ (m m' : List Bool) (i j : Nat), sM p i j (m ++ m') = sM p i j m ++ sM p (i + c0 m) (j + c1 m) m'
  | [], _, _, _ => rfl
  | false :: m, m', i, j => by
    have e : c0 (false :: m) = c0 m + 1 := by simp [c0]
    have e' : c1 (false :: m) = c1 m := by simp [c1]
    rw [e, e']
    show _ :: sM p (i + 1) j (m ++ m') = _ :: (sM p (i + 1) j m ++ _)
    rw [sM_app p m m' (i + 1) j, show i + 1 + c0 m = i + (c0 m + 1) by omega]
  | true :: m, m', i, j => by
    have e : c1 (true :: m) = c1 m + 1 := by simp [c1]
    have e' : c0 (true :: m) = c0 m := by simp [c0]
    rw [e, e']
    show _ :: sM p i (j + 1) (m ++ m') = _ :: (sM p i (j + 1) m ++ _)
    rw [sM_app p m m' i (j + 1), show j + 1 + c1 m = j + (c1 m + 1) by omega]
theorem sM_r0 (p : Ph) : ∀ (n i j : Nat), sM p i j (List.replicate n false) = (lr0 p i n).map (pre 0)
  | 0, _, _ => rfl
  | n + 1, i, j => by
    show _ :: sM p (i + 1) j (List.replicate n false) = _ :: (lr0 p (i + 1) n).map (pre 0)
    rw [sM_r0 p n (i + 1) j]
    rfl
theorem sM_r1 (p : Ph) : ∀ (n i j : Nat), sM p i j (List.replicate n true) = (lr1 p j n).map (pre 1)
  | 0, _, _ => rfl
  | n + 1, i, j => by
    show _ :: sM p i (j + 1) (List.replicate n true) = _ :: (lr1 p (j + 1) n).map (pre 1)
    rw [sM_r1 p n i (j + 1)]
    rfl
theorem sM_srt (p : Ph) (a b i j : Nat) : sM p i j (srt a b) = (lr0 p i a).map (pre 0) ++ ((lr1 p j b).map (pre 1) ++ []) := by
  unfold srt
  rw [sM_app, sM_r0, sM_r1, List.append_nil]
  congr 1
  have e : c1 (List.replicate a false) = 0 := by unfold c1; simp [List.count_replicate]
  rw [e, Nat.add_zero]
theorem sM_perm (p : Ph) (m : List Bool) (i j : Nat) : (sM p i j (srt (c0 m) (c1 m))).Perm (sM p i j m) := by
  induction m generalizing i j with
  | nil => exact .refl _
  | cons b m ih =>
    cases b with
    | false =>
      have e : c0 (false :: m) = c0 m + 1 := by simp [c0]
      have e' : c1 (false :: m) = c1 m := by simp [c1]
      rw [e, e']
      exact List.Perm.cons _ (ih (i + 1) j)
    | true =>
      have e : c1 (true :: m) = c1 m + 1 := by simp [c1]
      have e' : c0 (true :: m) = c0 m := by simp [c0]
      have h := ih i (j + 1)
      rw [sM_srt, List.append_nil] at h
      rw [e, e', sM_srt, List.append_nil]
      refine List.Perm.trans ?_ (List.Perm.cons _ h)
      exact List.perm_middle
/-! ### the derivation of a mixed run -/
def dF (p : Ph) (i j a b : Nat) : D := if a + b = 0 then sameD (fT (lf0 p i) (lf1 p j)) else partsD "f" [ch0 p i a, ch1 p j b]
abbrev fz0 (p : Ph) (i j : Nat) : D := fT (lf0 p i) (lf1 p j)
theorem md_f (p : Ph) (m : List Bool) (i j : Nat) (h : m.length < 800) : Md (bk p) (m.length + 3) (fz0 p i j) (sM p i j m) (dF p i j (c0 m) (c1 m)) := by
  have cc := c01 m
  unfold dF
  split
  · rename_i z
    have e : m = [] := List.eq_nil_of_length_eq_zero (by omega)
    subst e
    exact fun k hk => md_nil k (by omega)
  · rename_i z
    have q := md_parts (b := bk p) (n := m.length + 2) (nm := "f") (l := [⟨lf0 p i, ch0 p i (c0 m)⟩, ⟨lf1 p j, ch1 p j (c1 m)⟩]) (ss := sM p i j m) ⟨fun k hk => by rw [sub0]; exact md_ch0 p (c0 m) i (by omega) k (by omega), fun k hk => by
      show runF tb k "made_derivation" [.d (bk p), .d (lf1 p j), .d (runD (sub 1 (sM p i j m)))] = _
      rw [sub1]
      exact md_ch1 p (c1 m) j (by omega) k (by omega), trivial⟩ (by rw [sM_len]; omega) (fun s hs z => by have := (sM_ne p m i j s hs).1; rw [z] at this; cases this) (fun z => by have := sM_len p m i j; rw [z] at this; simp at this; omega) (by simp)
    exact fun k hk => q k (by omega)
theorem dr_f (p : Ph) (i j a b : Nat) (h : a + b < 800) : Dr (bk p) (a + b + 10) (dF p i j a b) (fz0 p i j) (fz0 p (i + a) (j + b)) (sM p i j (srt a b)) := by
  unfold dF
  split
  · rename_i z
    have ea : a = 0 := by omega
    have eb : b = 0 := by omega
    subst ea eb
    have t := tm_facts p (dp := 0) (by omega) i j
    exact (dr_same (p := p) (t := fz0 p i j) (fun k => (f_term k p (dp := 0) (by omega) i j).2) t.2.1 t.2.2.1 (by have : hgt (fz0 p i j) ≤ 4 := t.2.2.2; omega)).mono (by omega)
  · rename_i z
    have q := dr_parts (p := p) (n := a + b + 8) (nm := "f") (l := [⟨ch0 p i a, lf0 p i, lf0 p (i + a), lr0 p i a⟩, ⟨ch1 p j b, lf1 p j, lf1 p (j + b), lr1 p j b⟩]) (fun x hx => by
      rcases List.mem_cons.mp hx with rfl | hx
      · exact (dr_ch0 p a i (by omega)).mono (by omega)
      · rw [List.mem_singleton.mp hx]
        exact (dr_ch1 p b j (by omega)).mono (by omega)) (fun k => (f_name k).1) (by simp) (by
      show ((lr0 p i a).map (pre 0) ++ ((lr1 p j b).map (pre (0 + 1)) ++ [])).length ≤ 1000
      rw [List.append_nil, List.length_append, List.length_map, List.length_map, lr0_len, lr1_len]
      omega) (fun x hx s hs => by
      have small : ∀ (n i : Nat), (∀ s ∈ lr0 p i n, s.1.length ≤ 900) ∧ ∀ s ∈ lr1 p i n, s.1.length ≤ 900 := fun n => by
        induction n with
        | zero => exact fun i => ⟨fun _ z => (nomatch z), fun _ z => (nomatch z)⟩
        | succ n ih =>
          intro i
          refine ⟨fun s hs => ?_, fun s hs => ?_⟩
          · rcases List.mem_cons.mp hs with rfl | hs
            · exact Nat.zero_le _
            · exact (ih (i + 1)).1 s hs
          · rcases List.mem_cons.mp hs with rfl | hs
            · exact Nat.zero_le _
            · exact (ih (i + 1)).2 s hs
      rcases List.mem_cons.mp hx with rfl | hx
      · exact (small a i).1 s hs
      · rw [List.mem_singleton.mp hx] at hs
        exact (small b j).2 s hs) (by omega)
    rw [sM_srt]
    exact q
end L2.Mp
set_option Elab.async false
set_option linter.all false
set_option maxRecDepth 100000
set_option maxHeartbeats 0
namespace L2.Mp
open PySem PySem.Spec PyProof.Rows L2
/-! ### sorted steps -/
def ltS (a b : Stp) : Bool := if a.1 = b.1 then decide (a.2 < b.2) else decide (a.1 < b.1)
def leS (a b : Stp) : Bool := !ltS b a
theorem lt_enc (a b : Stp) : PySem.W.dataLt (encS a) (encS b) = ltS a b := by
  have h1 : PySem.W.alike (rowD a.1) (rowD b.1) = true := by
    show PySem.W.alikeAll (a.1.map .int) (b.1.map .int) = true
    exact alike_ints2 _ _
  have e1 : PyData.eqv (rowD a.1) (rowD b.1) = decide (a.1 = b.1) := eqv_ints a.1 b.1
  have e2 : PySem.W.dataLt (rowD a.1) (rowD b.1) = decide (a.1 < b.1) := (PySem.W.dataLt_tuple _ _).trans (PySem.W.dataLt_ints a.1 b.1)
  have e3 : PyData.eqv (.int a.2) (.int b.2) = (a.2 == b.2) := rfl
  unfold encS
  rw [PySem.W.dataLt_pair h1 rfl, e1, e2, e3, PySem.W.dataLt_int]
  unfold ltS
  by_cases h : a.1 = b.1
  · by_cases h2 : a.2 = b.2 <;> simp [h, h2]
  · simp [h]
theorem leS_iff (a b : Stp) : leS a b = true ↔ a.1 < b.1 ∨ (a.1 = b.1 ∧ a.2 ≤ b.2) := by
  unfold leS ltS
  by_cases h : b.1 = a.1
  · rw [if_pos h]
    simp only [Bool.not_eq_true', decide_eq_false_iff_not]
    constructor
    · intro z
      exact .inr ⟨h.symm, by omega⟩
    · rintro (z | z)
      · rw [h] at z
        exact absurd z (List.lt_irrefl _)
      · omega
  · rw [if_neg h]
    simp only [Bool.not_eq_true', decide_eq_false_iff_not]
    constructor
    · intro z
      refine .inl ?_
      have z := List.not_lt.mp z
      by_cases w : a.1 < b.1
      · exact w
      · exact absurd (List.le_antisymm (List.not_lt.mp w) z) h
    · rintro (z | z)
      · exact List.lt_asymm z
      · exact absurd z.1.symm h
theorem leS_trans (a b c : Stp) (h : leS a b = true) (h' : leS b c = true) : leS a c = true := by
  rw [leS_iff] at *
  rcases h with h | ⟨h, h2⟩
  · rcases h' with h' | ⟨h', _⟩
    · exact .inl (List.lt_trans h h')
    · exact .inl (by rw [← h']; exact h)
  · rcases h' with h' | ⟨h', h3⟩
    · exact .inl (by rw [h]; exact h')
    · exact .inr ⟨h.trans h', by omega⟩
theorem leS_total (a b : Stp) : (leS a b || leS b a) = true := by
  rw [Bool.or_eq_true, leS_iff, leS_iff]
  by_cases h : a.1 = b.1
  · by_cases h2 : a.2 ≤ b.2
    · exact .inl (.inr ⟨h, h2⟩)
    · exact .inr (.inr ⟨h.symm, by omega⟩)
  · rcases List.le_total a.1 b.1 with z | z
    · refine .inl (.inl ?_)
      by_cases w : a.1 < b.1
      · exact w
      · exact absurd (List.le_antisymm z (List.not_lt.mp w)) h
    · refine .inr (.inl ?_)
      by_cases w : b.1 < a.1
      · exact w
      · exact absurd (List.le_antisymm (List.not_lt.mp w) z) h
theorem leS_anti (a b : Stp) (h : leS a b = true) (h' : leS b a = true) : a = b := by
  rw [leS_iff] at *
  rcases h with h | ⟨h, h2⟩
  · rcases h' with h' | ⟨h', _⟩
    · exact absurd h' (List.lt_asymm h)
    · rw [h'] at h
      exact absurd h (List.lt_irrefl _)
  · rcases h' with h' | ⟨_, h3⟩
    · rw [h] at h'
      exact absurd h' (List.lt_irrefl _)
    · exact Prod.ext h (by omega)
theorem sort_enc (l : List Stp) : sortD (l.map encS) = (l.mergeSort leS).map encS := by
  unfold sortD
  rw [List.map_mergeSort (s := PySem.W.dataLe false id)]
  intro a _ b _
  rw [PySem.W.dataLe_eq]
  show leS a b = !PySem.W.dataLt (encS b) (encS a)
  rw [lt_enc]
  rfl
theorem sort_perm {x y : List Stp} (h : x.Perm y) : sortD (x.map encS) = sortD (y.map encS) := by
  rw [sort_enc, sort_enc]
  congr 1
  exact List.Perm.eq_of_pairwise (le := fun a b => leS a b = true) (fun a b _ _ => leS_anti a b) (List.pairwise_mergeSort leS_trans leS_total x) (List.pairwise_mergeSort leS_trans leS_total y) ((List.mergeSort_perm x leS).trans (h.trans (List.mergeSort_perm y leS).symm))
theorem p_sorted {ss : List Stp} (hl : ss.length ≤ 60) : primD .sorted [runD ss] = some (.o (sortD (ss.map encS))) := by
  have al : alikeB (ss.map encS) = true := List.all_eq_true.mpr fun x hx => by
    obtain ⟨a, _, rfl⟩ := List.mem_map.mp hx
    rw [Bool.and_eq_true]
    refine ⟨rfl, List.all_eq_true.mpr fun y hy => ?_⟩
    obtain ⟨b, _, rfl⟩ := List.mem_map.mp hy
    show (PySem.W.alikeAll (a.1.map .int) (b.1.map .int) && (true && true)) = true
    rw [alike_ints2]
    rfl
  have tp : tupsB (ss.map encS) = true := List.all_eq_true.mpr fun x hx => by
    obtain ⟨a, _, rfl⟩ := List.mem_map.mp hx
    show decide ((encS a).depth ≤ 100) = true
    have h1 := depth_row a.1
    have h2 : (PyData.int a.2).depth ≤ 1 := by simp [PyData.depth]
    refine decide_eq_true ?_
    show max (rowD a.1).depth (max (PyData.int a.2).depth 0) + 1 ≤ 100
    omega
  show (if alikeB (ss.map encS) && tupsB (ss.map encS) && decide ((ss.map encS).length ≤ LINE) then some (RV.o (sortD (ss.map encS))) else none) = _
  rw [al, tp, decide_eq_true (by rw [List.length_map]; unfold LINE; omega)]
  rfl
/-! ### beneath g -/
def preN : Nat → List Stp → List Stp
  | 0, ss => ss
  | n + 1, ss => (preN n ss).map (pre 0)
theorem preN_eq : ∀ (n : Nat) (ss : List Stp), preN n ss = ss.map fun s => (pl n s.1, s.2)
  | 0, ss => by
    show ss = ss.map fun s => s
    rw [List.map_id']
  | n + 1, ss => by
    show (preN n ss).map (pre 0) = _
    rw [preN_eq n ss, List.map_map]
    rfl
theorem preN_len (n : Nat) (ss : List Stp) : (preN n ss).length = ss.length := by rw [preN_eq, List.length_map]
theorem sub_pre (ss : List Stp) : sub 0 (ss.map (pre 0)) = ss := by
  induction ss with
  | nil => rfl
  | cons s r ih =>
    show ((pre 0 s) :: r.map (pre 0)).filterMap (subE 0) = _
    rw [List.filterMap_cons_some (show subE 0 (pre 0 s) = some s from rfl)]
    exact congrArg (s :: ·) ih
def wr : Nat → D → D
  | 0, d => d
  | n + 1, d => partsD "g" [wr n d]
theorem md_g {b : D} {N : Nat} {t d : D} {ss : List Stp} (h : Md b N t ss d) (ne : ss ≠ []) (hl : ss.length ≤ 1000) : ∀ dp, Md b (N + dp) (gT dp t) (preN dp ss) (wr dp d)
  | 0 => h
  | n + 1 => by
    have ih := md_g h ne hl n
    have q := md_parts (b := b) (n := N + n) (nm := "g") (l := [⟨gT n t, wr n d⟩]) (ss := (preN n ss).map (pre 0)) ⟨by
      show Md b (N + n) (gT n t) (sub 0 ((preN n ss).map (pre 0))) (wr n d)
      rw [sub_pre]
      exact ih, trivial⟩ (by rw [List.length_map, preN_len]; exact hl) (fun s hs z => by
      obtain ⟨r, _, rfl⟩ := List.mem_map.mp hs
      cases z) (fun z => by
      have := congrArg List.length z
      rw [List.length_map, preN_len] at this
      exact ne (List.eq_nil_of_length_eq_zero this)) (by simp)
    exact q
theorem dr_g {p : Ph} {N : Nat} {t u d : D} {ss : List Stp} (h : Dr (bk p) N d t u ss) (h1 : ∀ s ∈ ss, s.1.length ≤ 1) : ∀ dp, dp < 100 → Dr (bk p) (N + 2 * dp) (wr dp d) (gT dp t) (gT dp u) (preN dp ss)
  | 0, _ => h
  | n + 1, hd => by
    have ih := dr_g h h1 n (by omega)
    have big := h.big
    have q := dr_parts (p := p) (n := N + 2 * n) (nm := "g") (l := [⟨wr n d, gT n t, gT n u, preN n ss⟩]) (fun x hx => by
      rw [List.mem_singleton.mp hx]
      exact ih) (fun k => (f_name k).2) (by simp) (by
      show ((preN n ss).map (pre 0) ++ []).length ≤ 1000
      rw [List.append_nil, List.length_map, preN_len]
      exact h.len) (fun x hx s hs => by
      rw [List.mem_singleton.mp hx] at hs
      have hs : s ∈ preN n ss := hs
      rw [preN_eq] at hs
      obtain ⟨r, hr, rfl⟩ := List.mem_map.mp hs
      have := h1 r hr
      show (pl n r.1).length ≤ 900
      unfold pl
      rw [List.length_append, List.length_replicate]
      omega) (by omega)
    have e : preAll 0 [⟨wr n d, gT n t, gT n u, preN n ss⟩] = preN (n + 1) ss := by
      show (preN n ss).map (pre 0) ++ [] = _
      rw [List.append_nil]
      rfl
    rw [e] at q
    exact q
/-! ### the runs go -/
theorem go_M (p : Ph) {dp : Nat} (hd : dp < 3) : ∀ (m : List Bool) (i j : Nat), Go (bk p) (tm p dp i j) (preN dp (sM p i j m)) (tm p dp (i + c0 m) (j + c1 m))
  | [], i, j => by
    rw [preN_eq]
    exact .nil _
  | false :: m, i, j => by
    have ih := go_M p hd m (i + 1) j
    have e : c0 (false :: m) = c0 m + 1 := by simp [c0]
    have e' : c1 (false :: m) = c1 m := by simp [c1]
    rw [preN_eq] at ih ⊢
    rw [e, e', show i + (c0 m + 1) = i + 1 + c0 m by omega]
    exact .cons (fun k => (f_after k p hd i j).1) (tm_term _ _ _ _) ih
  | true :: m, i, j => by
    have ih := go_M p hd m i (j + 1)
    have e : c1 (true :: m) = c1 m + 1 := by simp [c1]
    have e' : c0 (true :: m) = c0 m := by simp [c0]
    rw [preN_eq] at ih ⊢
    rw [e, e', show j + (c1 m + 1) = j + 1 + c1 m by omega]
    exact .cons (fun k => (f_after k p hd i j).2) (tm_term _ _ _ _) ih
theorem preN_app (n : Nat) (x y : List Stp) : preN n (x ++ y) = preN n x ++ preN n y := by rw [preN_eq, preN_eq, preN_eq, List.map_append]
/-- what the law asks of a run, its derivation, and the run by parts -/
structure TL (p : Ph) (t u : D) (ss ss' : List Stp) (d : D) (N : Nat) : Prop where
  fit : Fit p t u ss
  fit' : Fit p t u ss'
  md : Md (bk p) N t ss d
  md' : Md (bk p) N t ss' d
  dr : Dr (bk p) N d t u ss'
  perm : ss'.Perm ss
  uu : cmpD .Eq u u = some true
  nn : ∀ s ∈ ss, s.2 < 5
  okt : okD t = true ∧ hgt t ≤ 4
  oku : okD u = true ∧ hgt u ≤ 4
theorem nn_pre {dp : Nat} (hd : dp < 3) {ss : List Stp} (h : ∀ s ∈ ss, s.1.length ≤ 1 ∧ (∀ x ∈ s.1, 0 ≤ x) ∧ 0 ≤ s.2 ∧ s.2 < 5) : (∀ s ∈ preN dp ss, Nn s) ∧ ∀ s ∈ preN dp ss, s.2 < 5 := by
  rw [preN_eq]
  refine ⟨fun s hs => ?_, fun s hs => ?_⟩
  · obtain ⟨r, hr, rfl⟩ := List.mem_map.mp hs
    obtain ⟨h1, h2, h3, h4⟩ := h r hr
    refine ⟨?_, fun x hx => ?_, h3⟩
    · show (pl dp r.1).length ≤ 1000
      unfold pl
      rw [List.length_append, List.length_replicate]
      omega
    · rcases List.mem_append.mp (show x ∈ List.replicate dp 0 ++ r.1 from hx) with hx | hx
      · rw [(List.mem_replicate.mp hx).2]
        exact Int.le_refl _
      · exact h2 x hx
  · obtain ⟨r, hr, rfl⟩ := List.mem_map.mp hs
    exact (h r hr).2.2.2
def dT (dp : Nat) (e : Bool) (t d : D) : D := if e = true then sameD (gT dp t) else wr dp d
theorem tl_M {dp : Nat} (hd : dp < 3) (m : List Bool) (hm : m.length ≤ 60) : ∃ d, TL .p1 (tm .p1 dp 0 0) (tm .p1 dp (c0 m) (c1 m)) (preN dp (sM .p1 0 0 m)) (preN dp (sM .p1 0 0 (srt (c0 m) (c1 m)))) d 80 := by
  have cc := c01 m
  have cs := c_srt (c0 m) (c1 m)
  have ls : (srt (c0 m) (c1 m)).length = m.length := by
    have := c01 (srt (c0 m) (c1 m))
    omega
  have small : ∀ m' : List Bool, ∀ s ∈ sM .p1 0 0 m', s.1.length ≤ 1 ∧ (∀ x ∈ s.1, 0 ≤ x) ∧ 0 ≤ s.2 ∧ s.2 < 5 := fun m' s hs => by
    obtain ⟨h1, h2⟩ := sM_ne .p1 m' 0 0 s hs
    exact ⟨by omega, h2⟩
  have fit : ∀ m', m'.length ≤ 60 → c0 m' = c0 m → c1 m' = c1 m → Fit .p1 (tm .p1 dp 0 0) (tm .p1 dp (c0 m) (c1 m)) (preN dp (sM .p1 0 0 m')) := fun m' h e1 e2 => by
    have g := go_M .p1 hd m' 0 0
    rw [e1, e2, Nat.zero_add, Nat.zero_add] at g
    exact ⟨by rw [preN_len, sM_len]; exact h, (nn_pre hd (small m')).1, g, fun k => (f_term k .p1 hd 0 0).1, fun k => (f_term k .p1 hd (c0 m) (c1 m)).1⟩
  have tt := tm_facts .p1 hd 0 0
  have tu := tm_facts .p1 hd (c0 m) (c1 m)
  have perm : (preN dp (sM .p1 0 0 (srt (c0 m) (c1 m)))).Perm (preN dp (sM .p1 0 0 m)) := by
    rw [preN_eq, preN_eq]
    exact (sM_perm .p1 m 0 0).map _
  by_cases z : m = []
  · subst z
    refine ⟨sameD (tm .p1 dp 0 0), fit _ hm rfl rfl, fit _ (by rw [ls]; exact hm) cs.1 cs.2, ?_, ?_, ?_, perm, tu.1, (nn_pre hd (small _)).2, ⟨tt.2.1, tt.2.2.2⟩, ⟨tu.2.1, tu.2.2.2⟩⟩
    · rw [preN_eq]
      exact fun k hk => md_nil k (by omega)
    · rw [preN_eq]
      exact fun k hk => md_nil k (by omega)
    · rw [preN_eq]
      exact (dr_same (p := .p1) (fun k => (f_term k .p1 hd 0 0).2) tt.2.1 tt.2.2.1 (by have := tt.2.2.2; omega)).mono (by omega)
  · have ne : ∀ m' : List Bool, m'.length = m.length → sM .p1 0 0 m' ≠ [] := fun m' h q => by
      have := sM_len .p1 m' 0 0
      rw [q, h] at this
      exact z (List.eq_nil_of_length_eq_zero this.symm)
    have md : ∀ m', m'.length = m.length → c0 m' = c0 m → c1 m' = c1 m → Md (bk .p1) 80 (tm .p1 dp 0 0) (preN dp (sM .p1 0 0 m')) (wr dp (dF .p1 0 0 (c0 m) (c1 m))) := fun m' h e1 e2 k hk => by
      have q := md_g (md_f .p1 m' 0 0 (by omega)) (ne m' h) (by rw [sM_len]; omega) dp
      rw [e1, e2] at q
      exact q k (by omega)
    have dr := (dr_g (dr_f .p1 0 0 (c0 m) (c1 m) (by omega)) (fun s hs => (small _ s hs).1) dp (by omega)).mono (n' := 80) (by omega)
    rw [Nat.zero_add, Nat.zero_add] at dr
    exact ⟨_, fit _ hm rfl rfl, fit _ (by rw [ls]; exact hm) cs.1 cs.2, md m rfl rfl rfl, md _ ls cs.1 cs.2, dr, perm, tu.1, (nn_pre hd (small _)).2, ⟨tt.2.1, tt.2.2.2⟩, ⟨tu.2.1, tu.2.2.2⟩⟩
theorem tl_W {dp : Nat} (hd : dp < 3) (m1 m2 : List Bool) (h1 : c0 m1 % 2 = 1) (h2 : c1 m1 % 2 = 1) (hm : m1.length + m2.length ≤ 58) : ∃ d, TL .p2 (tm .p2 dp 0 0) (tm .p3 dp (c0 m2) (c1 m2)) (preN dp (byS 4 (sM .p2 0 0 m1) (sM .p3 0 0 m2))) (preN dp (byS 4 (sM .p2 0 0 (srt (c0 m1) (c1 m1))) (sM .p3 0 0 (srt (c0 m2) (c1 m2))))) d 100 := by
  have ca := c01 m1
  have cb := c01 m2
  have s1 := c_srt (c0 m1) (c1 m1)
  have s2 := c_srt (c0 m2) (c1 m2)
  have l1 : (srt (c0 m1) (c1 m1)).length = m1.length := by
    have := c01 (srt (c0 m1) (c1 m1))
    omega
  have l2 : (srt (c0 m2) (c1 m2)).length = m2.length := by
    have := c01 (srt (c0 m2) (c1 m2))
    omega
  have small : ∀ x y : List Bool, ∀ s ∈ byS 4 (sM .p2 0 0 x) (sM .p3 0 0 y), s.1.length ≤ 1 ∧ (∀ x ∈ s.1, 0 ≤ x) ∧ 0 ≤ s.2 ∧ s.2 < 5 := fun x y s hs => by
    unfold byS at hs
    rcases List.mem_append.mp hs with hs | hs
    · obtain ⟨h1, h2⟩ := sM_ne .p2 x 0 0 s hs
      exact ⟨by omega, h2⟩
    · rcases List.mem_append.mp hs with hs | hs
      · rw [List.mem_singleton.mp hs]
        exact ⟨Nat.zero_le _, fun x hx => (nomatch hx), by dsimp only; omega, by dsimp only; omega⟩
      · obtain ⟨h1, h2⟩ := sM_ne .p3 y 0 0 s hs
        exact ⟨by omega, h2⟩
  have len : ∀ x y : List Bool, (byS 4 (sM .p2 0 0 x) (sM .p3 0 0 y)).length = x.length + 1 + y.length := fun x y => by
    unfold byS
    rw [List.length_append, List.length_append, List.length_singleton, sM_len, sM_len]
    omega
  have odd : ∀ x : List Bool, c0 x % 2 = 1 → c1 x % 2 = 1 → fz0 .p2 (0 + c0 x) (0 + c1 x) = fT (nm "b") (nm "d") := fun x e1 e2 => by
    rw [Nat.zero_add, Nat.zero_add]
    unfold fz0 lf0 lf1
    rw [show c0 x % sz0 .p2 = 1 from e1, show c1 x % sz1 .p2 = 1 from e2]
    rfl
  have fit : ∀ x y, c0 x = c0 m1 → c1 x = c1 m1 → c0 y = c0 m2 → c1 y = c1 m2 → x.length = m1.length → y.length = m2.length → Fit .p2 (tm .p2 dp 0 0) (tm .p3 dp (c0 m2) (c1 m2)) (preN dp (byS 4 (sM .p2 0 0 x) (sM .p3 0 0 y))) := fun x y e1 e2 e3 e4 lx ly => by
    have g1 := go_M .p2 hd x 0 0
    have g2 := go_M .p3 hd y 0 0
    rw [e1, e2, Nat.zero_add, Nat.zero_add] at g1
    rw [e3, e4, Nat.zero_add, Nat.zero_add] at g2
    have g : Go (bk .p2) (tm .p2 dp 0 0) (preN dp (byS 4 (sM .p2 0 0 x) (sM .p3 0 0 y))) (tm .p3 dp (c0 m2) (c1 m2)) := by
      unfold byS
      rw [preN_app, preN_app]
      refine Go.app g1 ?_
      rw [show preN dp [(([] : List Int), (4 : Int))] = [stw dp] by rw [preN_eq]; rfl]
      exact .cons (fun k => f_whole k hd h1 h2) (tm_term _ _ _ _) g2
    exact ⟨by rw [preN_len, len]; omega, (nn_pre hd (small x y)).1, g, fun k => (f_term k .p2 hd 0 0).1, fun k => (f_term k .p3 hd (c0 m2) (c1 m2)).1⟩
  have tt := tm_facts .p2 hd 0 0
  have tu := tm_facts .p3 hd (c0 m2) (c1 m2)
  have perm : (preN dp (byS 4 (sM .p2 0 0 (srt (c0 m1) (c1 m1))) (sM .p3 0 0 (srt (c0 m2) (c1 m2))))).Perm (preN dp (byS 4 (sM .p2 0 0 m1) (sM .p3 0 0 m2))) := by
    rw [preN_eq, preN_eq]
    refine List.Perm.map _ ?_
    unfold byS
    exact (sM_perm .p2 m1 0 0).append (List.Perm.append_left _ (sM_perm .p3 m2 0 0))
  have r4 : atI (rules .p2) ((4 : Nat) : Int) = some (rl (fT (nm "b") (nm "d")) (fz0 .p3 0 0)) := rfl
  have md : ∀ x y, c0 x = c0 m1 → c1 x = c1 m1 → c0 y = c0 m2 → c1 y = c1 m2 → x.length = m1.length → y.length = m2.length → Md (bk .p2) 100 (tm .p2 dp 0 0) (preN dp (byS 4 (sM .p2 0 0 x) (sM .p3 0 0 y))) (wr dp (byD 4 (dF .p2 0 0 (c0 m1) (c1 m1)) (dF .p3 0 0 (c0 m2) (c1 m2)))) := fun x y e1 e2 e3 e4 lx ly k hk => by
    have a := md_f .p2 x 0 0 (by omega)
    have b := md_f .p3 y 0 0 (by omega)
    rw [e1, e2] at a
    rw [e3, e4] at b
    have w := md_whole (p := .p2) (n := 80) (m := 4) (fun k hk => a k (by omega)) (fun k hk => b k (by omega)) r4 (fun s hs z => by have := (sM_ne .p2 x 0 0 s hs).1; rw [z] at this; cases this) (by rw [sM_len, sM_len]; omega)
    have q := md_g w (fun z => by have := len x y; rw [show byS 4 (sM .p2 0 0 x) (sM .p3 0 0 y) = [] from z, List.length_nil] at this; omega) (by rw [show (byS ((4 : Nat) : Int) (sM .p2 0 0 x) (sM .p3 0 0 y)).length = _ from len x y]; omega) dp
    exact q k (by omega)
  have a := dr_f .p2 0 0 (c0 m1) (c1 m1) (by omega)
  have b := dr_f .p3 0 0 (c0 m2) (c1 m2) (by omega)
  rw [odd m1 h1 h2] at a
  have w := dr_by (p := .p2) (n := 80) (m := 4) (a.mono (by omega)) (Dr.mono (n' := 80) b (by omega)) r4 (by omega) k_wrule (by rw [sM_len, sM_len]; omega)
  have dr := (dr_g w (fun s hs => (small _ _ s hs).1) dp (by omega)).mono (n' := 100) (by omega)
  rw [Nat.zero_add, Nat.zero_add] at dr
  exact ⟨_, fit _ _ rfl rfl rfl rfl rfl rfl, fit _ _ s1.1 s1.2 s2.1 s2.2 l1 l2, md _ _ rfl rfl rfl rfl rfl rfl, md _ _ s1.1 s1.2 s2.1 s2.2 l1 l2, dr, perm, tu.1, (nn_pre hd (small _ _)).2, ⟨tt.2.1, tt.2.2.2⟩, ⟨tu.2.1, tu.2.2.2⟩⟩
end L2.Mp
set_option Elab.async false
set_option linter.all false
set_option maxRecDepth 100000
set_option maxHeartbeats 0
namespace L2.Mp
open PySem PySem.Spec PyProof.Rows L2
section
variable {cf : CF} {e : Fm}
theorem par3_o {i j l : Nat} {a b c : T} {x y z : List D} (ha : O cf e a x) (hb : O cf e b y) (hc : O cf e c z) (hi : storable e[i]? = true) (hj : storable e[j]? = true) (hl : storable e[l]? = true) : ev cf (.par3 i j l a b c) e = .ok (.fl .nx) (((e.set i (.own false x)).set j (.own false y)).set l (.own false z)) := by
  show (ev cf a e).rv (fun ra e1 => (ev cf b e1).rv fun rb e2 => (ev cf c e2).rv fun rc e3 => (match ra, rb, rc with
    | .o x, .o y, .o z => if storable e3[i]? && storable e3[j]? && storable e3[l]? then R.ok (Val.fl .nx) (((e3.set i (.own false x)).set j (.own false y)).set l (.own false z)) else .bad
    | _, _, _ => .bad)) = _
  rw [ha]
  show (ev cf b e).rv (fun rb e2 => (ev cf c e2).rv fun rc e3 => (match RV.o x, rb, rc with
    | .o x, .o y, .o z => if storable e3[i]? && storable e3[j]? && storable e3[l]? then R.ok (Val.fl .nx) (((e3.set i (.own false x)).set j (.own false y)).set l (.own false z)) else .bad
    | _, _, _ => .bad)) = _
  rw [hb]
  show (ev cf c e).rv (fun rc e3 => (match RV.o x, RV.o y, rc with
    | .o x, .o y, .o z => if storable e3[i]? && storable e3[j]? && storable e3[l]? then R.ok (Val.fl .nx) (((e3.set i (.own false x)).set j (.own false y)).set l (.own false z)) else .bad
    | _, _, _ => .bad)) = _
  rw [hc]
  show (if storable e[i]? && storable e[j]? && storable e[l]? then R.ok (Val.fl .nx) (((e.set i (.own false x)).set j (.own false y)).set l (.own false z)) else .bad) = _
  rw [hi, hj, hl]
  rfl
theorem cmp_e {op : CmpOp} {a b : T} {x y : D} {t : Bool} {e1 : Fm} (ha : ev cf a e = .ok (.rv (.v x)) e1) (hb : V cf e1 b y) (h : cmpD op x y = some t) : ev cf (.cmp op a b) e = .ok (.rv (.v (.bool t))) e1 := by
  show (ev cf a e).rv (fun ra e1 => (ev cf b e1).rv fun rb e2 => (match rd ra e2, rd rb e2 with
    | some x, some y => (match cmpD op x y with
      | some k => R.ok (Val.rv (.v (.bool k))) e2
      | none => .bad)
    | _, _ => .bad)) = _
  rw [ha]
  show (ev cf b e1).rv (fun rb e2 => (match rd (.v x) e2, rd rb e2 with
    | some x, some y => (match cmpD op x y with
      | some k => R.ok (Val.rv (.v (.bool k))) e2
      | none => .bad)
    | _, _ => .bad)) = _
  rw [hb]
  show (match cmpD op x y with
      | some k => R.ok (Val.rv (.v (.bool k))) e1
      | none => .bad) = _
  rw [h]
theorem V_orT {a b : T} (ha : V cf e a (.bool true)) : V cf e (.or a b) (.bool true) := by
  show (ev cf a e).rv (fun ra e1 => (match (rd ra e1).bind tru with
    | some true => R.ok (Val.rv ra) e1
    | some false => ev cf b e1
    | none => .bad)) = _
  rw [ha]
  rfl
theorem or_e {a b : T} {r : R Val} (ha : V cf e a (.bool false)) (hb : ev cf b e = r) : ev cf (.or a b) e = r := by
  show (ev cf a e).rv (fun ra e1 => (match (rd ra e1).bind tru with
    | some true => R.ok (Val.rv ra) e1
    | some false => ev cf b e1
    | none => .bad)) = _
  rw [ha]
  exact hb
theorem V_andF {a b : T} (ha : V cf e a (.bool false)) : V cf e (.and a b) (.bool false) := by
  show (ev cf a e).rv (fun ra e1 => (match (rd ra e1).bind tru with
    | some true => ev cf b e1
    | some false => R.ok (Val.rv ra) e1
    | none => .bad)) = _
  rw [ha]
  rfl
theorem par_e {i j : Nat} {a b : T} {x y : D} {e1 e2 : Fm} (ha : ev cf a e = .ok (.rv (.v x)) e1) (hb : ev cf b e1 = .ok (.rv (.v y)) e2) (hi : storable e2[i]? = true) (hj : storable e2[j]? = true) : ev cf (.par i j a b) e = .ok (.fl .nx) ((e2.set i (.val x)).set j (.val y)) := by
  show (ev cf a e).rv (fun ra e1 => (ev cf b e1).rv fun rb e2 => (match keepS ra e2 with
    | some (sa, e3) => (match keepS rb e3 with
      | some (sb, e4) => if storable e4[i]? && storable e4[j]? then R.ok (Val.fl .nx) ((e4.set i sa).set j sb) else .bad
      | none => .bad)
    | none => .bad)) = _
  rw [ha]
  show (ev cf b e1).rv (fun rb e2 => (match keepS (.v x) e2 with
    | some (sa, e3) => (match keepS rb e3 with
      | some (sb, e4) => if storable e4[i]? && storable e4[j]? then R.ok (Val.fl .nx) ((e4.set i sa).set j sb) else .bad
      | none => .bad)
    | none => .bad)) = _
  rw [hb]
  show (if storable e2[i]? && storable e2[j]? then R.ok (Val.fl .nx) ((e2.set i (.val x)).set j (.val y)) else .bad) = _
  rw [hi, hj]
  rfl
theorem par_oo {i j : Nat} {a b : T} {x y : List D} (ha : O cf e a x) (hb : O cf e b y) (hi : storable e[i]? = true) (hj : storable e[j]? = true) : ev cf (.par i j a b) e = .ok (.fl .nx) ((e.set i (.own false x)).set j (.own false y)) := by
  show (ev cf a e).rv (fun ra e1 => (ev cf b e1).rv fun rb e2 => (match keepS ra e2 with
    | some (sa, e3) => (match keepS rb e3 with
      | some (sb, e4) => if storable e4[i]? && storable e4[j]? then R.ok (Val.fl .nx) ((e4.set i sa).set j sb) else .bad
      | none => .bad)
    | none => .bad)) = _
  rw [ha]
  show (ev cf b e).rv (fun rb e2 => (match keepS (.o x) e2 with
    | some (sa, e3) => (match keepS rb e3 with
      | some (sb, e4) => if storable e4[i]? && storable e4[j]? then R.ok (Val.fl .nx) ((e4.set i sa).set j sb) else .bad
      | none => .bad)
    | none => .bad)) = _
  rw [hb]
  show (if storable e[i]? && storable e[j]? then R.ok (Val.fl .nx) ((e.set i (.own false x)).set j (.own false y)) else .bad) = _
  rw [hi, hj]
  rfl
theorem bin_ee {op : Operator} {a b : T} {x y d : D} {e1 e2 : Fm} (ha : ev cf a e = .ok (.rv (.v x)) e1) (hb : ev cf b e1 = .ok (.rv (.v y)) e2) (h : binD op x y = some (.v d)) : ev cf (.bin op a b) e = .ok (.rv (.v d)) e2 := by
  show (ev cf a e).rv (fun ra e1 => (ev cf b e1).rv fun rb e2 => (match rd ra e2, rd rb e2 with
    | some x, some y => optR (binD op x y) e2
    | _, _ => .bad)) = _
  rw [ha]
  show (ev cf b e1).rv (fun rb e2 => (match rd (.v x) e2, rd rb e2 with
    | some x, some y => optR (binD op x y) e2
    | _, _ => .bad)) = _
  rw [hb]
  show optR (binD op x y) e2 = _
  rw [h]
  rfl
theorem pop_e {tk fd i j m : Nat} {c r : T} {q io io2 : Bool} {x : D} {xs acc : List D} {e1 : Fm} {v : R Val} (hc : testR (ev cf c e) = .ok q e1) (hm : (if q = true then i else j) = m) (h1 : e1[m]? = some (.own io (x :: xs))) (h2 : e1[fd]? = some (.own io2 acc)) (hs : storable e1[tk]? = true) (hl : acc.length < LINE) (hr : ev cf r (((e1.set tk .no).set m (.own io xs)).set fd (.own io2 (acc ++ [x]))) = v) : ev cf (.popE tk fd c i j r) e = v := by
  show (testR (ev cf c e)).bnd (fun q e1 => (match e1[(if q = true then i else j)]?, e1[fd]? with
    | some (.own io (x :: xs)), some (.own io2 acc) => if storable e1[tk]? && decide (acc.length < LINE) then ev cf r (((e1.set tk .no).set (if q = true then i else j) (.own io xs)).set fd (.own io2 (acc ++ [x]))) else .bad
    | _, _ => .bad)) = _
  rw [hc]
  show (match e1[(if q = true then i else j)]?, e1[fd]? with
    | some (.own io (x :: xs)), some (.own io2 acc) => if storable e1[tk]? && decide (acc.length < LINE) then ev cf r (((e1.set tk .no).set (if q = true then i else j) (.own io xs)).set fd (.own io2 (acc ++ [x]))) else .bad
    | _, _ => .bad) = _
  rw [hm, h1, h2]
  show (if storable e1[tk]? && decide (acc.length < LINE) then ev cf r (((e1.set tk .no).set m (.own io xs)).set fd (.own io2 (acc ++ [x]))) else .bad) = _
  rw [hs, decide_eq_true hl]
  exact hr
theorem O_lstV {i : Nat} {xs : List D} (h : e[i]? = some (.val (.list xs))) : O cf e (.prim .list (.cons (.var i) .nil)) xs := by
  unfold O
  simp only [ev, R.rv, R.rvs, R.dsk, R.bnd, testR, partR, rd, rds, fz, fzs, nrm, optR, keepS, storable, tru, isD, tyN, Ty.sub, List.any_cons, List.any_nil, List.all_cons, List.all_nil, doCall, mkArgs, lent, isOwnS, noDup, putOuts, argsFit, endF, outsF, startF, bindT, bindTs, List.getElem?_cons_zero, List.getElem?_cons_succ, List.getElem?_nil, List.map_cons, List.map_nil, List.length_cons, List.length_nil, List.replicate, List.cons_append, List.nil_append, List.set_cons_zero, List.set_cons_succ, Option.bind, Option.map, Bool.and_true, Bool.true_and, Bool.and_false, Bool.false_and, Bool.or_true, Bool.true_or, Bool.or_false, Bool.false_or, Bool.not_true, Bool.not_false, Bool.not_not, if_true, if_false, Bool.false_eq_true, reduceIte, reduceCtorEq, decide_true, decide_false, List.isEmpty_nil, List.isEmpty_cons, beq_self_eq_true, Nat.reduceAdd, Nat.reduceSub, Nat.reduceLeDiff, Nat.reduceLT, List.contains_nil, it_l, it_t, it_r, ty_r, b_add, b_sub, b_mul, b_mod, b_fdiv, b_addt, b_addl, b_pow3, b_pow6, b_pow12, b_pow18, i_t, i_l, i_r, sl_t, sl_l, p_len_l, p_len_t, p_len_r, p_abs, p_int, p_intB, p_tup_l, p_tup_t, p_lst_l, p_lst_t, p_sum_l, p_sum_t, p_sum_r, p_all, p_any, p_max2, p_min2, isNon, nolistR, nolist, and_self, and_true, true_and, h]
end
/-! ### two runs mixed -/
def AL (p : Ph) (i a : Nat) : List D := ((lr0 p i a).map (pre 0)).map encS
def BL (p : Ph) (j b : Nat) : List D := ((lr1 p j b).map (pre 1)).map encS
theorem AL_len (p : Ph) (i a : Nat) : (AL p i a).length = a := by unfold AL; rw [List.length_map, List.length_map, lr0_len]
theorem BL_len (p : Ph) (i a : Nat) : (BL p i a).length = a := by unfold BL; rw [List.length_map, List.length_map, lr1_len]
theorem eq_nilL (xs : List D) : cmpD .Eq (.list xs) (.list []) = some xs.isEmpty := eq_nil xs
theorem mix_cond (k : Nat) (p : Ph) {n a b i j : Nat} {bx acc : List D} {s3 s5 : Slot} (hb : Box n bx) (hn : n < 2 ^ 30) (hab : 0 < a + b) : ∃ (q : Bool) (bx' : List D), testR (ev (runF tb (k+1)) (.or (.cmp .Eq (.var 2) (.lst .nil)) (.one (.and (.cmp .NotEq (.var 1) (.lst .nil)) (.one (.cmp .Eq (.call "_law_take" [true, false] (.cons (.var 0) (.cons (.const (.int 2)) .nil))) (.const (.int 0))))))) [.own true bx, .own false (AL p i a), .own false (BL p j b), s3, .own false acc, s5]) = .ok q [.own true bx', .own false (AL p i a), .own false (BL p j b), s3, .own false acc, s5] ∧ Box (n + 1) bx' ∧ (q = true → 0 < a) ∧ (q = false → 0 < b) := by
  cases b with
  | zero =>
    refine ⟨true, bx, ?_, box_mono hb (by omega), fun _ => by omega, fun z => (nomatch z)⟩
    have c : V (runF tb (k+1)) [.own true bx, .own false (AL p i a), .own false (BL p j 0), s3, .own false acc, s5] (.or (.cmp .Eq (.var 2) (.lst .nil)) (.one (.and (.cmp .NotEq (.var 1) (.lst .nil)) (.one (.cmp .Eq (.call "_law_take" [true, false] (.cons (.var 0) (.cons (.const (.int 2)) .nil))) (.const (.int 0))))))) (.bool true) := V_orT (V_cmpOb (i := 2) rfl (O_lst (ds := []) Vs_nil (Nat.zero_le _)) (eq_nilL _))
    rw [c]
    rfl
  | succ b =>
    have nb : V (runF tb (k+1)) [.own true bx, .own false (AL p i a), .own false (BL p j (b+1)), s3, .own false acc, s5] (.cmp .Eq (.var 2) (.lst .nil)) (.bool false) := V_cmpOb (i := 2) rfl (O_lst (ds := []) Vs_nil (Nat.zero_le _)) (eq_nilL _)
    cases a with
    | zero =>
      refine ⟨false, bx, ?_, box_mono hb (by omega), fun z => (nomatch z), fun _ => by omega⟩
      have c : V (runF tb (k+1)) [.own true bx, .own false (AL p i 0), .own false (BL p j (b+1)), s3, .own false acc, s5] (.or (.cmp .Eq (.var 2) (.lst .nil)) (.one (.and (.cmp .NotEq (.var 1) (.lst .nil)) (.one (.cmp .Eq (.call "_law_take" [true, false] (.cons (.var 0) (.cons (.const (.int 2)) .nil))) (.const (.int 0))))))) (.bool false) := V_orF nb (V_one (V_andF (V_cmpOb (i := 1) rfl (O_lst (ds := []) Vs_nil (Nat.zero_le _)) (ne_nilL _))))
      rw [c]
      rfl
    | succ a =>
      obtain ⟨r, bx', q1, q2, q3, q4⟩ := s_take k hb hn (z := 2) (by omega) (by omega)
      refine ⟨decide (r = 0), bx', ?_, q4, fun _ => by omega, fun _ => by omega⟩
      have na : V (runF tb (k+1)) [.own true bx, .own false (AL p i (a+1)), .own false (BL p j (b+1)), s3, .own false acc, s5] (.cmp .NotEq (.var 1) (.lst .nil)) (.bool true) := V_cmpOb (i := 1) rfl (O_lst (ds := []) Vs_nil (Nat.zero_le _)) (ne_nilL _)
      have tk : ev (runF tb (k+1)) (.call "_law_take" [true, false] (.cons (.var 0) (.cons (.const (.int 2)) .nil))) [.own true bx, .own false (AL p i (a+1)), .own false (BL p j (b+1)), s3, .own false acc, s5] = .ok (.rv (.v (.int r))) [.own true bx', .own false (AL p i (a+1)), .own false (BL p j (b+1)), s3, .own false acc, s5] := call_io (io := true) rfl (V_c _) q1
      have c : ev (runF tb (k+1)) (.or (.cmp .Eq (.var 2) (.lst .nil)) (.one (.and (.cmp .NotEq (.var 1) (.lst .nil)) (.one (.cmp .Eq (.call "_law_take" [true, false] (.cons (.var 0) (.cons (.const (.int 2)) .nil))) (.const (.int 0))))))) [.own true bx, .own false (AL p i (a+1)), .own false (BL p j (b+1)), s3, .own false acc, s5] = .ok (.rv (.v (.bool (decide (r = 0))))) [.own true bx', .own false (AL p i (a+1)), .own false (BL p j (b+1)), s3, .own false acc, s5] := or_e nb (and_e na (cmp_e tk (V_c _) (c_eq _ _)))
      rw [c]
      rfl
theorem mix_loop (k : Nat) (p : Ph) : ∀ (items : List Nat) (a b i j : Nat) (acc : List Stp) (n : Nat) (bx : List D) (s3 s5 : Slot), items.length = a + b → Box n bx → n + (a + b) < 2 ^ 30 → acc.length + (a + b) < 1000 → storable (some s3) = true → storable (some s5) = true →
    ∃ (m : List Bool) (bx' : List D) (t3 t5 : Slot), fLoop (fun d e2 => match bindT (.tN 3) d e2 with
      | some e3 => ev (runF tb (k+1)) (.popE 5 4 (.or (.cmp .Eq (.var 2) (.lst .nil)) (.one (.and (.cmp .NotEq (.var 1) (.lst .nil)) (.one (.cmp .Eq (.call "_law_take" [true, false] (.cons (.var 0) (.cons (.const (.int 2)) .nil))) (.const (.int 0))))))) 1 2 .done) e3
      | none => .bad) (items.map fun i : Nat => PyData.int (0 + (i : Nat))) [.own true bx, .own false (AL p i a), .own false (BL p j b), s3, .own false (acc.map encS), s5] = .ok (.fl .nx) [.own true bx', .own false [], .own false [], t3, .own false ((acc ++ sM p i j m).map encS), t5] ∧ c0 m = a ∧ c1 m = b ∧ Box (n + (a + b)) bx'
  | [], a, b, i, j, acc, n, bx, s3, s5, hl, hb, _, _, _, _ => by
    have ea : a = 0 := by simp at hl; omega
    have eb : b = 0 := by simp at hl; omega
    subst ea eb
    exact ⟨[], bx, s3, s5, by simp [fLoop, sM, AL, BL, lr0, lr1], rfl, rfl, hb⟩
  | x :: items, a, b, i, j, acc, n, bx, s3, s5, hl, hb, hn, ha, h3, h5 => by
    rw [List.length_cons] at hl
    obtain ⟨q, bx1, c, o1, qa, qb⟩ := mix_cond k p (i := i) (j := j) (acc := acc.map encS) (s3 := .val (.int (0 + (x : Nat)))) (s5 := s5) hb (by omega) (show 0 < a + b by omega)
    have b1 := bind_st (i := 3) (d := .int (0 + (x : Nat))) (e := [.own true bx, .own false (AL p i a), .own false (BL p j b), s3, .own false (acc.map encS), s5]) rfl h3
    have fl : ∀ r : R Val, (∀ e1, ev (runF tb (k+1)) (.popE 5 4 (.or (.cmp .Eq (.var 2) (.lst .nil)) (.one (.and (.cmp .NotEq (.var 1) (.lst .nil)) (.one (.cmp .Eq (.call "_law_take" [true, false] (.cons (.var 0) (.cons (.const (.int 2)) .nil))) (.const (.int 0))))))) 1 2 .done) [.own true bx, .own false (AL p i a), .own false (BL p j b), .val (.int (0 + (x : Nat))), .own false (acc.map encS), s5] = .ok (.fl .nx) e1 → fLoop (fun d e2 => match bindT (.tN 3) d e2 with
      | some e3 => ev (runF tb (k+1)) (.popE 5 4 (.or (.cmp .Eq (.var 2) (.lst .nil)) (.one (.and (.cmp .NotEq (.var 1) (.lst .nil)) (.one (.cmp .Eq (.call "_law_take" [true, false] (.cons (.var 0) (.cons (.const (.int 2)) .nil))) (.const (.int 0))))))) 1 2 .done) e3
      | none => .bad) (items.map fun i : Nat => PyData.int (0 + (i : Nat))) e1 = r → fLoop (fun d e2 => match bindT (.tN 3) d e2 with
      | some e3 => ev (runF tb (k+1)) (.popE 5 4 (.or (.cmp .Eq (.var 2) (.lst .nil)) (.one (.and (.cmp .NotEq (.var 1) (.lst .nil)) (.one (.cmp .Eq (.call "_law_take" [true, false] (.cons (.var 0) (.cons (.const (.int 2)) .nil))) (.const (.int 0))))))) 1 2 .done) e3
      | none => .bad) ((x :: items).map fun i : Nat => PyData.int (0 + (i : Nat))) [.own true bx, .own false (AL p i a), .own false (BL p j b), s3, .own false (acc.map encS), s5] = r) := fun r e1 h1 h2 => by
      show (match (match bindT (.tN 3) (.int (0 + (x : Nat))) [.own true bx, .own false (AL p i a), .own false (BL p j b), s3, .own false (acc.map encS), s5] with
        | some e3 => ev (runF tb (k+1)) (.popE 5 4 (.or (.cmp .Eq (.var 2) (.lst .nil)) (.one (.and (.cmp .NotEq (.var 1) (.lst .nil)) (.one (.cmp .Eq (.call "_law_take" [true, false] (.cons (.var 0) (.cons (.const (.int 2)) .nil))) (.const (.int 0))))))) 1 2 .done) e3
        | none => .bad) with
        | .ok (.fl .nx) e1 => fLoop _ (items.map fun i : Nat => PyData.int (0 + (i : Nat))) e1
        | .ok (.fl .cont) e1 => fLoop _ (items.map fun i : Nat => PyData.int (0 + (i : Nat))) e1
        | .ok (.fl .brk) e1 => .ok (.fl .nx) e1
        | .ok (.fl (.ret r)) e1 => .ok (.fl (.ret r)) e1
        | .rz x e1 => .rz x e1
        | _ => .bad) = _
      rw [b1]
      dsimp only [List.set_cons_succ, List.set_cons_zero]
      rw [h1]
      exact h2
    cases q with
    | true =>
      obtain ⟨a, rfl⟩ : ∃ a', a = a' + 1 := ⟨a - 1, by have := qa rfl; omega⟩
      obtain ⟨m, bx', t3, t5, g1, g2, g3, g4⟩ := mix_loop k p items a b (i + 1) j (acc ++ [([0], ((ba0 p + i % sz0 p : Nat) : Int))]) (n + 1) bx1 (.val (.int (0 + (x : Nat)))) .no (by omega) o1 (by omega) (by rw [List.length_append, List.length_singleton]; omega) rfl rfl
      refine ⟨false :: m, bx', t3, t5, ?_, by simp [c0]; exact g2, by simp [c1]; exact g3, box_mono g4 (by omega)⟩
      rw [List.append_assoc] at g1
      refine fl _ _ (pop_e (m := 1) (x := encS ([0], ((ba0 p + i % sz0 p : Nat) : Int))) (xs := AL p (i + 1) a) c rfl rfl rfl h5 (by rw [List.length_map]; unfold LINE; omega) rfl) ?_
      rw [List.map_append] at g1
      exact g1
    | false =>
      obtain ⟨b, rfl⟩ : ∃ b', b = b' + 1 := ⟨b - 1, by have := qb rfl; omega⟩
      obtain ⟨m, bx', t3, t5, g1, g2, g3, g4⟩ := mix_loop k p items a b i (j + 1) (acc ++ [([1], ((ba1 p + j % sz1 p : Nat) : Int))]) (n + 1) bx1 (.val (.int (0 + (x : Nat)))) .no (by omega) o1 (by omega) (by rw [List.length_append, List.length_singleton]; omega) rfl rfl
      refine ⟨true :: m, bx', t3, t5, ?_, by simp [c0]; exact g2, by simp [c1]; exact g3, box_mono g4 (by omega)⟩
      rw [List.append_assoc] at g1
      refine fl _ _ (pop_e (m := 2) (x := encS ([1], ((ba1 p + j % sz1 p : Nat) : Int))) (xs := BL p (j + 1) b) c rfl rfl rfl h5 (by rw [List.length_map]; unfold LINE; omega) rfl) ?_
      rw [List.map_append] at g1
      exact g1
theorem s_mixed (k : Nat) (p : Ph) {n a b : Nat} {bx : List D} (hb : Box n bx) (hn : n + (a + b) < 2 ^ 30) (hab : a + b < 900) : ∃ (m : List Bool) (bx' : List D), runF tb (k+2) "_law_mixed" [.io bx, .d (.list (AL p 0 a)), .d (.list (BL p 0 b))] = .ok (.v (runD (sM p 0 0 m))) [bx'] ∧ c0 m = a ∧ c1 m = b ∧ Box (n + (a + b)) bx' := by
  obtain ⟨m, bx', t3, t5, g1, g2, g3, g4⟩ := mix_loop k p (List.range (a + b)) a b 0 0 [] n bx .no .no (List.length_range ..) hb hn (by rw [List.length_nil]; omega) rfl rfl
  refine ⟨m, bx', ?_, g2, g3, g4⟩
  have src : ev (runF tb (k+1)) (.sR1 (.bin .Add (.prim .len (.cons (.var 1) .nil)) (.prim .len (.cons (.var 2) .nil)))) [.own true bx, .own false (AL p 0 a), .own false (BL p 0 b), .no, .own false [], .no] = .ok (.ds ((List.range (a + b)).map fun i : Nat => PyData.int (0 + (i : Nat)))) [.own true bx, .own false (AL p 0 a), .own false (BL p 0 b), .no, .own false [], .no] :=
    sR1_ok (V_bin (V_prim1b rfl (p_len_l _)) (V_prim1b rfl (p_len_l _)) (by rw [b_add, AL_len, BL_len, ← Int.natCast_add])) (by omega)
  have body : ev (runF tb (k+1)) f_law_mixed.body [.own true bx, .val (.list (AL p 0 a)), .val (.list (BL p 0 b)), .no, .no, .no] = .ok (.fl (.ret (.v (runD (sM p 0 0 m))))) [.own true bx', .own false [], .own false [], t3, .own false ((sM p 0 0 m).map encS), t5] :=
    seq_nx (par3_o (O_lst (ds := []) Vs_nil (Nat.zero_le _)) (O_lstV rfl) (O_lstV rfl) rfl rfl rfl) (seq_nx (for_ok src g1) (seq_ret (ret_v (V_tupb (i := 4) rfl))))
  exact fin_b (u_law_mixed _ _) body
end L2.Mp
set_option Elab.async false
set_option linter.all false
set_option maxRecDepth 100000
set_option maxHeartbeats 0
namespace L2.Mp
open PySem PySem.Spec PyProof.Rows L2
section
variable {cf : CF} {e : Fm}
theorem asg_tv {tg x : T} {d : D} {e2 : Fm} (h : V cf e x d) (hb : bindT (.tT tg) d e = some e2) : ev cf (.asg (.tT tg) x) e = .ok (.fl .nx) e2 := by
  show (ev cf x e).rv _ = _
  rw [h]
  show (match bindT (.tT tg) d e with
      | some e3 => R.ok (Val.fl .nx) e3
      | none => .bad) = _
  rw [hb]
theorem same_ib {i : Nat} {x : T} {ds : List D} (h3 : e[i]? = some (.own false ds)) (hx : O cf e x ds) (hs : cf "_law_same" [.d (.list ds), .d (.list ds)] = .ok (.v (.bool true)) []) : ev cf (.ifS (.notT (.call "_law_same" [false, false] (.cons (.var i) (.cons x .nil)))) (.seq (.ret (.const (.bool false))) .done) .done) e = .ok (.fl .nx) e := by
  unfold O at hx
  simp only [ev, R.rv, R.rvs, R.dsk, R.bnd, testR, partR, rd, rds, fz, fzs, nrm, optR, keepS, storable, tru, isD, tyN, Ty.sub, List.any_cons, List.any_nil, List.all_cons, List.all_nil, doCall, mkArgs, lent, isOwnS, noDup, putOuts, argsFit, endF, outsF, startF, bindT, bindTs, List.getElem?_cons_zero, List.getElem?_cons_succ, List.getElem?_nil, List.map_cons, List.map_nil, List.length_cons, List.length_nil, List.replicate, List.cons_append, List.nil_append, List.set_cons_zero, List.set_cons_succ, Option.bind, Option.map, Bool.and_true, Bool.true_and, Bool.and_false, Bool.false_and, Bool.or_true, Bool.true_or, Bool.or_false, Bool.false_or, Bool.not_true, Bool.not_false, Bool.not_not, if_true, if_false, Bool.false_eq_true, reduceIte, reduceCtorEq, decide_true, decide_false, List.isEmpty_nil, List.isEmpty_cons, beq_self_eq_true, Nat.reduceAdd, Nat.reduceSub, Nat.reduceLeDiff, Nat.reduceLT, List.contains_nil, it_l, it_t, it_r, ty_r, b_add, b_sub, b_mul, b_mod, b_fdiv, b_addt, b_addl, b_pow3, b_pow6, b_pow12, b_pow18, i_t, i_l, i_r, sl_t, sl_l, p_len_l, p_len_t, p_len_r, p_abs, p_int, p_intB, p_tup_l, p_tup_t, p_lst_l, p_lst_t, p_sum_l, p_sum_t, p_sum_r, p_all, p_any, p_max2, p_min2, isNon, nolistR, nolist, and_self, and_true, true_and, h3, hx, hs]
theorem call_io3 {f : Str} {i j l : Nat} {bx bx' xs ys : List D} {r : D} {io io2 io3 : Bool} (h0 : e[i]? = some (.own io bx)) (h1 : e[j]? = some (.own io2 xs)) (h2 : e[l]? = some (.own io3 ys)) (hj : j ≠ i) (hl : l ≠ i) (h : cf f [.io bx, .d (.list xs), .d (.list ys)] = .ok (.v r) [bx']) (nr : nolist r = true) (nb : nolists bx' = true) : ev cf (.call f [true, false, false] (.cons (.var i) (.cons (.var j) (.cons (.var l) .nil)))) e = .ok (.rv (.v r)) (e.set i (.own io bx')) := by
  have e1 : (i == j) = false := by simpa using Ne.symm hj
  have e2 : (i == l) = false := by simpa using Ne.symm hl
  have e3 : (j == i) = false := by simpa using hj
  have e4 : (l == i) = false := by simpa using hl
  simp only [ev, R.rv, R.rvs, R.dsk, R.bnd, testR, partR, rd, rds, fz, fzs, nrm, optR, keepS, storable, tru, isD, tyN, Ty.sub, List.any_cons, List.any_nil, List.all_cons, List.all_nil, doCall, mkArgs, lent, isOwnS, noDup, putOuts, argsFit, endF, outsF, startF, bindT, bindTs, List.getElem?_cons_zero, List.getElem?_cons_succ, List.getElem?_nil, List.map_cons, List.map_nil, List.length_cons, List.length_nil, List.replicate, List.cons_append, List.nil_append, List.set_cons_zero, List.set_cons_succ, Option.bind, Option.map, Bool.and_true, Bool.true_and, Bool.and_false, Bool.false_and, Bool.or_true, Bool.true_or, Bool.or_false, Bool.false_or, Bool.not_true, Bool.not_false, Bool.not_not, if_true, if_false, Bool.false_eq_true, reduceIte, reduceCtorEq, decide_true, decide_false, List.isEmpty_nil, List.isEmpty_cons, beq_self_eq_true, Nat.reduceAdd, Nat.reduceSub, Nat.reduceLeDiff, Nat.reduceLT, List.contains_nil, it_l, it_t, it_r, ty_r, b_add, b_sub, b_mul, b_mod, b_fdiv, b_addt, b_addl, b_pow3, b_pow6, b_pow12, b_pow18, i_t, i_l, i_r, sl_t, sl_l, p_len_l, p_len_t, p_len_r, p_abs, p_int, p_intB, p_tup_l, p_tup_t, p_lst_l, p_lst_t, p_sum_l, p_sum_t, p_sum_r, p_all, p_any, p_max2, p_min2, isNon, nolistR, nolist, and_self, and_true, true_and, h0, h1, h2, h, nr, nb, nolists, e1, e2, e3, e4, List.contains_cons]
theorem V_slH {i : Nat} {a b : T} {xs : List D} {h : Int} (h0 : e[i]? = some (.val (.tuple xs))) (h1 : V cf e (.idx a b) (.int h)) : V cf e (.slc (.var i) .absent (.idx a b)) (.tuple (cut xs none (some h))) := by
  have hp : partR (ev cf (.idx a b) e) = .ok (some h) e := by rw [h1]; rfl
  show (ev cf (.var i) e).rv (fun ra e1 => (R.ok (none : Option Int) e1).bnd fun i e2 => (partR (ev cf (.idx a b) e2)).bnd fun j e3 => (match rd ra e3 with
    | some x => optR (slcD x i j) e3
    | none => .bad)) = _
  rw [V_var h0]
  show (partR (ev cf (.idx a b) e)).bnd (fun j e2 => optR (slcD (.tuple xs) none j) e2) = _
  rw [hp]
  rfl
theorem V_slB {i : Nat} {a b x y : T} {op : Operator} {xs : List D} {l h : Int} (h0 : e[i]? = some (.val (.tuple xs))) (h1 : V cf e (.idx a b) (.int l)) (h2 : V cf e (.bin op x y) (.int h)) : V cf e (.slc (.var i) (.idx a b) (.bin op x y)) (.tuple (cut xs (some l) (some h))) := by
  have hp : partR (ev cf (.idx a b) e) = .ok (some l) e := by rw [h1]; rfl
  have hq : partR (ev cf (.bin op x y) e) = .ok (some h) e := by rw [h2]; rfl
  show (ev cf (.var i) e).rv (fun ra e1 => (partR (ev cf (.idx a b) e1)).bnd fun i e2 => (partR (ev cf (.bin op x y) e2)).bnd fun j e3 => (match rd ra e3 with
    | some x => optR (slcD x i j) e3
    | none => .bad)) = _
  rw [V_var h0]
  show (partR (ev cf (.idx a b) e)).bnd (fun i e2 => (partR (ev cf (.bin op x y) e2)).bnd fun j e3 => optR (slcD (.tuple xs) i j) e3) = _
  rw [hp]
  show (partR (ev cf (.bin op x y) e)).bnd (fun j e3 => optR (slcD (.tuple xs) (some l) j) e3) = _
  rw [hq]
  rfl
theorem evC_and {a b : T} {x : Bool} (h : V cf e (.and a b) (.bool x)) : evC' cf (.and a b) e = .ok x e := by
  show testR (ev cf (.and a b) e) = _
  rw [h]
  rfl
end
theorem cut_mid {α : Type} (xs : List α) (i j : Nat) (h : i ≤ j) (h' : j ≤ xs.length) : cut xs (some (i : Int)) (some (j : Int)) = (xs.drop i).take (j - i) := by
  unfold cut
  rw [HT.sIx_nat, HT.sIx_nat, Nat.min_eq_left h', Nat.min_eq_left (show i ≤ xs.length by omega)]
theorem rep0 (m : Nat) : (List.replicate m [PyData.int 0]).flatten = (List.replicate m (0 : Int)).map .int := by
  induction m with
  | zero => rfl
  | succ m ih =>
    rw [List.replicate_succ, List.flatten_cons, ih, List.replicate_succ]
    rfl
/-! ### by parts -/
def FM (q : List Int) (ss : List Stp) : List Stp := ss.filter fun s => decide (s.1 = q)
theorem pl_inj (dp : Nat) (a b : List Int) : pl dp a = pl dp b ↔ a = b := by
  unfold pl
  constructor
  · exact List.append_cancel_left
  · rintro rfl
    rfl
theorem FM_pre (dp : Nat) (q : List Int) (ss : List Stp) : FM (pl dp q) (preN dp ss) = preN dp (FM q ss) := by
  rw [preN_eq, preN_eq]
  unfold FM
  rw [List.filter_map]
  congr 1
  refine List.filter_congr fun s _ => ?_
  exact decide_eq_decide.mpr (pl_inj dp s.1 q)
theorem FM0 (p : Ph) : ∀ (m : List Bool) (i j : Nat), FM [] (sM p i j m) = []
  | [], _, _ => rfl
  | false :: m, i, j => FM0 p m (i + 1) j
  | true :: m, i, j => FM0 p m i (j + 1)
theorem FM1 (p : Ph) : ∀ (m : List Bool) (i j : Nat), FM [0] (sM p i j m) = (lr0 p i (c0 m)).map (pre 0)
  | [], _, _ => rfl
  | false :: m, i, j => by
    have e : c0 (false :: m) = c0 m + 1 := by simp [c0]
    rw [e]
    exact congrArg (([0], ((ba0 p + i % sz0 p : Nat) : Int)) :: ·) (FM1 p m (i + 1) j)
  | true :: m, i, j => by
    have e : c0 (true :: m) = c0 m := by simp [c0]
    rw [e]
    exact FM1 p m i (j + 1)
theorem FM2 (p : Ph) : ∀ (m : List Bool) (i j : Nat), FM [1] (sM p i j m) = (lr1 p j (c1 m)).map (pre 1)
  | [], _, _ => rfl
  | false :: m, i, j => by
    have e : c1 (false :: m) = c1 m := by simp [c1]
    rw [e]
    exact FM2 p m (i + 1) j
  | true :: m, i, j => by
    have e : c1 (true :: m) = c1 m + 1 := by simp [c1]
    rw [e]
    exact congrArg (([1], ((ba1 p + j % sz1 p : Nat) : Int)) :: ·) (FM2 p m i (j + 1))
def Fp (dp : Nat) (P : List Stp) : List Stp := FM (pl dp []) P ++ (FM (pl dp [0]) P ++ FM (pl dp [1]) P)
theorem Fp_M (p : Ph) (dp : Nat) (m : List Bool) (i j : Nat) : Fp dp (preN dp (sM p i j m)) = preN dp (sM p i j (srt (c0 m) (c1 m))) := by
  unfold Fp
  rw [FM_pre, FM_pre, FM_pre, ← preN_app, ← preN_app, FM0, FM1, FM2, sM_srt, List.append_nil, List.nil_append]
theorem Fp_w (dp : Nat) (m : Int) : Fp dp (preN dp [([], m)]) = preN dp [([], m)] := by
  unfold Fp
  rw [FM_pre, FM_pre, FM_pre]
  have e1 : FM [] [(([] : List Int), m)] = [([], m)] := rfl
  have e2 : FM [0] [(([] : List Int), m)] = [] := rfl
  have e3 : FM [1] [(([] : List Int), m)] = [] := rfl
  rw [e1, e2, e3, ← preN_app, ← preN_app]
  rfl
/-! ### the law, statement by statement -/
/-- the kinds of runs, not yet beneath g: by parts, too -/
inductive Kd : Bool → D → D → List (List Stp) → List (List Stp) → Prop
  | m (m : List Bool) (h : m.length ≤ 60) : Kd false (fz0 .p1 0 0) (fz0 .p1 (c0 m) (c1 m)) [sM .p1 0 0 m] [sM .p1 0 0 (srt (c0 m) (c1 m))]
  | w (m1 m2 : List Bool) (h1 : c0 m1 % 2 = 1) (h2 : c1 m1 % 2 = 1) (h : m1.length + m2.length ≤ 58) : Kd true (fz0 .p2 0 0) (fz0 .p3 (c0 m2) (c1 m2)) [sM .p2 0 0 m1, [([], 4)], sM .p3 0 0 m2] [sM .p2 0 0 (srt (c0 m1) (c1 m1)), [([], 4)], sM .p3 0 0 (srt (c0 m2) (c1 m2))]
def ph (w : Bool) : Ph := if w = true then .p2 else .p1
theorem kd_tl {w : Bool} {t u : D} {P P' : List (List Stp)} (h : Kd w t u P P') {dp : Nat} (hd : dp < 3) : ∃ d N, N ≤ 100 ∧ TL (ph w) (gT dp t) (gT dp u) (preN dp P.flatten) (preN dp P'.flatten) d N := by
  cases h with
  | m m h =>
    obtain ⟨d, q⟩ := tl_M hd m h
    refine ⟨d, 80, by omega, ?_⟩
    rw [List.flatten_cons, List.flatten_cons, List.flatten_nil, List.append_nil, List.append_nil]
    exact q
  | w m1 m2 h1 h2 h =>
    obtain ⟨d, q⟩ := tl_W hd m1 m2 h1 h2 h
    refine ⟨d, 100, by omega, ?_⟩
    simp only [List.flatten_cons, List.flatten_nil, List.append_nil]
    exact q
theorem kd_parts {w : Bool} {t u : D} {P P' : List (List Stp)} (h : Kd w t u P P') (dp : Nat) : P.map (fun x => Fp dp (preN dp x)) = P'.map (preN dp) := by
  cases h with
  | m m h => simp only [List.map_cons, List.map_nil, Fp_M]
  | w m1 m2 h1 h2 h => simp only [List.map_cons, List.map_nil, Fp_M, Fp_w]
theorem kd_len {w : Bool} {t u : D} {P P' : List (List Stp)} (h : Kd w t u P P') : P.flatten.length ≤ 60 ∧ ∀ s ∈ P.flatten, s.1.length ≤ 1 := by
  cases h with
  | m m h =>
    simp only [List.flatten_cons, List.flatten_nil, List.append_nil]
    refine ⟨by rw [sM_len]; exact h, fun s hs => by have := (sM_ne _ _ _ _ s hs).1; omega⟩
  | w m1 m2 h1 h2 h =>
    simp only [List.flatten_cons, List.flatten_nil, List.append_nil]
    refine ⟨by rw [List.length_append, List.length_append, sM_len, sM_len, List.length_singleton]; omega, fun s hs => ?_⟩
    rcases List.mem_append.mp hs with hs | hs
    · have := (sM_ne _ _ _ _ s hs).1
      omega
    · rcases List.mem_append.mp hs with hs | hs
      · rw [List.mem_singleton.mp hs]
        exact Nat.zero_le _
      · have := (sM_ne _ _ _ _ s hs).1
        omega
section
variable (k : Nat) {bx : List D}
variable {s0 s1 s2 s3 s4 s5 s6 s7 s8 s9 s10 s11 s12 s13 s14 s15 s16 s17 s18 s19 s20 s21 s22 s23 s24 s25 s26 s27 s28 s29 s30 s31 s32 s33 : Slot}
theorem y0 : ev (runF tb (k+120)) s_law_right_0 ((.own true bx : Slot) :: (.no : Slot) :: (.no : Slot) :: (.no : Slot) :: (.no : Slot) :: (.no : Slot) :: (.no : Slot) :: (.no : Slot) :: (.no : Slot) :: (.no : Slot) :: (.no : Slot) :: (.no : Slot) :: (.no : Slot) :: (.no : Slot) :: (.no : Slot) :: (.no : Slot) :: (.no : Slot) :: (.no : Slot) :: (.no : Slot) :: (.no : Slot) :: (.no : Slot) :: (.no : Slot) :: (.no : Slot) :: (.no : Slot) :: (.no : Slot) :: (.no : Slot) :: (.no : Slot) :: (.no : Slot) :: (.no : Slot) :: (.no : Slot) :: (.no : Slot) :: (.no : Slot) :: (.no : Slot) :: (.no : Slot) :: ([] : Fm)) = .ok (.fl .nx) ((.own true bx : Slot) :: (.no : Slot) :: (.no : Slot) :: (.no : Slot) :: (.no : Slot) :: (.no : Slot) :: (.no : Slot) :: (.no : Slot) :: (.no : Slot) :: (.no : Slot) :: (.no : Slot) :: (.no : Slot) :: (.no : Slot) :: (.no : Slot) :: (.no : Slot) :: (.val (nm "a") : Slot) :: (.val (nm "b") : Slot) :: (.val (nm "c") : Slot) :: (.val (nm "d") : Slot) :: (.no : Slot) :: (.no : Slot) :: (.no : Slot) :: (.no : Slot) :: (.no : Slot) :: (.no : Slot) :: (.no : Slot) :: (.no : Slot) :: (.no : Slot) :: (.no : Slot) :: (.no : Slot) :: (.no : Slot) :: (.no : Slot) :: (.no : Slot) :: (.no : Slot) :: ([] : Fm)) :=
  asg_tv (d := .tuple [nm "a", nm "b", nm "c", nm "d"]) rfl rfl
theorem y1 {n : Nat} (hb : Box n bx) (hn : n < 2 ^ 30) : ∃ (w : Bool) (bx' : List D), ev (runF tb (k+120)) s_law_right_1 ((.own true bx : Slot) :: (.no : Slot) :: (.no : Slot) :: (.no : Slot) :: (.no : Slot) :: (.no : Slot) :: (.no : Slot) :: (.no : Slot) :: (.no : Slot) :: (.no : Slot) :: (.no : Slot) :: (.no : Slot) :: (.no : Slot) :: (.no : Slot) :: (.no : Slot) :: (.val (nm "a") : Slot) :: (.val (nm "b") : Slot) :: (.val (nm "c") : Slot) :: (.val (nm "d") : Slot) :: (.no : Slot) :: (.no : Slot) :: (.no : Slot) :: (.no : Slot) :: (.no : Slot) :: (.no : Slot) :: (.no : Slot) :: (.no : Slot) :: (.no : Slot) :: (.no : Slot) :: (.no : Slot) :: (.no : Slot) :: (.no : Slot) :: (.no : Slot) :: (.no : Slot) :: ([] : Fm)) = .ok (.fl .nx) ((.own true bx' : Slot) :: (.val (bk (ph w)) : Slot) :: (.no : Slot) :: (.no : Slot) :: (.no : Slot) :: (.no : Slot) :: (.no : Slot) :: (.no : Slot) :: (.no : Slot) :: (.no : Slot) :: (.no : Slot) :: (.no : Slot) :: (.no : Slot) :: (.no : Slot) :: (.no : Slot) :: (.val (nm "a") : Slot) :: (.val (nm "b") : Slot) :: (.val (nm "c") : Slot) :: (.val (nm "d") : Slot) :: (.no : Slot) :: (.no : Slot) :: (.no : Slot) :: (.no : Slot) :: (.no : Slot) :: (.no : Slot) :: (.no : Slot) :: (.no : Slot) :: (.no : Slot) :: (.no : Slot) :: (.no : Slot) :: (.no : Slot) :: (.no : Slot) :: (.no : Slot) :: (.no : Slot) :: ([] : Fm)) ∧ Box (n + 1) bx' := by
  obtain ⟨r, b1, p1, p2, p3, p4⟩ := s_take (k+119) hb hn (z := 2) (by omega) (by omega)
  have c := cmp_e (op := .Eq) (call_io (cf := runF tb (k+120)) (e := ((.own true bx : Slot) :: (.no : Slot) :: (.no : Slot) :: (.no : Slot) :: (.no : Slot) :: (.no : Slot) :: (.no : Slot) :: (.no : Slot) :: (.no : Slot) :: (.no : Slot) :: (.no : Slot) :: (.no : Slot) :: (.no : Slot) :: (.no : Slot) :: (.no : Slot) :: (.val (nm "a") : Slot) :: (.val (nm "b") : Slot) :: (.val (nm "c") : Slot) :: (.val (nm "d") : Slot) :: (.no : Slot) :: (.no : Slot) :: (.no : Slot) :: (.no : Slot) :: (.no : Slot) :: (.no : Slot) :: (.no : Slot) :: (.no : Slot) :: (.no : Slot) :: (.no : Slot) :: (.no : Slot) :: (.no : Slot) :: (.no : Slot) :: (.no : Slot) :: (.no : Slot) :: ([] : Fm))) (i := 0) (x := .const (.int 2)) (io := true) rfl (V_c _) p1) (V_c (.int 0)) (c_eq _ _)
  by_cases q : r = 0
  · rw [decide_eq_true q] at c
    exact ⟨false, b1, asg_v (i := 1) (e1 := ((.own true b1 : Slot) :: (.no : Slot) :: (.no : Slot) :: (.no : Slot) :: (.no : Slot) :: (.no : Slot) :: (.no : Slot) :: (.no : Slot) :: (.no : Slot) :: (.no : Slot) :: (.no : Slot) :: (.no : Slot) :: (.no : Slot) :: (.no : Slot) :: (.no : Slot) :: (.val (nm "a") : Slot) :: (.val (nm "b") : Slot) :: (.val (nm "c") : Slot) :: (.val (nm "d") : Slot) :: (.no : Slot) :: (.no : Slot) :: (.no : Slot) :: (.no : Slot) :: (.no : Slot) :: (.no : Slot) :: (.no : Slot) :: (.no : Slot) :: (.no : Slot) :: (.no : Slot) :: (.no : Slot) :: (.no : Slot) :: (.no : Slot) :: (.no : Slot) :: (.no : Slot) :: ([] : Fm))) (d := bk .p1) (ite_r (x := true) c (fun _ => (rfl : ev (runF tb (k+120)) _ _ = .ok (.rv (.v (bk .p1))) _)) (fun z => nomatch z)) rfl, p4⟩
  · rw [decide_eq_false q] at c
    exact ⟨true, b1, asg_v (i := 1) (e1 := ((.own true b1 : Slot) :: (.no : Slot) :: (.no : Slot) :: (.no : Slot) :: (.no : Slot) :: (.no : Slot) :: (.no : Slot) :: (.no : Slot) :: (.no : Slot) :: (.no : Slot) :: (.no : Slot) :: (.no : Slot) :: (.no : Slot) :: (.no : Slot) :: (.no : Slot) :: (.val (nm "a") : Slot) :: (.val (nm "b") : Slot) :: (.val (nm "c") : Slot) :: (.val (nm "d") : Slot) :: (.no : Slot) :: (.no : Slot) :: (.no : Slot) :: (.no : Slot) :: (.no : Slot) :: (.no : Slot) :: (.no : Slot) :: (.no : Slot) :: (.no : Slot) :: (.no : Slot) :: (.no : Slot) :: (.no : Slot) :: (.no : Slot) :: (.no : Slot) :: (.no : Slot) :: ([] : Fm))) (d := bk .p2) (ite_r (x := false) c (fun z => nomatch z) (fun _ => (rfl : ev (runF tb (k+120)) _ _ = .ok (.rv (.v (bk .p2))) _))) rfl, p4⟩
theorem y2 (w : Bool) : ev (runF tb (k+120)) s_law_right_2 ((.own true bx : Slot) :: (.val (bk (ph w)) : Slot) :: (.no : Slot) :: (.no : Slot) :: (.no : Slot) :: (.no : Slot) :: (.no : Slot) :: (.no : Slot) :: (.no : Slot) :: (.no : Slot) :: (.no : Slot) :: (.no : Slot) :: (.no : Slot) :: (.no : Slot) :: (.no : Slot) :: (.val (nm "a") : Slot) :: (.val (nm "b") : Slot) :: (.val (nm "c") : Slot) :: (.val (nm "d") : Slot) :: (.no : Slot) :: (.no : Slot) :: (.no : Slot) :: (.no : Slot) :: (.no : Slot) :: (.no : Slot) :: (.no : Slot) :: (.no : Slot) :: (.no : Slot) :: (.no : Slot) :: (.no : Slot) :: (.no : Slot) :: (.no : Slot) :: (.no : Slot) :: (.no : Slot) :: ([] : Fm)) = .ok (.fl .nx) ((.own true bx : Slot) :: (.val (bk (ph w)) : Slot) :: (.val (.bool w) : Slot) :: (.no : Slot) :: (.no : Slot) :: (.no : Slot) :: (.no : Slot) :: (.no : Slot) :: (.no : Slot) :: (.no : Slot) :: (.no : Slot) :: (.no : Slot) :: (.no : Slot) :: (.no : Slot) :: (.no : Slot) :: (.val (nm "a") : Slot) :: (.val (nm "b") : Slot) :: (.val (nm "c") : Slot) :: (.val (nm "d") : Slot) :: (.no : Slot) :: (.no : Slot) :: (.no : Slot) :: (.no : Slot) :: (.no : Slot) :: (.no : Slot) :: (.no : Slot) :: (.no : Slot) :: (.no : Slot) :: (.no : Slot) :: (.no : Slot) :: (.no : Slot) :: (.no : Slot) :: (.no : Slot) :: (.no : Slot) :: ([] : Fm)) := by
  cases w with
  | false => exact asg_v (V_cmp (V_prim (Vs_cons (V_idx (V_idx (V_var rfl) (V_c _) rfl) (V_c _) rfl) Vs_nil) rfl) (V_c _) (by rfl)) rfl
  | true => exact asg_v (V_cmp (V_prim (Vs_cons (V_idx (V_idx (V_var rfl) (V_c _) rfl) (V_c _) rfl) Vs_nil) rfl) (V_c _) (by rfl)) rfl
theorem y3 {n : Nat} (hb : Box n bx) (hn : n < 2 ^ 30) (w : Bool) : ∃ (dp : Nat) (bx' : List D), ev (runF tb (k+120)) s_law_right_3 ((.own true bx : Slot) :: (.val (bk (ph w)) : Slot) :: (.val (.bool w) : Slot) :: (.no : Slot) :: (.no : Slot) :: (.no : Slot) :: (.no : Slot) :: (.no : Slot) :: (.no : Slot) :: (.no : Slot) :: (.no : Slot) :: (.no : Slot) :: (.no : Slot) :: (.no : Slot) :: (.no : Slot) :: (.val (nm "a") : Slot) :: (.val (nm "b") : Slot) :: (.val (nm "c") : Slot) :: (.val (nm "d") : Slot) :: (.no : Slot) :: (.no : Slot) :: (.no : Slot) :: (.no : Slot) :: (.no : Slot) :: (.no : Slot) :: (.no : Slot) :: (.no : Slot) :: (.no : Slot) :: (.no : Slot) :: (.no : Slot) :: (.no : Slot) :: (.no : Slot) :: (.no : Slot) :: (.no : Slot) :: ([] : Fm)) = .ok (.fl .nx) ((.own true bx' : Slot) :: (.val (bk (ph w)) : Slot) :: (.val (.bool w) : Slot) :: (.val (.int (dp : Nat)) : Slot) :: (.no : Slot) :: (.no : Slot) :: (.no : Slot) :: (.no : Slot) :: (.no : Slot) :: (.no : Slot) :: (.no : Slot) :: (.no : Slot) :: (.no : Slot) :: (.no : Slot) :: (.no : Slot) :: (.val (nm "a") : Slot) :: (.val (nm "b") : Slot) :: (.val (nm "c") : Slot) :: (.val (nm "d") : Slot) :: (.no : Slot) :: (.no : Slot) :: (.no : Slot) :: (.no : Slot) :: (.no : Slot) :: (.no : Slot) :: (.no : Slot) :: (.no : Slot) :: (.no : Slot) :: (.no : Slot) :: (.no : Slot) :: (.no : Slot) :: (.no : Slot) :: (.no : Slot) :: (.no : Slot) :: ([] : Fm)) ∧ dp < 3 ∧ Box (n + 1) bx' := by
  obtain ⟨r, b1, p1, p2, p3, p4⟩ := s_take (k+119) hb hn (z := 3) (by omega) (by omega)
  obtain ⟨r, rfl⟩ := Int.eq_ofNat_of_zero_le p2
  exact ⟨r, b1, asg_v (call_io rfl (V_c _) p1) rfl, by omega, p4⟩
theorem nl_runD (ss : List Stp) : nolist (runD ss) = true := nl_run ss
/-- the numbers of a ring -/
theorem ring {cf : CF} {e : Fm} {a b : T} (c s : Nat) {i : Nat} (hs : 0 < s) (hs2 : s < 100) (ha : V cf e a (.int ((c + i : Nat) : Int))) (hb : V cf e b (.int ((i : Nat) : Int))) : V cf e (.bin .Sub a (.bin .Mult (.bin .FloorDiv b (.const (.int ((s : Nat) : Int)))) (.const (.int ((s : Nat) : Int))))) (.int ((c + i % s : Nat) : Int)) := by
  have f1 : binD .FloorDiv (.int ((i : Nat) : Int)) (.int ((s : Nat) : Int)) = some (.v (.int ((i / s : Nat) : Int))) := by
    rw [b_fdiv, if_pos (log_ok (by omega) (by omega))]
    rfl
  have f2 : binD .Mult (.int ((i / s : Nat) : Int)) (.int ((s : Nat) : Int)) = some (.v (.int ((i / s * s : Nat) : Int))) := by
    rw [b_mul, if_pos (mul_ok2 (by omega))]
    rfl
  refine V_bin ha (V_bin (V_bin hb (V_c _) f1) (V_c _) f2) ?_
  rw [b_sub]
  have h := Nat.div_add_mod i s
  rw [Nat.mul_comm] at h
  exact congrArg (fun z => some (RV.v (PyData.int z))) (by omega)
theorem lr0_at (p : Ph) : ∀ (n i : Nat), lr0 p i n = (List.range n).map fun t => (([] : List Int), ((ba0 p + (i + t) % sz0 p : Nat) : Int))
  | 0, _ => rfl
  | n + 1, i => by
    rw [List.range_succ_eq_map, List.map_cons, List.map_map]
    show _ :: lr0 p (i + 1) n = _
    rw [lr0_at p n (i + 1)]
    congr 1
    refine List.map_congr_left fun t _ => ?_
    show (([] : List Int), ((ba0 p + (i + 1 + t) % sz0 p : Nat) : Int)) = (([] : List Int), ((ba0 p + (i + (t + 1)) % sz0 p : Nat) : Int))
    rw [show i + 1 + t = i + (t + 1) by omega]
theorem lr1_at (p : Ph) : ∀ (n i : Nat), lr1 p i n = (List.range n).map fun t => (([] : List Int), ((ba1 p + (i + t) % sz1 p : Nat) : Int))
  | 0, _ => rfl
  | n + 1, i => by
    rw [List.range_succ_eq_map, List.map_cons, List.map_map]
    show _ :: lr1 p (i + 1) n = _
    rw [lr1_at p n (i + 1)]
    congr 1
    refine List.map_congr_left fun t _ => ?_
    show (([] : List Int), ((ba1 p + (i + 1 + t) % sz1 p : Nat) : Int)) = (([] : List Int), ((ba1 p + (i + (t + 1)) % sz1 p : Nat) : Int))
    rw [show i + 1 + t = i + (t + 1) by omega]
theorem AL_at (p : Ph) (n : Nat) : ((List.range n).map fun t => encS ([0], ((ba0 p + t % sz0 p : Nat) : Int))) = AL p 0 n := by
  unfold AL
  rw [lr0_at, List.map_map, List.map_map]
  refine List.map_congr_left fun t _ => ?_
  show _ = encS ([0], ((ba0 p + (0 + t) % sz0 p : Nat) : Int))
  rw [Nat.zero_add]
theorem BL_at (p : Ph) (n : Nat) : ((List.range n).map fun t => encS ([1], ((ba1 p + t % sz1 p : Nat) : Int))) = BL p 0 n := by
  unfold BL
  rw [lr1_at, List.map_map, List.map_map]
  refine List.map_congr_left fun t _ => ?_
  show _ = encS ([1], ((ba1 p + (0 + t) % sz1 p : Nat) : Int))
  rw [Nat.zero_add]
/-- [((x,), number of a ring) for k in range(n)] -/
theorem ring_ok {cf : CF} {e : Fm} {a : T} {n j : Nat} (q : Int) (c s : Nat) (hs : 0 < s) (hs2 : s < 100) (hn : n ≤ 1000) (h : e[j]? = some (.val (.int (n : Nat)))) (ho : ([24] : List Nat).any (fun l => isOwnS e[l]?) = false)
    (he : ∀ i : Nat, ∃ e3, bindT (.tN 24) (.int (0 + (i : Nat))) (wipeS [24] e) = some e3 ∧ wipeS [24] e3 = wipeS [24] e ∧ V cf e3 a (.int ((c + i : Nat) : Int)) ∧ V cf e3 (.var 24) (.int ((i : Nat) : Int))) :
    O cf e (.comp (.tup (.cons (.tup (.cons (.const (.int q)) .nil)) (.cons (.bin .Sub a (.bin .Mult (.bin .FloorDiv (.var 24) (.const (.int ((s : Nat) : Int)))) (.const (.int ((s : Nat) : Int))))) .nil))) (.tN 24) (.sR1 (.var j)) .absent [24]) ((List.range n).map fun t => encS ([q], ((c + t % s : Nat) : Int))) :=
  comp_map (cf := cf) (own := [24]) (tg := .tN 24) (e1 := e) (fun i : Nat => PyData.int (0 + (i : Nat))) (fun t => encS ([q], ((c + t % s : Nat) : Int))) (sR1_ok (n := n) (V_var h) (by omega)) (by rw [List.length_range]; unfold LINE; omega) ho fun i _ => by
    obtain ⟨e3, h1, h2, h3, h4⟩ := he i
    exact ⟨e3, .v _, h1, h2, V_tup (Vs_cons (V_tup (Vs_cons (V_c _) Vs_nil) one_line) (Vs_cons (ring c s hs hs2 h3 h4) Vs_nil)) two_line, rfl⟩
end
end L2.Mp
set_option Elab.async false
set_option linter.all false
set_option maxRecDepth 100000
set_option maxHeartbeats 0
namespace L2.Mp
open PySem PySem.Spec PyProof.Rows L2
section
variable (k : Nat) {bx : List D}
variable {s0 s1 s2 s3 s4 s5 s6 s7 s8 s9 s10 s11 s12 s13 s14 s15 s16 s17 s18 s19 s20 s21 s22 s23 s24 s25 s26 s27 s28 s29 s30 s31 s32 s33 : Slot}
theorem three_line : (3 : Nat) ≤ LINE := by unfold LINE; omega
theorem V_int0 {cf : CF} {e : Fm} {x : T} {i : Nat} (h : V cf e x (.int (i : Nat))) : V cf e x (.int ((0 + i : Nat) : Int)) := by
  rw [Nat.zero_add]
  exact h
theorem V_24 {cf : CF} (i : Nat) : V cf ((s0) :: (s1) :: (s2) :: (s3) :: (s4) :: (s5) :: (s6) :: (s7) :: (s8) :: (s9) :: (s10) :: (s11) :: (s12) :: (s13) :: (s14) :: (s15) :: (s16) :: (s17) :: (s18) :: (s19) :: (s20) :: (s21) :: (s22) :: (s23) :: (.val (.int (0 + (i : Nat))) : Slot) :: (s25) :: (s26) :: (s27) :: (s28) :: (s29) :: (s30) :: (s31) :: (s32) :: (s33) :: ([] : Fm)) (.var 24) (.int ((i : Nat) : Int)) := by
  refine V_var (d := .int ((i : Nat) : Int)) ?_
  exact congrArg (fun z => some (Slot.val (.int z))) (Int.zero_add _)
theorem rg0 {cf : CF} {n j : Nat} (q : Int) (s : Nat) (hs : 0 < s) (hs2 : s < 100) (hn : n ≤ 1000) (h : ((s0) :: (s1) :: (s2) :: (s3) :: (s4) :: (s5) :: (s6) :: (s7) :: (s8) :: (s9) :: (s10) :: (s11) :: (s12) :: (s13) :: (s14) :: (s15) :: (s16) :: (s17) :: (s18) :: (s19) :: (s20) :: (s21) :: (s22) :: (s23) :: (.no : Slot) :: (s25) :: (s26) :: (s27) :: (s28) :: (s29) :: (s30) :: (s31) :: (s32) :: (s33) :: ([] : Fm))[j]? = some (.val (.int (n : Nat)))) : O cf ((s0) :: (s1) :: (s2) :: (s3) :: (s4) :: (s5) :: (s6) :: (s7) :: (s8) :: (s9) :: (s10) :: (s11) :: (s12) :: (s13) :: (s14) :: (s15) :: (s16) :: (s17) :: (s18) :: (s19) :: (s20) :: (s21) :: (s22) :: (s23) :: (.no : Slot) :: (s25) :: (s26) :: (s27) :: (s28) :: (s29) :: (s30) :: (s31) :: (s32) :: (s33) :: ([] : Fm)) (.comp (.tup (.cons (.tup (.cons (.const (.int q)) .nil)) (.cons (.bin .Sub (.var 24) (.bin .Mult (.bin .FloorDiv (.var 24) (.const (.int ((s : Nat) : Int)))) (.const (.int ((s : Nat) : Int))))) .nil))) (.tN 24) (.sR1 (.var j)) .absent [24]) ((List.range n).map fun t => encS ([q], ((0 + t % s : Nat) : Int))) :=
  ring_ok (cf := cf) (e := ((s0) :: (s1) :: (s2) :: (s3) :: (s4) :: (s5) :: (s6) :: (s7) :: (s8) :: (s9) :: (s10) :: (s11) :: (s12) :: (s13) :: (s14) :: (s15) :: (s16) :: (s17) :: (s18) :: (s19) :: (s20) :: (s21) :: (s22) :: (s23) :: (.no : Slot) :: (s25) :: (s26) :: (s27) :: (s28) :: (s29) :: (s30) :: (s31) :: (s32) :: (s33) :: ([] : Fm))) q 0 s hs hs2 hn h rfl fun i => ⟨((s0) :: (s1) :: (s2) :: (s3) :: (s4) :: (s5) :: (s6) :: (s7) :: (s8) :: (s9) :: (s10) :: (s11) :: (s12) :: (s13) :: (s14) :: (s15) :: (s16) :: (s17) :: (s18) :: (s19) :: (s20) :: (s21) :: (s22) :: (s23) :: (.val (.int (0 + (i : Nat))) : Slot) :: (s25) :: (s26) :: (s27) :: (s28) :: (s29) :: (s30) :: (s31) :: (s32) :: (s33) :: ([] : Fm)), rfl, rfl, V_int0 (V_24 i), V_24 i⟩
end
section
variable (k : Nat) {bx : List D}
variable {s0 s1 s2 s3 s4 s5 s6 s7 s8 s9 s10 s11 s12 s13 s14 s15 s16 s17 s18 s19 s20 s21 s22 s23 s24 s25 s26 s27 s28 s29 s30 s31 s32 s33 : Slot}
theorem rg1 {cf : CF} {n j : Nat} (q : Int) (c s : Nat) (hs : 0 < s) (hs2 : s < 100) (hn : n ≤ 1000) (h : ((s0) :: (s1) :: (s2) :: (s3) :: (s4) :: (s5) :: (s6) :: (s7) :: (s8) :: (s9) :: (s10) :: (s11) :: (s12) :: (s13) :: (s14) :: (s15) :: (s16) :: (s17) :: (s18) :: (s19) :: (s20) :: (s21) :: (s22) :: (s23) :: (.no : Slot) :: (s25) :: (s26) :: (s27) :: (s28) :: (s29) :: (s30) :: (s31) :: (s32) :: (s33) :: ([] : Fm))[j]? = some (.val (.int (n : Nat)))) : O cf ((s0) :: (s1) :: (s2) :: (s3) :: (s4) :: (s5) :: (s6) :: (s7) :: (s8) :: (s9) :: (s10) :: (s11) :: (s12) :: (s13) :: (s14) :: (s15) :: (s16) :: (s17) :: (s18) :: (s19) :: (s20) :: (s21) :: (s22) :: (s23) :: (.no : Slot) :: (s25) :: (s26) :: (s27) :: (s28) :: (s29) :: (s30) :: (s31) :: (s32) :: (s33) :: ([] : Fm)) (.comp (.tup (.cons (.tup (.cons (.const (.int q)) .nil)) (.cons (.bin .Sub (.bin .Add (.const (.int ((c : Nat) : Int))) (.var 24)) (.bin .Mult (.bin .FloorDiv (.var 24) (.const (.int ((s : Nat) : Int)))) (.const (.int ((s : Nat) : Int))))) .nil))) (.tN 24) (.sR1 (.var j)) .absent [24]) ((List.range n).map fun t => encS ([q], ((c + t % s : Nat) : Int))) :=
  ring_ok (cf := cf) (e := ((s0) :: (s1) :: (s2) :: (s3) :: (s4) :: (s5) :: (s6) :: (s7) :: (s8) :: (s9) :: (s10) :: (s11) :: (s12) :: (s13) :: (s14) :: (s15) :: (s16) :: (s17) :: (s18) :: (s19) :: (s20) :: (s21) :: (s22) :: (s23) :: (.no : Slot) :: (s25) :: (s26) :: (s27) :: (s28) :: (s29) :: (s30) :: (s31) :: (s32) :: (s33) :: ([] : Fm))) q c s hs hs2 hn h rfl fun i => ⟨((s0) :: (s1) :: (s2) :: (s3) :: (s4) :: (s5) :: (s6) :: (s7) :: (s8) :: (s9) :: (s10) :: (s11) :: (s12) :: (s13) :: (s14) :: (s15) :: (s16) :: (s17) :: (s18) :: (s19) :: (s20) :: (s21) :: (s22) :: (s23) :: (.val (.int (0 + (i : Nat))) : Slot) :: (s25) :: (s26) :: (s27) :: (s28) :: (s29) :: (s30) :: (s31) :: (s32) :: (s33) :: ([] : Fm)), rfl, rfl, V_bin (V_c _) (V_24 i) (by rw [b_add]; rfl), V_24 i⟩
theorem three (x : Nat → D) : ∀ m : Nat, m < 3 → idxD (.list [x 0, x 1, x 2]) (.int ((0 + m : Nat) : Int)) = some (x m)
  | 0, _ => rfl
  | 1, _ => rfl
  | 2, _ => rfl
  | m + 3, h => by omega
theorem two (x : Nat → D) : ∀ m : Nat, m < 2 → idxD (.list [x 0, x 1]) (.int ((0 + m : Nat) : Int)) = some (x m)
  | 0, _ => rfl
  | 1, _ => rfl
  | m + 2, h => by omega
/-- two numbers taken -/
theorem a4 {n : Nat} (hb : Box n bx) (hn : n + 1 < 2 ^ 30) {i j : Nat} {e : Fm} {z : Int} (hz : 0 < z) (hz2 : z < 1000) (h0 : e[0]? = some (.own true bx)) : ∃ (a b : Nat) (b1 b2 : List D), (a : Int) < z ∧ (b : Int) < z ∧ ev (runF tb (k+120)) (.call "_law_take" [true, false] (.cons (.var 0) (.cons (.const (.int z)) .nil))) e = .ok (.rv (.v (.int (a : Nat)))) (e.set 0 (.own true b1)) ∧ ev (runF tb (k+120)) (.call "_law_take" [true, false] (.cons (.var 0) (.cons (.const (.int z)) .nil))) (e.set 0 (.own true b1)) = .ok (.rv (.v (.int (b : Nat)))) ((e.set 0 (.own true b1)).set 0 (.own true b2)) ∧ Box (n + 2) b2 := by
  obtain ⟨r, b1, p1, p2, p3, p4⟩ := s_take (k+119) hb (by omega) (z := z) (by omega) (by omega)
  obtain ⟨r, rfl⟩ := Int.eq_ofNat_of_zero_le p2
  obtain ⟨r', b2, q1, q2, q3, q4⟩ := s_take (k+119) p4 (by omega) (z := z) (by omega) (by omega)
  obtain ⟨r', rfl⟩ := Int.eq_ofNat_of_zero_le q2
  have hl : 0 < e.length := by
    cases e with
    | nil => cases h0
    | cons x y => exact Nat.zero_lt_succ _
  exact ⟨r, r', b1, b2, p3, q3, call_io h0 (V_c _) p1, call_io (by rw [List.getElem?_set_self hl]) (V_c _) q1, q4⟩
/-- the first way: three rules in a ring, two in another -/
theorem s16a {n dp : Nat} (hb : Box n bx) (hn : n + 100 < 2 ^ 30) : ∃ (t u : D) (P P' : List (List Stp)) (bx' : List D) (t19 t20 t25 t26 : Slot), ev (runF tb (k+120)) s_law_right_16 ((.own true bx : Slot) :: (.val (bk (ph false)) : Slot) :: (.val (.bool false) : Slot) :: (.val (.int (dp : Nat)) : Slot) :: (.no : Slot) :: (.no : Slot) :: (.no : Slot) :: (.no : Slot) :: (.no : Slot) :: (.no : Slot) :: (.no : Slot) :: (.no : Slot) :: (.no : Slot) :: (.no : Slot) :: (.no : Slot) :: (.val (nm "a") : Slot) :: (.val (nm "b") : Slot) :: (.val (nm "c") : Slot) :: (.val (nm "d") : Slot) :: (.no : Slot) :: (.no : Slot) :: (.no : Slot) :: (.no : Slot) :: (.no : Slot) :: (.no : Slot) :: (.no : Slot) :: (.no : Slot) :: (.no : Slot) :: (.no : Slot) :: (.no : Slot) :: (.no : Slot) :: (.no : Slot) :: (.no : Slot) :: (.no : Slot) :: ([] : Fm)) = .ok (.fl .nx) ((.own true bx' : Slot) :: (.val (bk (ph false)) : Slot) :: (.val (.bool false) : Slot) :: (.val (.int (dp : Nat)) : Slot) :: (.no : Slot) :: (.no : Slot) :: (.no : Slot) :: (.no : Slot) :: (.no : Slot) :: (.no : Slot) :: (.no : Slot) :: (.no : Slot) :: (.no : Slot) :: (.no : Slot) :: (.no : Slot) :: (.val (nm "a") : Slot) :: (.val (nm "b") : Slot) :: (.val (nm "c") : Slot) :: (.val (nm "d") : Slot) :: (t19) :: (t20) :: (.val t : Slot) :: (.val u : Slot) :: (.val (runD P.flatten) : Slot) :: (.no : Slot) :: (t25) :: (t26) :: (.no : Slot) :: (.no : Slot) :: (.no : Slot) :: (.no : Slot) :: (.no : Slot) :: (.no : Slot) :: (.no : Slot) :: ([] : Fm)) ∧ Kd false t u P P' ∧ Box (n + 60) bx' := by
  obtain ⟨a, b, b1, b2, ha, hb', p1, p2, o2⟩ := a4 k hb (by omega) (i := 25) (j := 26) (e := ((.own true bx : Slot) :: (.val (bk (ph false)) : Slot) :: (.val (.bool false) : Slot) :: (.val (.int (dp : Nat)) : Slot) :: (.no : Slot) :: (.no : Slot) :: (.no : Slot) :: (.no : Slot) :: (.no : Slot) :: (.no : Slot) :: (.no : Slot) :: (.no : Slot) :: (.no : Slot) :: (.no : Slot) :: (.no : Slot) :: (.val (nm "a") : Slot) :: (.val (nm "b") : Slot) :: (.val (nm "c") : Slot) :: (.val (nm "d") : Slot) :: (.no : Slot) :: (.no : Slot) :: (.no : Slot) :: (.no : Slot) :: (.no : Slot) :: (.no : Slot) :: (.no : Slot) :: (.no : Slot) :: (.no : Slot) :: (.no : Slot) :: (.no : Slot) :: (.no : Slot) :: (.no : Slot) :: (.no : Slot) :: (.no : Slot) :: ([] : Fm))) (z := 20) (by omega) (by omega) rfl
  obtain ⟨m, b3, p3, rfl, rfl, o3⟩ := s_mixed (k+118) .p1 o2 (a := a) (b := b) (by omega) (by omega)
  have e4 : ev (runF tb (k+120)) s_law_right_4 ((.own true bx : Slot) :: (.val (bk (ph false)) : Slot) :: (.val (.bool false) : Slot) :: (.val (.int (dp : Nat)) : Slot) :: (.no : Slot) :: (.no : Slot) :: (.no : Slot) :: (.no : Slot) :: (.no : Slot) :: (.no : Slot) :: (.no : Slot) :: (.no : Slot) :: (.no : Slot) :: (.no : Slot) :: (.no : Slot) :: (.val (nm "a") : Slot) :: (.val (nm "b") : Slot) :: (.val (nm "c") : Slot) :: (.val (nm "d") : Slot) :: (.no : Slot) :: (.no : Slot) :: (.no : Slot) :: (.no : Slot) :: (.no : Slot) :: (.no : Slot) :: (.no : Slot) :: (.no : Slot) :: (.no : Slot) :: (.no : Slot) :: (.no : Slot) :: (.no : Slot) :: (.no : Slot) :: (.no : Slot) :: (.no : Slot) :: ([] : Fm)) = .ok (.fl .nx) ((.own true b2 : Slot) :: (.val (bk (ph false)) : Slot) :: (.val (.bool false) : Slot) :: (.val (.int (dp : Nat)) : Slot) :: (.no : Slot) :: (.no : Slot) :: (.no : Slot) :: (.no : Slot) :: (.no : Slot) :: (.no : Slot) :: (.no : Slot) :: (.no : Slot) :: (.no : Slot) :: (.no : Slot) :: (.no : Slot) :: (.val (nm "a") : Slot) :: (.val (nm "b") : Slot) :: (.val (nm "c") : Slot) :: (.val (nm "d") : Slot) :: (.no : Slot) :: (.no : Slot) :: (.no : Slot) :: (.no : Slot) :: (.no : Slot) :: (.no : Slot) :: (.val (.int (c0 m : Nat)) : Slot) :: (.val (.int (c1 m : Nat)) : Slot) :: (.no : Slot) :: (.no : Slot) :: (.no : Slot) :: (.no : Slot) :: (.no : Slot) :: (.no : Slot) :: (.no : Slot) :: ([] : Fm)) := par_e (i := 25) (j := 26) p1 p2 rfl rfl
  have e5 : ev (runF tb (k+120)) s_law_right_5 ((.own true b2 : Slot) :: (.val (bk (ph false)) : Slot) :: (.val (.bool false) : Slot) :: (.val (.int (dp : Nat)) : Slot) :: (.no : Slot) :: (.no : Slot) :: (.no : Slot) :: (.no : Slot) :: (.no : Slot) :: (.no : Slot) :: (.no : Slot) :: (.no : Slot) :: (.no : Slot) :: (.no : Slot) :: (.no : Slot) :: (.val (nm "a") : Slot) :: (.val (nm "b") : Slot) :: (.val (nm "c") : Slot) :: (.val (nm "d") : Slot) :: (.no : Slot) :: (.no : Slot) :: (.no : Slot) :: (.no : Slot) :: (.no : Slot) :: (.no : Slot) :: (.val (.int (c0 m : Nat)) : Slot) :: (.val (.int (c1 m : Nat)) : Slot) :: (.no : Slot) :: (.no : Slot) :: (.no : Slot) :: (.no : Slot) :: (.no : Slot) :: (.no : Slot) :: (.no : Slot) :: ([] : Fm)) = .ok (.fl .nx) ((.own true b2 : Slot) :: (.val (bk (ph false)) : Slot) :: (.val (.bool false) : Slot) :: (.val (.int (dp : Nat)) : Slot) :: (.no : Slot) :: (.no : Slot) :: (.no : Slot) :: (.no : Slot) :: (.no : Slot) :: (.no : Slot) :: (.no : Slot) :: (.no : Slot) :: (.no : Slot) :: (.no : Slot) :: (.no : Slot) :: (.val (nm "a") : Slot) :: (.val (nm "b") : Slot) :: (.val (nm "c") : Slot) :: (.val (nm "d") : Slot) :: (.own false (AL .p1 0 (c0 m)) : Slot) :: (.no : Slot) :: (.no : Slot) :: (.no : Slot) :: (.no : Slot) :: (.no : Slot) :: (.val (.int (c0 m : Nat)) : Slot) :: (.val (.int (c1 m : Nat)) : Slot) :: (.no : Slot) :: (.no : Slot) :: (.no : Slot) :: (.no : Slot) :: (.no : Slot) :: (.no : Slot) :: (.no : Slot) :: ([] : Fm)) := by
    rw [← AL_at]
    exact asg_l (i := 19) (rg0 (j := 25) 0 3 (by omega) (by omega) (by omega) rfl) rfl
  have e6 : ev (runF tb (k+120)) s_law_right_6 ((.own true b2 : Slot) :: (.val (bk (ph false)) : Slot) :: (.val (.bool false) : Slot) :: (.val (.int (dp : Nat)) : Slot) :: (.no : Slot) :: (.no : Slot) :: (.no : Slot) :: (.no : Slot) :: (.no : Slot) :: (.no : Slot) :: (.no : Slot) :: (.no : Slot) :: (.no : Slot) :: (.no : Slot) :: (.no : Slot) :: (.val (nm "a") : Slot) :: (.val (nm "b") : Slot) :: (.val (nm "c") : Slot) :: (.val (nm "d") : Slot) :: (.own false (AL .p1 0 (c0 m)) : Slot) :: (.no : Slot) :: (.no : Slot) :: (.no : Slot) :: (.no : Slot) :: (.no : Slot) :: (.val (.int (c0 m : Nat)) : Slot) :: (.val (.int (c1 m : Nat)) : Slot) :: (.no : Slot) :: (.no : Slot) :: (.no : Slot) :: (.no : Slot) :: (.no : Slot) :: (.no : Slot) :: (.no : Slot) :: ([] : Fm)) = .ok (.fl .nx) ((.own true b2 : Slot) :: (.val (bk (ph false)) : Slot) :: (.val (.bool false) : Slot) :: (.val (.int (dp : Nat)) : Slot) :: (.no : Slot) :: (.no : Slot) :: (.no : Slot) :: (.no : Slot) :: (.no : Slot) :: (.no : Slot) :: (.no : Slot) :: (.no : Slot) :: (.no : Slot) :: (.no : Slot) :: (.no : Slot) :: (.val (nm "a") : Slot) :: (.val (nm "b") : Slot) :: (.val (nm "c") : Slot) :: (.val (nm "d") : Slot) :: (.own false (AL .p1 0 (c0 m)) : Slot) :: (.own false (BL .p1 0 (c1 m)) : Slot) :: (.no : Slot) :: (.no : Slot) :: (.no : Slot) :: (.no : Slot) :: (.val (.int (c0 m : Nat)) : Slot) :: (.val (.int (c1 m : Nat)) : Slot) :: (.no : Slot) :: (.no : Slot) :: (.no : Slot) :: (.no : Slot) :: (.no : Slot) :: (.no : Slot) :: (.no : Slot) :: ([] : Fm)) := by
    rw [← BL_at]
    exact asg_l (i := 20) (rg1 (j := 26) 1 3 2 (by omega) (by omega) (by omega) rfl) rfl
  have e7 : ev (runF tb (k+120)) s_law_right_7 ((.own true b2 : Slot) :: (.val (bk (ph false)) : Slot) :: (.val (.bool false) : Slot) :: (.val (.int (dp : Nat)) : Slot) :: (.no : Slot) :: (.no : Slot) :: (.no : Slot) :: (.no : Slot) :: (.no : Slot) :: (.no : Slot) :: (.no : Slot) :: (.no : Slot) :: (.no : Slot) :: (.no : Slot) :: (.no : Slot) :: (.val (nm "a") : Slot) :: (.val (nm "b") : Slot) :: (.val (nm "c") : Slot) :: (.val (nm "d") : Slot) :: (.own false (AL .p1 0 (c0 m)) : Slot) :: (.own false (BL .p1 0 (c1 m)) : Slot) :: (.no : Slot) :: (.no : Slot) :: (.no : Slot) :: (.no : Slot) :: (.val (.int (c0 m : Nat)) : Slot) :: (.val (.int (c1 m : Nat)) : Slot) :: (.no : Slot) :: (.no : Slot) :: (.no : Slot) :: (.no : Slot) :: (.no : Slot) :: (.no : Slot) :: (.no : Slot) :: ([] : Fm)) = .ok (.fl .nx) ((.own true b2 : Slot) :: (.val (bk (ph false)) : Slot) :: (.val (.bool false) : Slot) :: (.val (.int (dp : Nat)) : Slot) :: (.no : Slot) :: (.no : Slot) :: (.no : Slot) :: (.no : Slot) :: (.no : Slot) :: (.no : Slot) :: (.no : Slot) :: (.no : Slot) :: (.no : Slot) :: (.no : Slot) :: (.no : Slot) :: (.val (nm "a") : Slot) :: (.val (nm "b") : Slot) :: (.val (nm "c") : Slot) :: (.val (nm "d") : Slot) :: (.own false (AL .p1 0 (c0 m)) : Slot) :: (.own false (BL .p1 0 (c1 m)) : Slot) :: (.val (fz0 .p1 0 0) : Slot) :: (.no : Slot) :: (.no : Slot) :: (.no : Slot) :: (.val (.int (c0 m : Nat)) : Slot) :: (.val (.int (c1 m : Nat)) : Slot) :: (.no : Slot) :: (.no : Slot) :: (.no : Slot) :: (.no : Slot) :: (.no : Slot) :: (.no : Slot) :: (.no : Slot) :: ([] : Fm)) :=
    asg_v (i := 21) (d := fz0 .p1 0 0) (V_tup (Vs_cons (V_c _) (Vs_cons (V_var rfl) (Vs_cons (V_var rfl) Vs_nil))) three_line) rfl
  have e8 : ev (runF tb (k+120)) s_law_right_8 ((.own true b2 : Slot) :: (.val (bk (ph false)) : Slot) :: (.val (.bool false) : Slot) :: (.val (.int (dp : Nat)) : Slot) :: (.no : Slot) :: (.no : Slot) :: (.no : Slot) :: (.no : Slot) :: (.no : Slot) :: (.no : Slot) :: (.no : Slot) :: (.no : Slot) :: (.no : Slot) :: (.no : Slot) :: (.no : Slot) :: (.val (nm "a") : Slot) :: (.val (nm "b") : Slot) :: (.val (nm "c") : Slot) :: (.val (nm "d") : Slot) :: (.own false (AL .p1 0 (c0 m)) : Slot) :: (.own false (BL .p1 0 (c1 m)) : Slot) :: (.val (fz0 .p1 0 0) : Slot) :: (.no : Slot) :: (.no : Slot) :: (.no : Slot) :: (.val (.int (c0 m : Nat)) : Slot) :: (.val (.int (c1 m : Nat)) : Slot) :: (.no : Slot) :: (.no : Slot) :: (.no : Slot) :: (.no : Slot) :: (.no : Slot) :: (.no : Slot) :: (.no : Slot) :: ([] : Fm)) = .ok (.fl .nx) ((.own true b2 : Slot) :: (.val (bk (ph false)) : Slot) :: (.val (.bool false) : Slot) :: (.val (.int (dp : Nat)) : Slot) :: (.no : Slot) :: (.no : Slot) :: (.no : Slot) :: (.no : Slot) :: (.no : Slot) :: (.no : Slot) :: (.no : Slot) :: (.no : Slot) :: (.no : Slot) :: (.no : Slot) :: (.no : Slot) :: (.val (nm "a") : Slot) :: (.val (nm "b") : Slot) :: (.val (nm "c") : Slot) :: (.val (nm "d") : Slot) :: (.own false (AL .p1 0 (c0 m)) : Slot) :: (.own false (BL .p1 0 (c1 m)) : Slot) :: (.val (fz0 .p1 0 0) : Slot) :: (.val (fz0 .p1 (c0 m) (c1 m)) : Slot) :: (.no : Slot) :: (.no : Slot) :: (.val (.int (c0 m : Nat)) : Slot) :: (.val (.int (c1 m : Nat)) : Slot) :: (.no : Slot) :: (.no : Slot) :: (.no : Slot) :: (.no : Slot) :: (.no : Slot) :: (.no : Slot) :: (.no : Slot) :: ([] : Fm)) :=
    asg_v (i := 22) (d := fz0 .p1 (c0 m) (c1 m)) (V_tup (Vs_cons (V_c _) (Vs_cons
      (V_idxO (O_lst (Vs_cons (V_var (d := nm "a") rfl) (Vs_cons (V_var (d := nm "b") rfl) (Vs_cons (V_tup (Vs_cons (V_c _) Vs_nil) one_line : V _ _ _ (nm "e")) Vs_nil))) (by decide)) (ring 0 3 (by omega) (by omega) (V_int0 (V_var rfl)) (V_var rfl)) (three (l0 .p1) _ (Nat.mod_lt _ (by omega))))
      (Vs_cons (V_idxO (O_lst (Vs_cons (V_var (d := nm "c") rfl) (Vs_cons (V_var (d := nm "d") rfl) Vs_nil)) (by decide)) (ring 0 2 (by omega) (by omega) (V_int0 (V_var rfl)) (V_var rfl)) (two (l1 .p1) _ (Nat.mod_lt _ (by omega)))) Vs_nil))) three_line) rfl
  have e9 : ev (runF tb (k+120)) s_law_right_9 ((.own true b2 : Slot) :: (.val (bk (ph false)) : Slot) :: (.val (.bool false) : Slot) :: (.val (.int (dp : Nat)) : Slot) :: (.no : Slot) :: (.no : Slot) :: (.no : Slot) :: (.no : Slot) :: (.no : Slot) :: (.no : Slot) :: (.no : Slot) :: (.no : Slot) :: (.no : Slot) :: (.no : Slot) :: (.no : Slot) :: (.val (nm "a") : Slot) :: (.val (nm "b") : Slot) :: (.val (nm "c") : Slot) :: (.val (nm "d") : Slot) :: (.own false (AL .p1 0 (c0 m)) : Slot) :: (.own false (BL .p1 0 (c1 m)) : Slot) :: (.val (fz0 .p1 0 0) : Slot) :: (.val (fz0 .p1 (c0 m) (c1 m)) : Slot) :: (.no : Slot) :: (.no : Slot) :: (.val (.int (c0 m : Nat)) : Slot) :: (.val (.int (c1 m : Nat)) : Slot) :: (.no : Slot) :: (.no : Slot) :: (.no : Slot) :: (.no : Slot) :: (.no : Slot) :: (.no : Slot) :: (.no : Slot) :: ([] : Fm)) = .ok (.fl .nx) ((.own true b3 : Slot) :: (.val (bk (ph false)) : Slot) :: (.val (.bool false) : Slot) :: (.val (.int (dp : Nat)) : Slot) :: (.no : Slot) :: (.no : Slot) :: (.no : Slot) :: (.no : Slot) :: (.no : Slot) :: (.no : Slot) :: (.no : Slot) :: (.no : Slot) :: (.no : Slot) :: (.no : Slot) :: (.no : Slot) :: (.val (nm "a") : Slot) :: (.val (nm "b") : Slot) :: (.val (nm "c") : Slot) :: (.val (nm "d") : Slot) :: (.own false (AL .p1 0 (c0 m)) : Slot) :: (.own false (BL .p1 0 (c1 m)) : Slot) :: (.val (fz0 .p1 0 0) : Slot) :: (.val (fz0 .p1 (c0 m) (c1 m)) : Slot) :: (.val (runD (sM .p1 0 0 m)) : Slot) :: (.no : Slot) :: (.val (.int (c0 m : Nat)) : Slot) :: (.val (.int (c1 m : Nat)) : Slot) :: (.no : Slot) :: (.no : Slot) :: (.no : Slot) :: (.no : Slot) :: (.no : Slot) :: (.no : Slot) :: (.no : Slot) :: ([] : Fm)) :=
    asg_v (i := 23) (d := runD (sM .p1 0 0 m)) (call_io3 (i := 0) (j := 19) (l := 20) (io := true) (io2 := false) (io3 := false) rfl rfl rfl (by decide) (by decide) p3 (nl_runD _) (box_nl o3)) rfl
  have fl : [sM .p1 0 0 m].flatten = sM .p1 0 0 m := by rw [List.flatten_cons, List.flatten_nil, List.append_nil]
  have cc := c01 m
  refine ⟨fz0 .p1 0 0, fz0 .p1 (c0 m) (c1 m), [sM .p1 0 0 m], [sM .p1 0 0 (srt (c0 m) (c1 m))], b3, .own false (AL .p1 0 (c0 m)), .own false (BL .p1 0 (c1 m)), .val (.int (c0 m : Nat)), .val (.int (c1 m : Nat)), ?_, .m m (by omega), box_mono o3 (by omega)⟩
  rw [fl]
  exact if_yes (V_not (x := false) (V_var rfl)) (seq_nx e4 (seq_nx e5 (seq_nx e6 (seq_nx e7 (seq_nx e8 (seq_nx e9 rfl))))))
end
end L2.Mp
set_option Elab.async false
set_option linter.all false
set_option maxRecDepth 100000
set_option maxHeartbeats 0
namespace L2.Mp
open PySem PySem.Spec PyProof.Rows L2
section
variable (k : Nat) {bx : List D}
variable {s0 s1 s2 s3 s4 s5 s6 s7 s8 s9 s10 s11 s12 s13 s14 s15 s16 s17 s18 s19 s20 s21 s22 s23 s24 s25 s26 s27 s28 s29 s30 s31 s32 s33 : Slot}
/-- an odd number taken -/
theorem odd_e {e e1 : Fm} {a : Nat} (ha : a < 5) (h : ev (runF tb (k+120)) (.call "_law_take" [true, false] (.cons (.var 0) (.cons (.const (.int 5)) .nil))) e = .ok (.rv (.v (.int (a : Nat)))) e1) : ev (runF tb (k+120)) (.bin .Add (.const (.int 1)) (.bin .Mult (.const (.int 2)) (.call "_law_take" [true, false] (.cons (.var 0) (.cons (.const (.int 5)) .nil))))) e = .ok (.rv (.v (.int ((1 + 2 * a : Nat) : Int)))) e1 := by
  refine bin_ee (e1 := e) (x := .int 1) (y := .int ((2 * a : Nat) : Int)) (V_c _) (bin_ee (e1 := e) (x := .int 2) (y := .int (a : Nat)) (V_c _) h ?_) ?_
  · rw [b_mul, if_pos (mul_ok2 (by omega))]
    rfl
  · rw [b_add]
    rfl
theorem V_wh {cf : CF} {e : Fm} : V cf e (.tup (.cons (.tup (.cons (.tup .nil) (.cons (.const (.int 4)) .nil))) .nil)) (runD [([], 4)]) :=
  V_tup (Vs_cons (V_tup (Vs_cons (V_tup Vs_nil (Nat.zero_le _)) (Vs_cons (V_c _) Vs_nil)) two_line) Vs_nil) one_line
theorem run_add (x y : List Stp) (h : x.length + y.length ≤ 1000) : binD .Add (runD x) (runD y) = some (.v (runD (x ++ y))) := by
  unfold runD
  rw [List.map_append]
  show (if _ then _ else _) = _
  rw [if_pos]
  simp only [List.length_map, LINE]
  omega
theorem z10 {n dp : Nat} (hb : Box n bx) (hn : n + 100 < 2 ^ 30) : ∃ (a b : Nat) (b2 : List D), a < 5 ∧ b < 5 ∧ ev (runF tb (k+120)) s_law_right_10 ((.own true bx : Slot) :: (.val (bk (ph true)) : Slot) :: (.val (.bool true) : Slot) :: (.val (.int (dp : Nat)) : Slot) :: (.no : Slot) :: (.no : Slot) :: (.no : Slot) :: (.no : Slot) :: (.no : Slot) :: (.no : Slot) :: (.no : Slot) :: (.no : Slot) :: (.no : Slot) :: (.no : Slot) :: (.no : Slot) :: (.val (nm "a") : Slot) :: (.val (nm "b") : Slot) :: (.val (nm "c") : Slot) :: (.val (nm "d") : Slot) :: (.no : Slot) :: (.no : Slot) :: (.no : Slot) :: (.no : Slot) :: (.no : Slot) :: (.no : Slot) :: (.no : Slot) :: (.no : Slot) :: (.no : Slot) :: (.no : Slot) :: (.no : Slot) :: (.no : Slot) :: (.no : Slot) :: (.no : Slot) :: (.no : Slot) :: ([] : Fm)) = .ok (.fl .nx) ((.own true b2 : Slot) :: (.val (bk (ph true)) : Slot) :: (.val (.bool true) : Slot) :: (.val (.int (dp : Nat)) : Slot) :: (.no : Slot) :: (.no : Slot) :: (.no : Slot) :: (.no : Slot) :: (.no : Slot) :: (.no : Slot) :: (.no : Slot) :: (.no : Slot) :: (.no : Slot) :: (.no : Slot) :: (.no : Slot) :: (.val (nm "a") : Slot) :: (.val (nm "b") : Slot) :: (.val (nm "c") : Slot) :: (.val (nm "d") : Slot) :: (.no : Slot) :: (.no : Slot) :: (.no : Slot) :: (.no : Slot) :: (.no : Slot) :: (.no : Slot) :: (.val (.int ((1 + 2 * a : Nat) : Int)) : Slot) :: (.val (.int ((1 + 2 * b : Nat) : Int)) : Slot) :: (.no : Slot) :: (.no : Slot) :: (.no : Slot) :: (.no : Slot) :: (.no : Slot) :: (.no : Slot) :: (.no : Slot) :: ([] : Fm)) ∧ Box (n + 2) b2 := by
  obtain ⟨a, b, b1, b2, ha, hb', p1, p2, o2⟩ := a4 k hb (by omega) (i := 25) (j := 26) (e := ((.own true bx : Slot) :: (.val (bk (ph true)) : Slot) :: (.val (.bool true) : Slot) :: (.val (.int (dp : Nat)) : Slot) :: (.no : Slot) :: (.no : Slot) :: (.no : Slot) :: (.no : Slot) :: (.no : Slot) :: (.no : Slot) :: (.no : Slot) :: (.no : Slot) :: (.no : Slot) :: (.no : Slot) :: (.no : Slot) :: (.val (nm "a") : Slot) :: (.val (nm "b") : Slot) :: (.val (nm "c") : Slot) :: (.val (nm "d") : Slot) :: (.no : Slot) :: (.no : Slot) :: (.no : Slot) :: (.no : Slot) :: (.no : Slot) :: (.no : Slot) :: (.no : Slot) :: (.no : Slot) :: (.no : Slot) :: (.no : Slot) :: (.no : Slot) :: (.no : Slot) :: (.no : Slot) :: (.no : Slot) :: (.no : Slot) :: ([] : Fm))) (z := 5) (by omega) (by omega) rfl
  exact ⟨a, b, b2, by omega, by omega, par_e (i := 25) (j := 26) (odd_e k (by omega) p1) (odd_e k (by omega) p2) rfl rfl, o2⟩
theorem z11 {dp a b : Nat} {b2 : List D} (ha : a < 5) (hb : b < 5) : ev (runF tb (k+120)) s_law_right_11 ((.own true b2 : Slot) :: (.val (bk (ph true)) : Slot) :: (.val (.bool true) : Slot) :: (.val (.int (dp : Nat)) : Slot) :: (.no : Slot) :: (.no : Slot) :: (.no : Slot) :: (.no : Slot) :: (.no : Slot) :: (.no : Slot) :: (.no : Slot) :: (.no : Slot) :: (.no : Slot) :: (.no : Slot) :: (.no : Slot) :: (.val (nm "a") : Slot) :: (.val (nm "b") : Slot) :: (.val (nm "c") : Slot) :: (.val (nm "d") : Slot) :: (.no : Slot) :: (.no : Slot) :: (.no : Slot) :: (.no : Slot) :: (.no : Slot) :: (.no : Slot) :: (.val (.int ((1 + 2 * a : Nat) : Int)) : Slot) :: (.val (.int ((1 + 2 * b : Nat) : Int)) : Slot) :: (.no : Slot) :: (.no : Slot) :: (.no : Slot) :: (.no : Slot) :: (.no : Slot) :: (.no : Slot) :: (.no : Slot) :: ([] : Fm)) = .ok (.fl .nx) ((.own true b2 : Slot) :: (.val (bk (ph true)) : Slot) :: (.val (.bool true) : Slot) :: (.val (.int (dp : Nat)) : Slot) :: (.no : Slot) :: (.no : Slot) :: (.no : Slot) :: (.no : Slot) :: (.no : Slot) :: (.no : Slot) :: (.no : Slot) :: (.no : Slot) :: (.no : Slot) :: (.no : Slot) :: (.no : Slot) :: (.val (nm "a") : Slot) :: (.val (nm "b") : Slot) :: (.val (nm "c") : Slot) :: (.val (nm "d") : Slot) :: (.own false (AL .p2 0 (1 + 2 * a)) : Slot) :: (.own false (BL .p2 0 (1 + 2 * b)) : Slot) :: (.no : Slot) :: (.no : Slot) :: (.no : Slot) :: (.no : Slot) :: (.val (.int ((1 + 2 * a : Nat) : Int)) : Slot) :: (.val (.int ((1 + 2 * b : Nat) : Int)) : Slot) :: (.no : Slot) :: (.no : Slot) :: (.no : Slot) :: (.no : Slot) :: (.no : Slot) :: (.no : Slot) :: (.no : Slot) :: ([] : Fm)) := by
  rw [← AL_at, ← BL_at]
  exact par_oo (i := 19) (j := 20) (rg0 (j := 25) 0 2 (by omega) (by omega) (by omega) rfl) (rg1 (j := 26) 1 2 2 (by omega) (by omega) (by omega) rfl) rfl rfl
theorem z12 {n dp a b : Nat} {b2 : List D} (hb : Box n b2) (hn : n + 100 < 2 ^ 30) : ∃ (c d : Nat) (b4 : List D), c < 6 ∧ d < 6 ∧ ev (runF tb (k+120)) s_law_right_12 ((.own true b2 : Slot) :: (.val (bk (ph true)) : Slot) :: (.val (.bool true) : Slot) :: (.val (.int (dp : Nat)) : Slot) :: (.no : Slot) :: (.no : Slot) :: (.no : Slot) :: (.no : Slot) :: (.no : Slot) :: (.no : Slot) :: (.no : Slot) :: (.no : Slot) :: (.no : Slot) :: (.no : Slot) :: (.no : Slot) :: (.val (nm "a") : Slot) :: (.val (nm "b") : Slot) :: (.val (nm "c") : Slot) :: (.val (nm "d") : Slot) :: (.own false (AL .p2 0 (1 + 2 * a)) : Slot) :: (.own false (BL .p2 0 (1 + 2 * b)) : Slot) :: (.no : Slot) :: (.no : Slot) :: (.no : Slot) :: (.no : Slot) :: (.val (.int ((1 + 2 * a : Nat) : Int)) : Slot) :: (.val (.int ((1 + 2 * b : Nat) : Int)) : Slot) :: (.no : Slot) :: (.no : Slot) :: (.no : Slot) :: (.no : Slot) :: (.no : Slot) :: (.no : Slot) :: (.no : Slot) :: ([] : Fm)) = .ok (.fl .nx) ((.own true b4 : Slot) :: (.val (bk (ph true)) : Slot) :: (.val (.bool true) : Slot) :: (.val (.int (dp : Nat)) : Slot) :: (.no : Slot) :: (.no : Slot) :: (.no : Slot) :: (.no : Slot) :: (.no : Slot) :: (.no : Slot) :: (.no : Slot) :: (.no : Slot) :: (.no : Slot) :: (.no : Slot) :: (.no : Slot) :: (.val (nm "a") : Slot) :: (.val (nm "b") : Slot) :: (.val (nm "c") : Slot) :: (.val (nm "d") : Slot) :: (.own false (AL .p2 0 (1 + 2 * a)) : Slot) :: (.own false (BL .p2 0 (1 + 2 * b)) : Slot) :: (.no : Slot) :: (.no : Slot) :: (.no : Slot) :: (.no : Slot) :: (.val (.int ((1 + 2 * a : Nat) : Int)) : Slot) :: (.val (.int ((1 + 2 * b : Nat) : Int)) : Slot) :: (.val (.int (c : Nat)) : Slot) :: (.val (.int (d : Nat)) : Slot) :: (.no : Slot) :: (.no : Slot) :: (.no : Slot) :: (.no : Slot) :: (.no : Slot) :: ([] : Fm)) ∧ Box (n + 2) b4 := by
  obtain ⟨c, d, b3, b4, ha, hb', p1, p2, o2⟩ := a4 k hb (by omega) (i := 27) (j := 28) (e := ((.own true b2 : Slot) :: (.val (bk (ph true)) : Slot) :: (.val (.bool true) : Slot) :: (.val (.int (dp : Nat)) : Slot) :: (.no : Slot) :: (.no : Slot) :: (.no : Slot) :: (.no : Slot) :: (.no : Slot) :: (.no : Slot) :: (.no : Slot) :: (.no : Slot) :: (.no : Slot) :: (.no : Slot) :: (.no : Slot) :: (.val (nm "a") : Slot) :: (.val (nm "b") : Slot) :: (.val (nm "c") : Slot) :: (.val (nm "d") : Slot) :: (.own false (AL .p2 0 (1 + 2 * a)) : Slot) :: (.own false (BL .p2 0 (1 + 2 * b)) : Slot) :: (.no : Slot) :: (.no : Slot) :: (.no : Slot) :: (.no : Slot) :: (.val (.int ((1 + 2 * a : Nat) : Int)) : Slot) :: (.val (.int ((1 + 2 * b : Nat) : Int)) : Slot) :: (.no : Slot) :: (.no : Slot) :: (.no : Slot) :: (.no : Slot) :: (.no : Slot) :: (.no : Slot) :: (.no : Slot) :: ([] : Fm))) (z := 6) (by omega) (by omega) rfl
  exact ⟨c, d, b4, by omega, by omega, par_e (i := 27) (j := 28) p1 p2 rfl rfl, o2⟩
theorem z13 {dp a b c d : Nat} {b4 : List D} (hc : c < 6) (hd : d < 6) : ev (runF tb (k+120)) s_law_right_13 ((.own true b4 : Slot) :: (.val (bk (ph true)) : Slot) :: (.val (.bool true) : Slot) :: (.val (.int (dp : Nat)) : Slot) :: (.no : Slot) :: (.no : Slot) :: (.no : Slot) :: (.no : Slot) :: (.no : Slot) :: (.no : Slot) :: (.no : Slot) :: (.no : Slot) :: (.no : Slot) :: (.no : Slot) :: (.no : Slot) :: (.val (nm "a") : Slot) :: (.val (nm "b") : Slot) :: (.val (nm "c") : Slot) :: (.val (nm "d") : Slot) :: (.own false (AL .p2 0 (1 + 2 * a)) : Slot) :: (.own false (BL .p2 0 (1 + 2 * b)) : Slot) :: (.no : Slot) :: (.no : Slot) :: (.no : Slot) :: (.no : Slot) :: (.val (.int ((1 + 2 * a : Nat) : Int)) : Slot) :: (.val (.int ((1 + 2 * b : Nat) : Int)) : Slot) :: (.val (.int (c : Nat)) : Slot) :: (.val (.int (d : Nat)) : Slot) :: (.no : Slot) :: (.no : Slot) :: (.no : Slot) :: (.no : Slot) :: (.no : Slot) :: ([] : Fm)) = .ok (.fl .nx) ((.own true b4 : Slot) :: (.val (bk (ph true)) : Slot) :: (.val (.bool true) : Slot) :: (.val (.int (dp : Nat)) : Slot) :: (.no : Slot) :: (.no : Slot) :: (.no : Slot) :: (.no : Slot) :: (.no : Slot) :: (.no : Slot) :: (.no : Slot) :: (.no : Slot) :: (.no : Slot) :: (.no : Slot) :: (.no : Slot) :: (.val (nm "a") : Slot) :: (.val (nm "b") : Slot) :: (.val (nm "c") : Slot) :: (.val (nm "d") : Slot) :: (.own false (AL .p2 0 (1 + 2 * a)) : Slot) :: (.own false (BL .p2 0 (1 + 2 * b)) : Slot) :: (.no : Slot) :: (.no : Slot) :: (.no : Slot) :: (.no : Slot) :: (.val (.int ((1 + 2 * a : Nat) : Int)) : Slot) :: (.val (.int ((1 + 2 * b : Nat) : Int)) : Slot) :: (.val (.int (c : Nat)) : Slot) :: (.val (.int (d : Nat)) : Slot) :: (.own false (AL .p3 0 c) : Slot) :: (.own false (BL .p3 0 d) : Slot) :: (.no : Slot) :: (.no : Slot) :: (.no : Slot) :: ([] : Fm)) := by
  rw [← AL_at .p3, ← BL_at .p3]
  exact par_oo (i := 29) (j := 30) (rg1 (j := 27) 0 2 2 (by omega) (by omega) (by omega) rfl) (rg0 (j := 28) 1 2 (by omega) (by omega) (by omega) rfl) rfl rfl
theorem z14 {dp a b c d : Nat} {b4 : List D} : ev (runF tb (k+120)) s_law_right_14 ((.own true b4 : Slot) :: (.val (bk (ph true)) : Slot) :: (.val (.bool true) : Slot) :: (.val (.int (dp : Nat)) : Slot) :: (.no : Slot) :: (.no : Slot) :: (.no : Slot) :: (.no : Slot) :: (.no : Slot) :: (.no : Slot) :: (.no : Slot) :: (.no : Slot) :: (.no : Slot) :: (.no : Slot) :: (.no : Slot) :: (.val (nm "a") : Slot) :: (.val (nm "b") : Slot) :: (.val (nm "c") : Slot) :: (.val (nm "d") : Slot) :: (.own false (AL .p2 0 (1 + 2 * a)) : Slot) :: (.own false (BL .p2 0 (1 + 2 * b)) : Slot) :: (.no : Slot) :: (.no : Slot) :: (.no : Slot) :: (.no : Slot) :: (.val (.int ((1 + 2 * a : Nat) : Int)) : Slot) :: (.val (.int ((1 + 2 * b : Nat) : Int)) : Slot) :: (.val (.int (c : Nat)) : Slot) :: (.val (.int (d : Nat)) : Slot) :: (.own false (AL .p3 0 c) : Slot) :: (.own false (BL .p3 0 d) : Slot) :: (.no : Slot) :: (.no : Slot) :: (.no : Slot) :: ([] : Fm)) = .ok (.fl .nx) ((.own true b4 : Slot) :: (.val (bk (ph true)) : Slot) :: (.val (.bool true) : Slot) :: (.val (.int (dp : Nat)) : Slot) :: (.no : Slot) :: (.no : Slot) :: (.no : Slot) :: (.no : Slot) :: (.no : Slot) :: (.no : Slot) :: (.no : Slot) :: (.no : Slot) :: (.no : Slot) :: (.no : Slot) :: (.no : Slot) :: (.val (nm "a") : Slot) :: (.val (nm "b") : Slot) :: (.val (nm "c") : Slot) :: (.val (nm "d") : Slot) :: (.own false (AL .p2 0 (1 + 2 * a)) : Slot) :: (.own false (BL .p2 0 (1 + 2 * b)) : Slot) :: (.val (fz0 .p2 0 0) : Slot) :: (.val (fz0 .p3 c d) : Slot) :: (.no : Slot) :: (.no : Slot) :: (.val (.int ((1 + 2 * a : Nat) : Int)) : Slot) :: (.val (.int ((1 + 2 * b : Nat) : Int)) : Slot) :: (.val (.int (c : Nat)) : Slot) :: (.val (.int (d : Nat)) : Slot) :: (.own false (AL .p3 0 c) : Slot) :: (.own false (BL .p3 0 d) : Slot) :: (.no : Slot) :: (.no : Slot) :: (.no : Slot) :: ([] : Fm)) :=
  par_v (i := 21) (j := 22) (x := fz0 .p2 0 0) (y := fz0 .p3 c d) (V_tup (Vs_cons (V_c _) (Vs_cons (V_var rfl) (Vs_cons (V_var rfl) Vs_nil))) three_line) (V_tup (Vs_cons (V_c _) (Vs_cons
      (V_idxO (O_lst (Vs_cons (V_var (d := nm "c") rfl) (Vs_cons (V_var (d := nm "d") rfl) Vs_nil)) (by decide)) (ring 0 2 (by omega) (by omega) (V_int0 (V_var rfl)) (V_var rfl)) (two (l0 .p3) _ (Nat.mod_lt _ (by omega))))
      (Vs_cons (V_idxO (O_lst (Vs_cons (V_var (d := nm "a") rfl) (Vs_cons (V_var (d := nm "b") rfl) Vs_nil)) (by decide)) (ring 0 2 (by omega) (by omega) (V_int0 (V_var rfl)) (V_var rfl)) (two (l1 .p3) _ (Nat.mod_lt _ (by omega)))) Vs_nil))) three_line) rfl rfl
theorem s16b {n dp : Nat} (hb : Box n bx) (hn : n + 200 < 2 ^ 30) : ∃ (t u : D) (P P' : List (List Stp)) (bx' : List D) (t19 t20 t25 t26 t27 t28 t29 t30 : Slot), ev (runF tb (k+120)) s_law_right_16 ((.own true bx : Slot) :: (.val (bk (ph true)) : Slot) :: (.val (.bool true) : Slot) :: (.val (.int (dp : Nat)) : Slot) :: (.no : Slot) :: (.no : Slot) :: (.no : Slot) :: (.no : Slot) :: (.no : Slot) :: (.no : Slot) :: (.no : Slot) :: (.no : Slot) :: (.no : Slot) :: (.no : Slot) :: (.no : Slot) :: (.val (nm "a") : Slot) :: (.val (nm "b") : Slot) :: (.val (nm "c") : Slot) :: (.val (nm "d") : Slot) :: (.no : Slot) :: (.no : Slot) :: (.no : Slot) :: (.no : Slot) :: (.no : Slot) :: (.no : Slot) :: (.no : Slot) :: (.no : Slot) :: (.no : Slot) :: (.no : Slot) :: (.no : Slot) :: (.no : Slot) :: (.no : Slot) :: (.no : Slot) :: (.no : Slot) :: ([] : Fm)) = .ok (.fl .nx) ((.own true bx' : Slot) :: (.val (bk (ph true)) : Slot) :: (.val (.bool true) : Slot) :: (.val (.int (dp : Nat)) : Slot) :: (.no : Slot) :: (.no : Slot) :: (.no : Slot) :: (.no : Slot) :: (.no : Slot) :: (.no : Slot) :: (.no : Slot) :: (.no : Slot) :: (.no : Slot) :: (.no : Slot) :: (.no : Slot) :: (.val (nm "a") : Slot) :: (.val (nm "b") : Slot) :: (.val (nm "c") : Slot) :: (.val (nm "d") : Slot) :: (t19) :: (t20) :: (.val t : Slot) :: (.val u : Slot) :: (.val (runD P.flatten) : Slot) :: (.no : Slot) :: (t25) :: (t26) :: (t27) :: (t28) :: (t29) :: (t30) :: (.no : Slot) :: (.no : Slot) :: (.no : Slot) :: ([] : Fm)) ∧ Kd true t u P P' ∧ Box (n + 60) bx' := by
  obtain ⟨a, b, b2, ha, hb', e10, o2⟩ := z10 k hb (dp := dp) (by omega)
  have e11 := z11 k (dp := dp) (b2 := b2) ha hb'
  obtain ⟨c, d, b4, hc, hd, e12, o4⟩ := z12 k (dp := dp) (a := a) (b := b) o2 (by omega)
  have e13 := z13 k (dp := dp) (a := a) (b := b) (b4 := b4) hc hd
  have e14 := z14 k (dp := dp) (a := a) (b := b) (c := c) (d := d) (b4 := b4)
  obtain ⟨m, b5, p3, c3, d3, o5⟩ := s_mixed (k+118) .p2 o4 (a := 1 + 2 * a) (b := 1 + 2 * b) (by omega) (by omega)
  obtain ⟨m', b6, p6, c6, d6, o6⟩ := s_mixed (k+118) .p3 o5 (a := c) (b := d) (by omega) (by omega)
  have cc := c01 m
  have cc' := c01 m'
  have q1 : ev (runF tb (k+120)) (.call "_law_mixed" [true, false, false] (.cons (.var 0) (.cons (.var 19) (.cons (.var 20) .nil)))) ((.own true b4 : Slot) :: (.val (bk (ph true)) : Slot) :: (.val (.bool true) : Slot) :: (.val (.int (dp : Nat)) : Slot) :: (.no : Slot) :: (.no : Slot) :: (.no : Slot) :: (.no : Slot) :: (.no : Slot) :: (.no : Slot) :: (.no : Slot) :: (.no : Slot) :: (.no : Slot) :: (.no : Slot) :: (.no : Slot) :: (.val (nm "a") : Slot) :: (.val (nm "b") : Slot) :: (.val (nm "c") : Slot) :: (.val (nm "d") : Slot) :: (.own false (AL .p2 0 (1 + 2 * a)) : Slot) :: (.own false (BL .p2 0 (1 + 2 * b)) : Slot) :: (.val (fz0 .p2 0 0) : Slot) :: (.val (fz0 .p3 c d) : Slot) :: (.no : Slot) :: (.no : Slot) :: (.val (.int ((1 + 2 * a : Nat) : Int)) : Slot) :: (.val (.int ((1 + 2 * b : Nat) : Int)) : Slot) :: (.val (.int (c : Nat)) : Slot) :: (.val (.int (d : Nat)) : Slot) :: (.own false (AL .p3 0 c) : Slot) :: (.own false (BL .p3 0 d) : Slot) :: (.no : Slot) :: (.no : Slot) :: (.no : Slot) :: ([] : Fm)) = .ok (.rv (.v (runD (sM .p2 0 0 m)))) ((.own true b5 : Slot) :: (.val (bk (ph true)) : Slot) :: (.val (.bool true) : Slot) :: (.val (.int (dp : Nat)) : Slot) :: (.no : Slot) :: (.no : Slot) :: (.no : Slot) :: (.no : Slot) :: (.no : Slot) :: (.no : Slot) :: (.no : Slot) :: (.no : Slot) :: (.no : Slot) :: (.no : Slot) :: (.no : Slot) :: (.val (nm "a") : Slot) :: (.val (nm "b") : Slot) :: (.val (nm "c") : Slot) :: (.val (nm "d") : Slot) :: (.own false (AL .p2 0 (1 + 2 * a)) : Slot) :: (.own false (BL .p2 0 (1 + 2 * b)) : Slot) :: (.val (fz0 .p2 0 0) : Slot) :: (.val (fz0 .p3 c d) : Slot) :: (.no : Slot) :: (.no : Slot) :: (.val (.int ((1 + 2 * a : Nat) : Int)) : Slot) :: (.val (.int ((1 + 2 * b : Nat) : Int)) : Slot) :: (.val (.int (c : Nat)) : Slot) :: (.val (.int (d : Nat)) : Slot) :: (.own false (AL .p3 0 c) : Slot) :: (.own false (BL .p3 0 d) : Slot) :: (.no : Slot) :: (.no : Slot) :: (.no : Slot) :: ([] : Fm)) := call_io3 (i := 0) (j := 19) (l := 20) (io := true) (io2 := false) (io3 := false) rfl rfl rfl (by decide) (by decide) p3 (nl_runD _) (box_nl o5)
  have q2 : ev (runF tb (k+120)) (.call "_law_mixed" [true, false, false] (.cons (.var 0) (.cons (.var 29) (.cons (.var 30) .nil)))) ((.own true b5 : Slot) :: (.val (bk (ph true)) : Slot) :: (.val (.bool true) : Slot) :: (.val (.int (dp : Nat)) : Slot) :: (.no : Slot) :: (.no : Slot) :: (.no : Slot) :: (.no : Slot) :: (.no : Slot) :: (.no : Slot) :: (.no : Slot) :: (.no : Slot) :: (.no : Slot) :: (.no : Slot) :: (.no : Slot) :: (.val (nm "a") : Slot) :: (.val (nm "b") : Slot) :: (.val (nm "c") : Slot) :: (.val (nm "d") : Slot) :: (.own false (AL .p2 0 (1 + 2 * a)) : Slot) :: (.own false (BL .p2 0 (1 + 2 * b)) : Slot) :: (.val (fz0 .p2 0 0) : Slot) :: (.val (fz0 .p3 c d) : Slot) :: (.no : Slot) :: (.no : Slot) :: (.val (.int ((1 + 2 * a : Nat) : Int)) : Slot) :: (.val (.int ((1 + 2 * b : Nat) : Int)) : Slot) :: (.val (.int (c : Nat)) : Slot) :: (.val (.int (d : Nat)) : Slot) :: (.own false (AL .p3 0 c) : Slot) :: (.own false (BL .p3 0 d) : Slot) :: (.no : Slot) :: (.no : Slot) :: (.no : Slot) :: ([] : Fm)) = .ok (.rv (.v (runD (sM .p3 0 0 m')))) ((.own true b6 : Slot) :: (.val (bk (ph true)) : Slot) :: (.val (.bool true) : Slot) :: (.val (.int (dp : Nat)) : Slot) :: (.no : Slot) :: (.no : Slot) :: (.no : Slot) :: (.no : Slot) :: (.no : Slot) :: (.no : Slot) :: (.no : Slot) :: (.no : Slot) :: (.no : Slot) :: (.no : Slot) :: (.no : Slot) :: (.val (nm "a") : Slot) :: (.val (nm "b") : Slot) :: (.val (nm "c") : Slot) :: (.val (nm "d") : Slot) :: (.own false (AL .p2 0 (1 + 2 * a)) : Slot) :: (.own false (BL .p2 0 (1 + 2 * b)) : Slot) :: (.val (fz0 .p2 0 0) : Slot) :: (.val (fz0 .p3 c d) : Slot) :: (.no : Slot) :: (.no : Slot) :: (.val (.int ((1 + 2 * a : Nat) : Int)) : Slot) :: (.val (.int ((1 + 2 * b : Nat) : Int)) : Slot) :: (.val (.int (c : Nat)) : Slot) :: (.val (.int (d : Nat)) : Slot) :: (.own false (AL .p3 0 c) : Slot) :: (.own false (BL .p3 0 d) : Slot) :: (.no : Slot) :: (.no : Slot) :: (.no : Slot) :: ([] : Fm)) := call_io3 (i := 0) (j := 29) (l := 30) (io := true) (io2 := false) (io3 := false) rfl rfl rfl (by decide) (by decide) p6 (nl_runD _) (box_nl o6)
  have l1 := sM_len .p2 m 0 0
  have l2 := sM_len .p3 m' 0 0
  have q3 := bin_ee (op := .Add) (bin_ee (op := .Add) q1 (V_wh (cf := runF tb (k+120))) (run_add _ _ (by rw [l1, List.length_singleton]; omega))) q2 (run_add _ _ (by rw [List.length_append, l1, l2, List.length_singleton]; omega))
  have e15 : ev (runF tb (k+120)) s_law_right_15 ((.own true b4 : Slot) :: (.val (bk (ph true)) : Slot) :: (.val (.bool true) : Slot) :: (.val (.int (dp : Nat)) : Slot) :: (.no : Slot) :: (.no : Slot) :: (.no : Slot) :: (.no : Slot) :: (.no : Slot) :: (.no : Slot) :: (.no : Slot) :: (.no : Slot) :: (.no : Slot) :: (.no : Slot) :: (.no : Slot) :: (.val (nm "a") : Slot) :: (.val (nm "b") : Slot) :: (.val (nm "c") : Slot) :: (.val (nm "d") : Slot) :: (.own false (AL .p2 0 (1 + 2 * a)) : Slot) :: (.own false (BL .p2 0 (1 + 2 * b)) : Slot) :: (.val (fz0 .p2 0 0) : Slot) :: (.val (fz0 .p3 c d) : Slot) :: (.no : Slot) :: (.no : Slot) :: (.val (.int ((1 + 2 * a : Nat) : Int)) : Slot) :: (.val (.int ((1 + 2 * b : Nat) : Int)) : Slot) :: (.val (.int (c : Nat)) : Slot) :: (.val (.int (d : Nat)) : Slot) :: (.own false (AL .p3 0 c) : Slot) :: (.own false (BL .p3 0 d) : Slot) :: (.no : Slot) :: (.no : Slot) :: (.no : Slot) :: ([] : Fm)) = .ok (.fl .nx) ((.own true b6 : Slot) :: (.val (bk (ph true)) : Slot) :: (.val (.bool true) : Slot) :: (.val (.int (dp : Nat)) : Slot) :: (.no : Slot) :: (.no : Slot) :: (.no : Slot) :: (.no : Slot) :: (.no : Slot) :: (.no : Slot) :: (.no : Slot) :: (.no : Slot) :: (.no : Slot) :: (.no : Slot) :: (.no : Slot) :: (.val (nm "a") : Slot) :: (.val (nm "b") : Slot) :: (.val (nm "c") : Slot) :: (.val (nm "d") : Slot) :: (.own false (AL .p2 0 (1 + 2 * a)) : Slot) :: (.own false (BL .p2 0 (1 + 2 * b)) : Slot) :: (.val (fz0 .p2 0 0) : Slot) :: (.val (fz0 .p3 c d) : Slot) :: (.val (runD ((sM .p2 0 0 m ++ [([], 4)]) ++ sM .p3 0 0 m')) : Slot) :: (.no : Slot) :: (.val (.int ((1 + 2 * a : Nat) : Int)) : Slot) :: (.val (.int ((1 + 2 * b : Nat) : Int)) : Slot) :: (.val (.int (c : Nat)) : Slot) :: (.val (.int (d : Nat)) : Slot) :: (.own false (AL .p3 0 c) : Slot) :: (.own false (BL .p3 0 d) : Slot) :: (.no : Slot) :: (.no : Slot) :: (.no : Slot) :: ([] : Fm)) := asg_v (i := 23) q3 rfl
  have fl : [sM .p2 0 0 m, [([], 4)], sM .p3 0 0 m'].flatten = (sM .p2 0 0 m ++ [([], 4)]) ++ sM .p3 0 0 m' := by simp only [List.flatten_cons, List.flatten_nil, List.append_nil, List.append_assoc]
  refine ⟨fz0 .p2 0 0, fz0 .p3 c d, [sM .p2 0 0 m, [([], 4)], sM .p3 0 0 m'], [sM .p2 0 0 (srt (c0 m) (c1 m)), [([], 4)], sM .p3 0 0 (srt (c0 m') (c1 m'))], b6, .own false (AL .p2 0 (1 + 2 * a)), .own false (BL .p2 0 (1 + 2 * b)), .val (.int ((1 + 2 * a : Nat) : Int)), .val (.int ((1 + 2 * b : Nat) : Int)), .val (.int (c : Nat)), .val (.int (d : Nat)), .own false (AL .p3 0 c), .own false (BL .p3 0 d), ?_, ?_, box_mono o6 (by omega)⟩
  · rw [fl]
    exact if_not (V_notT (V_var rfl)) (seq_nx e10 (seq_nx e11 (seq_nx e12 (seq_nx e13 (seq_nx e14 (seq_nx e15 rfl))))))
  · rw [← c6, ← d6]
    exact .w m m' (by omega) (by omega) (by omega)
theorem y16 (w : Bool) {n dp : Nat} (hb : Box n bx) (hn : n + 200 < 2 ^ 30) : ∃ (t u : D) (P P' : List (List Stp)) (bx' : List D) (t19 t20 t25 t26 t27 t28 t29 t30 : Slot), ev (runF tb (k+120)) s_law_right_16 ((.own true bx : Slot) :: (.val (bk (ph w)) : Slot) :: (.val (.bool w) : Slot) :: (.val (.int (dp : Nat)) : Slot) :: (.no : Slot) :: (.no : Slot) :: (.no : Slot) :: (.no : Slot) :: (.no : Slot) :: (.no : Slot) :: (.no : Slot) :: (.no : Slot) :: (.no : Slot) :: (.no : Slot) :: (.no : Slot) :: (.val (nm "a") : Slot) :: (.val (nm "b") : Slot) :: (.val (nm "c") : Slot) :: (.val (nm "d") : Slot) :: (.no : Slot) :: (.no : Slot) :: (.no : Slot) :: (.no : Slot) :: (.no : Slot) :: (.no : Slot) :: (.no : Slot) :: (.no : Slot) :: (.no : Slot) :: (.no : Slot) :: (.no : Slot) :: (.no : Slot) :: (.no : Slot) :: (.no : Slot) :: (.no : Slot) :: ([] : Fm)) = .ok (.fl .nx) ((.own true bx' : Slot) :: (.val (bk (ph w)) : Slot) :: (.val (.bool w) : Slot) :: (.val (.int (dp : Nat)) : Slot) :: (.no : Slot) :: (.no : Slot) :: (.no : Slot) :: (.no : Slot) :: (.no : Slot) :: (.no : Slot) :: (.no : Slot) :: (.no : Slot) :: (.no : Slot) :: (.no : Slot) :: (.no : Slot) :: (.val (nm "a") : Slot) :: (.val (nm "b") : Slot) :: (.val (nm "c") : Slot) :: (.val (nm "d") : Slot) :: (t19) :: (t20) :: (.val t : Slot) :: (.val u : Slot) :: (.val (runD P.flatten) : Slot) :: (.no : Slot) :: (t25) :: (t26) :: (t27) :: (t28) :: (t29) :: (t30) :: (.no : Slot) :: (.no : Slot) :: (.no : Slot) :: ([] : Fm)) ∧ Kd w t u P P' ∧ Box (n + 60) bx' := by
  cases w with
  | false =>
    obtain ⟨t, u, P, P', bx', t19, t20, t25, t26, h1, h2, h3⟩ := s16a k hb (dp := dp) (by omega)
    exact ⟨t, u, P, P', bx', t19, t20, t25, t26, .no, .no, .no, .no, h1, h2, h3⟩
  | true => exact s16b k hb hn
end
end L2.Mp
set_option Elab.async false
set_option linter.all false
set_option maxRecDepth 100000
set_option maxHeartbeats 0
namespace L2.Mp
open PySem PySem.Spec PyProof.Rows L2
theorem row_add (dp : Nat) (hd : dp < 3) (q : List Int) (h : q.length ≤ 100) : binD .Add (rowD (pl dp [])) (rowD q) = some (.v (rowD (pl dp q))) := by
  have e1 : (pl dp []).map PyData.int ++ q.map PyData.int = (pl dp q).map PyData.int := by
    rw [← List.map_append]
    unfold pl
    rw [List.append_nil]
  show binD .Add (.tuple ((pl dp []).map PyData.int)) (.tuple (q.map PyData.int)) = _
  rw [b_addt, if_pos, e1]
  · rfl
  · rw [List.length_map, List.length_map]
    unfold pl LINE
    rw [List.length_append, List.length_replicate, List.length_nil]
    omega
theorem mult0 : ∀ (dp : Nat), dp < 3 → binD .Mult (.tuple [.int 0]) (.int (dp : Nat)) = some (.v (rowD (pl dp [])))
  | 0, _ => rfl
  | 1, _ => rfl
  | 2, _ => rfl
  | m + 3, h => by omega
theorem fm_len1 (n : Int) : ∀ ss : List Stp, (ss.filterMap fun s => if s.2 = n then some (PyData.int 1) else none).length = (ss.filter fun s => decide (s.2 = n)).length
  | [] => rfl
  | s :: r => by
    have ih := fm_len1 n r
    by_cases h : s.2 = n
    · simp only [List.filterMap_cons, List.filter_cons, h, if_true, decide_true, List.length_cons, ih]
    · simp only [List.filterMap_cons, List.filter_cons, h, if_false, decide_false, Bool.false_eq_true, ih]
section
variable (k : Nat)
variable {s0 s1 s2 s3 s4 s5 s6 s7 s8 s9 s10 s11 s12 s13 s14 s15 s16 s17 s18 s19 s20 s21 s22 s23 s24 s25 s26 s27 s28 s29 s30 s31 s32 s33 : Slot}
variable {p : Ph} {w : Bool} {dp : Nat} {t u d : D} {ss ss' S : List Stp}
theorem y_deep : ∀ {dp : Nat}, dp < 3 → ∃ s4 : Slot, ev (runF tb (k+120)) l_law_right_0 ((s0) :: (.val (bk p) : Slot) :: (.val (.bool w) : Slot) :: (.val (.int (dp : Nat)) : Slot) :: (.no : Slot) :: (.no : Slot) :: (.no : Slot) :: (.no : Slot) :: (.no : Slot) :: (.no : Slot) :: (.no : Slot) :: (.no : Slot) :: (.no : Slot) :: (.no : Slot) :: (.no : Slot) :: (s15) :: (s16) :: (s17) :: (s18) :: (s19) :: (s20) :: (.val t : Slot) :: (.val u : Slot) :: (.val (runD S) : Slot) :: (.no : Slot) :: (s25) :: (s26) :: (s27) :: (s28) :: (s29) :: (s30) :: (.no : Slot) :: (.no : Slot) :: (.no : Slot) :: ([] : Fm)) = .ok (.fl .nx) ((s0) :: (.val (bk p) : Slot) :: (.val (.bool w) : Slot) :: (.val (.int (dp : Nat)) : Slot) :: (s4) :: (.no : Slot) :: (.no : Slot) :: (.no : Slot) :: (.no : Slot) :: (.no : Slot) :: (.no : Slot) :: (.no : Slot) :: (.no : Slot) :: (.no : Slot) :: (.no : Slot) :: (s15) :: (s16) :: (s17) :: (s18) :: (s19) :: (s20) :: (.val (gT dp t) : Slot) :: (.val (gT dp u) : Slot) :: (.val (runD S) : Slot) :: (.no : Slot) :: (s25) :: (s26) :: (s27) :: (s28) :: (s29) :: (s30) :: (.no : Slot) :: (.no : Slot) :: (.no : Slot) :: ([] : Fm))
  | 0, _ => ⟨.no, rfl⟩
  | 1, _ => ⟨.val (.int 0), rfl⟩
  | 2, _ => ⟨.val (.int 1), rfl⟩
  | m + 3, h => by omega
theorem y17 (hd : dp < 3) : ev (runF tb (k+120)) s_law_right_17 ((s0) :: (.val (bk p) : Slot) :: (.val (.bool w) : Slot) :: (.val (.int (dp : Nat)) : Slot) :: (s4) :: (.no : Slot) :: (.no : Slot) :: (.no : Slot) :: (.no : Slot) :: (.no : Slot) :: (.no : Slot) :: (.no : Slot) :: (.no : Slot) :: (.no : Slot) :: (.no : Slot) :: (s15) :: (s16) :: (s17) :: (s18) :: (s19) :: (s20) :: (.val t : Slot) :: (.val u : Slot) :: (.val (runD S) : Slot) :: (.no : Slot) :: (s25) :: (s26) :: (s27) :: (s28) :: (s29) :: (s30) :: (.no : Slot) :: (.no : Slot) :: (.no : Slot) :: ([] : Fm)) = .ok (.fl .nx) ((s0) :: (.val (bk p) : Slot) :: (.val (.bool w) : Slot) :: (.val (.int (dp : Nat)) : Slot) :: (s4) :: (.val (rowD (pl dp [])) : Slot) :: (.no : Slot) :: (.no : Slot) :: (.no : Slot) :: (.no : Slot) :: (.no : Slot) :: (.no : Slot) :: (.no : Slot) :: (.no : Slot) :: (.no : Slot) :: (s15) :: (s16) :: (s17) :: (s18) :: (s19) :: (s20) :: (.val t : Slot) :: (.val u : Slot) :: (.val (runD S) : Slot) :: (.no : Slot) :: (s25) :: (s26) :: (s27) :: (s28) :: (s29) :: (s30) :: (.no : Slot) :: (.no : Slot) :: (.no : Slot) :: ([] : Fm)) :=
  asg_v (i := 5) (d := rowD (pl dp [])) (V_bin (V_tup (Vs_cons (V_c _) Vs_nil) one_line) (V_var rfl) (mult0 dp hd)) rfl
theorem y18 (hd : dp < 3) (hl : S.length ≤ 60) (hs : ∀ s ∈ S, s.1.length ≤ 1) : ev (runF tb (k+120)) s_law_right_18 ((s0) :: (.val (bk p) : Slot) :: (.val (.bool w) : Slot) :: (.val (.int (dp : Nat)) : Slot) :: (s4) :: (.val (rowD (pl dp [])) : Slot) :: (.no : Slot) :: (.no : Slot) :: (.no : Slot) :: (.no : Slot) :: (.no : Slot) :: (.no : Slot) :: (.no : Slot) :: (.no : Slot) :: (.no : Slot) :: (s15) :: (s16) :: (s17) :: (s18) :: (s19) :: (s20) :: (.val t : Slot) :: (.val u : Slot) :: (.val (runD S) : Slot) :: (.no : Slot) :: (s25) :: (s26) :: (s27) :: (s28) :: (s29) :: (s30) :: (.no : Slot) :: (.no : Slot) :: (.no : Slot) :: ([] : Fm)) = .ok (.fl .nx) ((s0) :: (.val (bk p) : Slot) :: (.val (.bool w) : Slot) :: (.val (.int (dp : Nat)) : Slot) :: (s4) :: (.val (rowD (pl dp [])) : Slot) :: (.val (runD (preN dp S)) : Slot) :: (.no : Slot) :: (.no : Slot) :: (.no : Slot) :: (.no : Slot) :: (.no : Slot) :: (.no : Slot) :: (.no : Slot) :: (.no : Slot) :: (s15) :: (s16) :: (s17) :: (s18) :: (s19) :: (s20) :: (.val t : Slot) :: (.val u : Slot) :: (.val (runD S) : Slot) :: (.no : Slot) :: (s25) :: (s26) :: (s27) :: (s28) :: (s29) :: (s30) :: (.no : Slot) :: (.no : Slot) :: (.no : Slot) :: ([] : Fm)) := by
  have c : O (runF tb (k+120)) ((s0) :: (.val (bk p) : Slot) :: (.val (.bool w) : Slot) :: (.val (.int (dp : Nat)) : Slot) :: (s4) :: (.val (rowD (pl dp [])) : Slot) :: (.no : Slot) :: (.no : Slot) :: (.no : Slot) :: (.no : Slot) :: (.no : Slot) :: (.no : Slot) :: (.no : Slot) :: (.no : Slot) :: (.no : Slot) :: (s15) :: (s16) :: (s17) :: (s18) :: (s19) :: (s20) :: (.val t : Slot) :: (.val u : Slot) :: (.val (runD S) : Slot) :: (.no : Slot) :: (s25) :: (s26) :: (s27) :: (s28) :: (s29) :: (s30) :: (.no : Slot) :: (.no : Slot) :: (.no : Slot) :: ([] : Fm)) c_law_right_6 (S.map fun s => encS (pl dp s.1, s.2)) :=
    comp_map (cf := runF tb (k+120)) (own := [32, 24]) (tg := .tT (.cons (.tN 32) (.cons (.tN 24) .nil))) (elt := .tup (.cons (.bin .Add (.var 5) (.var 32)) (.cons (.var 24) .nil))) (e1 := ((s0) :: (.val (bk p) : Slot) :: (.val (.bool w) : Slot) :: (.val (.int (dp : Nat)) : Slot) :: (s4) :: (.val (rowD (pl dp [])) : Slot) :: (.no : Slot) :: (.no : Slot) :: (.no : Slot) :: (.no : Slot) :: (.no : Slot) :: (.no : Slot) :: (.no : Slot) :: (.no : Slot) :: (.no : Slot) :: (s15) :: (s16) :: (s17) :: (s18) :: (s19) :: (s20) :: (.val t : Slot) :: (.val u : Slot) :: (.val (runD S) : Slot) :: (.no : Slot) :: (s25) :: (s26) :: (s27) :: (s28) :: (s29) :: (s30) :: (.no : Slot) :: (.no : Slot) :: (.no : Slot) :: ([] : Fm))) encS (fun s => encS (pl dp s.1, s.2)) (src_seq_t (V_var rfl)) (by unfold LINE; omega) rfl fun s h =>
      ⟨((s0) :: (.val (bk p) : Slot) :: (.val (.bool w) : Slot) :: (.val (.int (dp : Nat)) : Slot) :: (s4) :: (.val (rowD (pl dp [])) : Slot) :: (.no : Slot) :: (.no : Slot) :: (.no : Slot) :: (.no : Slot) :: (.no : Slot) :: (.no : Slot) :: (.no : Slot) :: (.no : Slot) :: (.no : Slot) :: (s15) :: (s16) :: (s17) :: (s18) :: (s19) :: (s20) :: (.val t : Slot) :: (.val u : Slot) :: (.val (runD S) : Slot) :: (.val (.int s.2) : Slot) :: (s25) :: (s26) :: (s27) :: (s28) :: (s29) :: (s30) :: (.no : Slot) :: (.val (rowD s.1) : Slot) :: (.no : Slot) :: ([] : Fm)), .v _, rfl, rfl, V_tup (Vs_cons (V_bin (V_var rfl) (V_var rfl) (row_add dp hd s.1 (by have := hs s h; omega))) (Vs_cons (V_var rfl) Vs_nil)) two_line, rfl⟩
  have e : runD (preN dp S) = .tuple (S.map fun s => encS (pl dp s.1, s.2)) := by
    unfold runD
    rw [preN_eq, List.map_map]
    rfl
  rw [e]
  exact asg_v (i := 6) (V_tupO c) rfl
theorem y19 (hl : ss.length ≤ 60) : ev (runF tb (k+120)) s_law_right_19 ((s0) :: (.val (bk p) : Slot) :: (.val (.bool w) : Slot) :: (.val (.int (dp : Nat)) : Slot) :: (s4) :: (s5) :: (.val (runD ss) : Slot) :: (.no : Slot) :: (.no : Slot) :: (.no : Slot) :: (.no : Slot) :: (.no : Slot) :: (.no : Slot) :: (.no : Slot) :: (.no : Slot) :: (s15) :: (s16) :: (s17) :: (s18) :: (s19) :: (s20) :: (.val t : Slot) :: (.val u : Slot) :: (.val (runD S) : Slot) :: (.no : Slot) :: (s25) :: (s26) :: (s27) :: (s28) :: (s29) :: (s30) :: (.no : Slot) :: (.no : Slot) :: (.no : Slot) :: ([] : Fm)) = .ok (.fl .nx) ((s0) :: (.val (bk p) : Slot) :: (.val (.bool w) : Slot) :: (.val (.int (dp : Nat)) : Slot) :: (s4) :: (s5) :: (.val (runD ss) : Slot) :: (.val (rowD (cnt ss)) : Slot) :: (.no : Slot) :: (.no : Slot) :: (.no : Slot) :: (.no : Slot) :: (.no : Slot) :: (.no : Slot) :: (.no : Slot) :: (s15) :: (s16) :: (s17) :: (s18) :: (s19) :: (s20) :: (.val t : Slot) :: (.val u : Slot) :: (.val (runD S) : Slot) :: (.no : Slot) :: (s25) :: (s26) :: (s27) :: (s28) :: (s29) :: (s30) :: (.no : Slot) :: (.no : Slot) :: (.no : Slot) :: ([] : Fm)) := by
  have inner (n : Nat) : O (runF tb (k+120)) ((s0) :: (.val (bk p) : Slot) :: (.val (.bool w) : Slot) :: (.val (.int (dp : Nat)) : Slot) :: (s4) :: (s5) :: (.val (runD ss) : Slot) :: (.no : Slot) :: (.no : Slot) :: (.no : Slot) :: (.no : Slot) :: (.no : Slot) :: (.no : Slot) :: (.no : Slot) :: (.no : Slot) :: (s15) :: (s16) :: (s17) :: (s18) :: (s19) :: (s20) :: (.val t : Slot) :: (.val u : Slot) :: (.val (runD S) : Slot) :: (.no : Slot) :: (s25) :: (s26) :: (s27) :: (s28) :: (s29) :: (s30) :: (.val (.int (0 + (n : Nat))) : Slot) :: (.no : Slot) :: (.no : Slot) :: ([] : Fm)) c_law_right_7 (ss.filterMap fun s => if s.2 = (n : Int) then some (.int 1) else none) := by
    refine comp_fm encS (fun s => if s.2 = (n : Int) then some (.int 1) else none) (src_seq_t (V_var rfl)) (by unfold LINE; omega) rfl fun s hs => ⟨((s0) :: (.val (bk p) : Slot) :: (.val (.bool w) : Slot) :: (.val (.int (dp : Nat)) : Slot) :: (s4) :: (s5) :: (.val (runD ss) : Slot) :: (.no : Slot) :: (.no : Slot) :: (.no : Slot) :: (.no : Slot) :: (.no : Slot) :: (.no : Slot) :: (.no : Slot) :: (.no : Slot) :: (s15) :: (s16) :: (s17) :: (s18) :: (s19) :: (s20) :: (.val t : Slot) :: (.val u : Slot) :: (.val (runD S) : Slot) :: (.val (.int s.2) : Slot) :: (s25) :: (s26) :: (s27) :: (s28) :: (s29) :: (s30) :: (.val (.int (0 + (n : Nat))) : Slot) :: (.val (rowD s.1) : Slot) :: (.no : Slot) :: ([] : Fm)), rfl, rfl, ?_⟩
    have c : V (runF tb (k+120)) ((s0) :: (.val (bk p) : Slot) :: (.val (.bool w) : Slot) :: (.val (.int (dp : Nat)) : Slot) :: (s4) :: (s5) :: (.val (runD ss) : Slot) :: (.no : Slot) :: (.no : Slot) :: (.no : Slot) :: (.no : Slot) :: (.no : Slot) :: (.no : Slot) :: (.no : Slot) :: (.no : Slot) :: (s15) :: (s16) :: (s17) :: (s18) :: (s19) :: (s20) :: (.val t : Slot) :: (.val u : Slot) :: (.val (runD S) : Slot) :: (.val (.int s.2) : Slot) :: (s25) :: (s26) :: (s27) :: (s28) :: (s29) :: (s30) :: (.val (.int (0 + (n : Nat))) : Slot) :: (.val (rowD s.1) : Slot) :: (.no : Slot) :: ([] : Fm)) (.cmp .Eq (.var 24) (.var 31)) (.bool (decide (s.2 = (n : Int)))) := V_cmp (V_var rfl) (V_var rfl) (by rw [c_eq, Int.zero_add])
    by_cases h : s.2 = (n : Int)
    · rw [decide_eq_true h] at c
      exact .inr ⟨.int 1, .v (.int 1), if_pos h, evC_V c, V_c _, rfl⟩
    · rw [decide_eq_false h] at c
      exact .inl ⟨if_neg h, evC_V c⟩
  have outer : O (runF tb (k+120)) ((s0) :: (.val (bk p) : Slot) :: (.val (.bool w) : Slot) :: (.val (.int (dp : Nat)) : Slot) :: (s4) :: (s5) :: (.val (runD ss) : Slot) :: (.no : Slot) :: (.no : Slot) :: (.no : Slot) :: (.no : Slot) :: (.no : Slot) :: (.no : Slot) :: (.no : Slot) :: (.no : Slot) :: (s15) :: (s16) :: (s17) :: (s18) :: (s19) :: (s20) :: (.val t : Slot) :: (.val u : Slot) :: (.val (runD S) : Slot) :: (.no : Slot) :: (s25) :: (s26) :: (s27) :: (s28) :: (s29) :: (s30) :: (.no : Slot) :: (.no : Slot) :: (.no : Slot) :: ([] : Fm)) c_law_right_8 ((List.range 5).map fun n : Nat => .int (((ss.filter fun s => decide (s.2 = (n : Int))).length : Nat) : Int)) := by
    refine comp_map (cf := runF tb (k+120)) (own := [31]) (tg := .tN 31) (elt := .prim .len (.cons c_law_right_7 .nil)) (e1 := ((s0) :: (.val (bk p) : Slot) :: (.val (.bool w) : Slot) :: (.val (.int (dp : Nat)) : Slot) :: (s4) :: (s5) :: (.val (runD ss) : Slot) :: (.no : Slot) :: (.no : Slot) :: (.no : Slot) :: (.no : Slot) :: (.no : Slot) :: (.no : Slot) :: (.no : Slot) :: (.no : Slot) :: (s15) :: (s16) :: (s17) :: (s18) :: (s19) :: (s20) :: (.val t : Slot) :: (.val u : Slot) :: (.val (runD S) : Slot) :: (.no : Slot) :: (s25) :: (s26) :: (s27) :: (s28) :: (s29) :: (s30) :: (.no : Slot) :: (.no : Slot) :: (.no : Slot) :: ([] : Fm))) (fun i : Nat => PyData.int (0 + (i : Nat))) (fun n : Nat => .int (((ss.filter fun s => decide (s.2 = (n : Int))).length : Nat) : Int)) (sR1_ok (n := 5) (V_c _) (by omega)) (by rw [List.length_range]; unfold LINE; omega) rfl fun n hn => ?_
    exact ⟨((s0) :: (.val (bk p) : Slot) :: (.val (.bool w) : Slot) :: (.val (.int (dp : Nat)) : Slot) :: (s4) :: (s5) :: (.val (runD ss) : Slot) :: (.no : Slot) :: (.no : Slot) :: (.no : Slot) :: (.no : Slot) :: (.no : Slot) :: (.no : Slot) :: (.no : Slot) :: (.no : Slot) :: (s15) :: (s16) :: (s17) :: (s18) :: (s19) :: (s20) :: (.val t : Slot) :: (.val u : Slot) :: (.val (runD S) : Slot) :: (.no : Slot) :: (s25) :: (s26) :: (s27) :: (s28) :: (s29) :: (s30) :: (.val (.int (0 + (n : Nat))) : Slot) :: (.no : Slot) :: (.no : Slot) :: ([] : Fm)), .v _, rfl, rfl, V_prim (Vs_consO (inner n) Vs_nil) (by rw [p_len_l, fm_len1]), rfl⟩
  have e1 : ((List.range 5).map fun n : Nat => PyData.int (((ss.filter fun s => decide (s.2 = (n : Int))).length : Nat) : Int)) = (cnt ss).map .int := by unfold cnt; rw [List.map_map]; rfl
  rw [e1] at outer
  exact asg_v (i := 7) (d := rowD (cnt ss)) (V_tupO outer) rfl
variable {N : Nat}
theorem y20 (h : TL p t u ss ss' d N) : ev (runF tb (k+120)) s_law_right_20 ((s0) :: (.val (bk p) : Slot) :: (.val (.bool w) : Slot) :: (.val (.int (dp : Nat)) : Slot) :: (s4) :: (s5) :: (.val (runD ss) : Slot) :: (.val (rowD (cnt ss)) : Slot) :: (.no : Slot) :: (.no : Slot) :: (.no : Slot) :: (.no : Slot) :: (.no : Slot) :: (.no : Slot) :: (.no : Slot) :: (s15) :: (s16) :: (s17) :: (s18) :: (s19) :: (s20) :: (.val t : Slot) :: (.val u : Slot) :: (.val (runD S) : Slot) :: (.no : Slot) :: (s25) :: (s26) :: (s27) :: (s28) :: (s29) :: (s30) :: (.no : Slot) :: (.no : Slot) :: (.no : Slot) :: ([] : Fm)) = .ok (.fl .nx) ((s0) :: (.val (bk p) : Slot) :: (.val (.bool w) : Slot) :: (.val (.int (dp : Nat)) : Slot) :: (s4) :: (s5) :: (.val (runD ss) : Slot) :: (.val (rowD (cnt ss)) : Slot) :: (.own false [u, .bool true, rowD (cnt ss)] : Slot) :: (.no : Slot) :: (.no : Slot) :: (.no : Slot) :: (.no : Slot) :: (.no : Slot) :: (.no : Slot) :: (s15) :: (s16) :: (s17) :: (s18) :: (s19) :: (s20) :: (.val t : Slot) :: (.val u : Slot) :: (.val (runD S) : Slot) :: (.no : Slot) :: (s25) :: (s26) :: (s27) :: (s28) :: (s29) :: (s30) :: (.no : Slot) :: (.no : Slot) :: (.no : Slot) :: ([] : Fm)) :=
  asg_l (i := 8) (O_lst (Vs_cons (V_call (Vs_cons (V_var rfl) (Vs_cons (V_var rfl) (Vs_cons (V_var rfl) Vs_nil))) (s_end (k+109) h.fit)) (Vs_cons (V_call (Vs_cons (V_var rfl) (Vs_cons (V_var rfl) (Vs_cons (V_var rfl) (Vs_cons (V_var rfl) Vs_nil)))) (s_is_run (k+110) h.fit h.uu)) (Vs_cons (V_call (Vs_cons (V_var rfl) (Vs_cons (V_var rfl) Vs_nil)) (s_counts_of (k+110) p h.fit.len fun s hs => ⟨h.fit.nn s hs, h.nn s hs⟩)) Vs_nil))) three_line) rfl
theorem okc (ss : List Stp) : okD (rowD (cnt ss)) = true := okD_row _ (by rw [cnt_len]; omega)
theorem y21 (h : TL p t u ss ss' d N) : ev (runF tb (k+120)) s_law_right_21 ((s0) :: (.val (bk p) : Slot) :: (.val (.bool w) : Slot) :: (.val (.int (dp : Nat)) : Slot) :: (s4) :: (s5) :: (.val (runD ss) : Slot) :: (.val (rowD (cnt ss)) : Slot) :: (.own false [u, .bool true, rowD (cnt ss)] : Slot) :: (.no : Slot) :: (.no : Slot) :: (.no : Slot) :: (.no : Slot) :: (.no : Slot) :: (.no : Slot) :: (s15) :: (s16) :: (s17) :: (s18) :: (s19) :: (s20) :: (.val t : Slot) :: (.val u : Slot) :: (.val (runD S) : Slot) :: (.no : Slot) :: (s25) :: (s26) :: (s27) :: (s28) :: (s29) :: (s30) :: (.no : Slot) :: (.no : Slot) :: (.no : Slot) :: ([] : Fm)) = .ok (.fl .nx) ((s0) :: (.val (bk p) : Slot) :: (.val (.bool w) : Slot) :: (.val (.int (dp : Nat)) : Slot) :: (s4) :: (s5) :: (.val (runD ss) : Slot) :: (.val (rowD (cnt ss)) : Slot) :: (.own false [u, .bool true, rowD (cnt ss)] : Slot) :: (.no : Slot) :: (.no : Slot) :: (.no : Slot) :: (.no : Slot) :: (.no : Slot) :: (.no : Slot) :: (s15) :: (s16) :: (s17) :: (s18) :: (s19) :: (s20) :: (.val t : Slot) :: (.val u : Slot) :: (.val (runD S) : Slot) :: (.no : Slot) :: (s25) :: (s26) :: (s27) :: (s28) :: (s29) :: (s30) :: (.no : Slot) :: (.no : Slot) :: (.no : Slot) :: ([] : Fm)) :=
  same_ib (i := 8) (ds := [u, .bool true, rowD (cnt ss)]) rfl (O_lst (Vs_cons (V_var rfl) (Vs_cons (V_c _) (Vs_cons (V_var rfl) Vs_nil))) three_line) (s_same _ (k+120)
    (by
      show (okD u && (true && (okD (rowD (cnt ss)) && true))) = true
      rw [h.oku.1, okc]
      rfl)
    (by
      have h1 := h.oku.2
      have h2 := hgt_row (cnt ss)
      show max (hgt u) (max 0 (max (hgt (rowD (cnt ss))) 0)) + 1 < k + 120
      omega))
theorem y22 (h : TL p t u ss ss' d N) (hN : N ≤ 100) (h8 : storable (some s8) = true) : ev (runF tb (k+120)) s_law_right_22 ((s0) :: (.val (bk p) : Slot) :: (.val (.bool w) : Slot) :: (.val (.int (dp : Nat)) : Slot) :: (s4) :: (s5) :: (.val (runD ss) : Slot) :: (.val (rowD (cnt ss)) : Slot) :: (s8) :: (.no : Slot) :: (.no : Slot) :: (.no : Slot) :: (.no : Slot) :: (.no : Slot) :: (.no : Slot) :: (s15) :: (s16) :: (s17) :: (s18) :: (s19) :: (s20) :: (.val t : Slot) :: (.val u : Slot) :: (.val (runD S) : Slot) :: (.no : Slot) :: (s25) :: (s26) :: (s27) :: (s28) :: (s29) :: (s30) :: (.no : Slot) :: (.no : Slot) :: (.no : Slot) :: ([] : Fm)) = .ok (.fl .nx) ((s0) :: (.val (bk p) : Slot) :: (.val (.bool w) : Slot) :: (.val (.int (dp : Nat)) : Slot) :: (s4) :: (s5) :: (.val (runD ss) : Slot) :: (.val (rowD (cnt ss)) : Slot) :: (s8) :: (.val d : Slot) :: (.no : Slot) :: (.no : Slot) :: (.no : Slot) :: (.no : Slot) :: (.no : Slot) :: (s15) :: (s16) :: (s17) :: (s18) :: (s19) :: (s20) :: (.val t : Slot) :: (.val u : Slot) :: (.val (runD S) : Slot) :: (.no : Slot) :: (s25) :: (s26) :: (s27) :: (s28) :: (s29) :: (s30) :: (.no : Slot) :: (.no : Slot) :: (.no : Slot) :: ([] : Fm)) :=
  asg_v (i := 9) (V_call (Vs_cons (V_var rfl) (Vs_cons (V_var rfl) (Vs_cons (V_var rfl) Vs_nil))) (s_derivation h.fit h.md (k+120) (by omega))) rfl
theorem y23 (h : TL p t u ss ss' d N) (hN : N ≤ 100) : ev (runF tb (k+120)) s_law_right_23 ((s0) :: (.val (bk p) : Slot) :: (.val (.bool w) : Slot) :: (.val (.int (dp : Nat)) : Slot) :: (s4) :: (s5) :: (.val (runD ss) : Slot) :: (.val (rowD (cnt ss)) : Slot) :: (s8) :: (.val d : Slot) :: (.no : Slot) :: (.no : Slot) :: (.no : Slot) :: (.no : Slot) :: (.no : Slot) :: (s15) :: (s16) :: (s17) :: (s18) :: (s19) :: (s20) :: (.val t : Slot) :: (.val u : Slot) :: (.val (runD S) : Slot) :: (.no : Slot) :: (s25) :: (s26) :: (s27) :: (s28) :: (s29) :: (s30) :: (.no : Slot) :: (.no : Slot) :: (.no : Slot) :: ([] : Fm)) = .ok (.fl .nx) ((s0) :: (.val (bk p) : Slot) :: (.val (.bool w) : Slot) :: (.val (.int (dp : Nat)) : Slot) :: (s4) :: (s5) :: (.val (runD ss) : Slot) :: (.val (rowD (cnt ss)) : Slot) :: (s8) :: (.val d : Slot) :: (.val (runD ss') : Slot) :: (.no : Slot) :: (.no : Slot) :: (.no : Slot) :: (.no : Slot) :: (s15) :: (s16) :: (s17) :: (s18) :: (s19) :: (s20) :: (.val t : Slot) :: (.val u : Slot) :: (.val (runD S) : Slot) :: (.no : Slot) :: (s25) :: (s26) :: (s27) :: (s28) :: (s29) :: (s30) :: (.no : Slot) :: (.no : Slot) :: (.no : Slot) :: ([] : Fm)) :=
  asg_v (i := 10) (V_call (Vs_cons (V_var rfl) (Vs_cons (V_var rfl) Vs_nil)) (s_run_of h.dr (k+120) (by omega))) rfl
theorem four_line : (4 : Nat) ≤ LINE := by unfold LINE; omega
theorem y24 (h : TL p t u ss ss' d N) (hN : N ≤ 100) (h8 : storable (some s8) = true) : ev (runF tb (k+120)) s_law_right_24 ((s0) :: (.val (bk p) : Slot) :: (.val (.bool w) : Slot) :: (.val (.int (dp : Nat)) : Slot) :: (s4) :: (s5) :: (.val (runD ss) : Slot) :: (.val (rowD (cnt ss)) : Slot) :: (s8) :: (.val d : Slot) :: (.val (runD ss') : Slot) :: (.no : Slot) :: (.no : Slot) :: (.no : Slot) :: (.no : Slot) :: (s15) :: (s16) :: (s17) :: (s18) :: (s19) :: (s20) :: (.val t : Slot) :: (.val u : Slot) :: (.val (runD S) : Slot) :: (.no : Slot) :: (s25) :: (s26) :: (s27) :: (s28) :: (s29) :: (s30) :: (.no : Slot) :: (.no : Slot) :: (.no : Slot) :: ([] : Fm)) = .ok (.fl .nx) ((s0) :: (.val (bk p) : Slot) :: (.val (.bool w) : Slot) :: (.val (.int (dp : Nat)) : Slot) :: (s4) :: (s5) :: (.val (runD ss) : Slot) :: (.val (rowD (cnt ss)) : Slot) :: (.own false [.tuple [t, u], rowD (cnt ss), .list (sortD (ss.map encS)), .bool true] : Slot) :: (.val d : Slot) :: (.val (runD ss') : Slot) :: (.no : Slot) :: (.no : Slot) :: (.no : Slot) :: (.no : Slot) :: (s15) :: (s16) :: (s17) :: (s18) :: (s19) :: (s20) :: (.val t : Slot) :: (.val u : Slot) :: (.val (runD S) : Slot) :: (.no : Slot) :: (s25) :: (s26) :: (s27) :: (s28) :: (s29) :: (s30) :: (.no : Slot) :: (.no : Slot) :: (.no : Slot) :: ([] : Fm)) := by
  have c1 : runF tb (k+120) "counts_in" [.d (bk p), .d d] = .ok (.v (rowD (cnt ss))) [] := by
    rw [← cnt_perm h.perm]
    exact s_counts_in h.dr (k+120) (by omega)
  have c2 : primD .sorted [runD ss'] = some (.o (sortD (ss.map encS))) := by
    rw [← sort_perm h.perm]
    exact p_sorted h.fit'.len
  exact asg_l (i := 8) (O_lst (Vs_cons (V_call (Vs_cons (V_var rfl) (Vs_cons (V_var rfl) Vs_nil)) (s_ends_of h.dr (k+120) (by omega))) (Vs_cons (V_call (Vs_cons (V_var rfl) (Vs_cons (V_var rfl) Vs_nil)) c1) (Vs_consO (prim_r (Vs_cons (V_var rfl) Vs_nil) c2) (Vs_cons (V_call (Vs_cons (V_var rfl) (Vs_cons (V_var rfl) (Vs_cons (V_var rfl) (Vs_cons (V_var rfl) Vs_nil)))) (s_is_run (k+110) h.fit' h.uu)) Vs_nil)))) four_line) h8
theorem sort_ok (h : Fit p t u ss) : okD (.list (sortD (ss.map encS))) = true ∧ hgt (.list (sortD (ss.map encS))) ≤ 3 := by
  rw [sort_enc]
  constructor
  · show (decide (((ss.mergeSort leS).map encS).length ≤ 1000) && okDs ((ss.mergeSort leS).map encS)) = true
    rw [List.length_map, List.length_mergeSort, decide_eq_true (by have := h.len; omega), okDs_map _ _ fun s hs => okD_step (h.nn s (List.mem_mergeSort.mp hs))]
    rfl
  · have := hgts_map (n := 2) encS (ss.mergeSort leS) fun s _ => hgt_step s
    show hgts ((ss.mergeSort leS).map encS) + 1 ≤ 3
    omega
theorem y25 (h : TL p t u ss ss' d N) : ev (runF tb (k+120)) s_law_right_25 ((s0) :: (.val (bk p) : Slot) :: (.val (.bool w) : Slot) :: (.val (.int (dp : Nat)) : Slot) :: (s4) :: (s5) :: (.val (runD ss) : Slot) :: (.val (rowD (cnt ss)) : Slot) :: (.own false [.tuple [t, u], rowD (cnt ss), .list (sortD (ss.map encS)), .bool true] : Slot) :: (.val d : Slot) :: (.val (runD ss') : Slot) :: (.no : Slot) :: (.no : Slot) :: (.no : Slot) :: (.no : Slot) :: (s15) :: (s16) :: (s17) :: (s18) :: (s19) :: (s20) :: (.val t : Slot) :: (.val u : Slot) :: (.val (runD S) : Slot) :: (.no : Slot) :: (s25) :: (s26) :: (s27) :: (s28) :: (s29) :: (s30) :: (.no : Slot) :: (.no : Slot) :: (.no : Slot) :: ([] : Fm)) = .ok (.fl .nx) ((s0) :: (.val (bk p) : Slot) :: (.val (.bool w) : Slot) :: (.val (.int (dp : Nat)) : Slot) :: (s4) :: (s5) :: (.val (runD ss) : Slot) :: (.val (rowD (cnt ss)) : Slot) :: (.own false [.tuple [t, u], rowD (cnt ss), .list (sortD (ss.map encS)), .bool true] : Slot) :: (.val d : Slot) :: (.val (runD ss') : Slot) :: (.no : Slot) :: (.no : Slot) :: (.no : Slot) :: (.no : Slot) :: (s15) :: (s16) :: (s17) :: (s18) :: (s19) :: (s20) :: (.val t : Slot) :: (.val u : Slot) :: (.val (runD S) : Slot) :: (.no : Slot) :: (s25) :: (s26) :: (s27) :: (s28) :: (s29) :: (s30) :: (.no : Slot) :: (.no : Slot) :: (.no : Slot) :: ([] : Fm)) :=
  same_ib (i := 8) (ds := [.tuple [t, u], rowD (cnt ss), .list (sortD (ss.map encS)), .bool true]) rfl (O_lst (Vs_cons (V_tup (Vs_cons (V_var rfl) (Vs_cons (V_var rfl) Vs_nil)) two_line) (Vs_cons (V_var rfl) (Vs_consO (prim_r (Vs_cons (V_var rfl) Vs_nil) (p_sorted h.fit.len)) (Vs_cons (V_c _) Vs_nil)))) four_line) (s_same _ (k+120)
    (by
      show ((okD t && (okD u && true)) && (okD (rowD (cnt ss)) && (okD (.list (sortD (ss.map encS))) && (true && true)))) = true
      rw [h.okt.1, h.oku.1, okc, (sort_ok h.fit).1]
      rfl)
    (by
      have h1 := h.oku.2
      have h2 := h.okt.2
      have h3 := hgt_row (cnt ss)
      have h4 := (sort_ok h.fit).2
      show max (max (hgt t) (max (hgt u) 0) + 1) (max (hgt (rowD (cnt ss))) (max (hgt (.list (sortD (ss.map encS)))) (max 0 0))) + 1 < k + 120
      omega))
end
end L2.Mp
set_option Elab.async false
set_option linter.all false
set_option maxRecDepth 100000
set_option maxHeartbeats 0
namespace L2.Mp
open PySem PySem.Spec PyProof.Rows L2
/-! ### where the whole changes -/
def cutF (dp : Nat) (x : Int × Stp) : Option D := if x.2.2 = 4 ∧ x.2.1 = pl dp [] then some (.int x.1) else none
theorem cutF_none (dp : Nat) : ∀ (ss : List Stp) (i : Int), (∀ s ∈ ss, s.1 ≠ pl dp []) → (en i ss).filterMap (cutF dp) = []
  | [], _, _ => rfl
  | s :: r, i, h => by
    have c : cutF dp (i, s) = none := if_neg fun z => h s List.mem_cons_self z.2
    show List.filterMap (cutF dp) ((i, s) :: en (i + 1) r) = []
    rw [List.filterMap_cons, c]
    exact cutF_none dp r (i + 1) fun x hx => h x (List.mem_cons_of_mem _ hx)
theorem cutF_one (dp : Nat) (B : List Stp) (hB : ∀ s ∈ B, s.1 ≠ pl dp []) : ∀ (A : List Stp) (i : Int), (∀ s ∈ A, s.1 ≠ pl dp []) → (en i (A ++ ((pl dp [], 4) :: B))).filterMap (cutF dp) = [.int (i + (A.length : Nat))]
  | [], i, _ => by
    have c : cutF dp (i, (pl dp [], 4)) = some (.int i) := if_pos ⟨rfl, rfl⟩
    show List.filterMap (cutF dp) ((i, (pl dp [], 4)) :: en (i + 1) B) = [.int (i + ((0 : Nat) : Int))]
    rw [List.filterMap_cons, c, cutF_none dp B (i + 1) hB]
    show [PyData.int i] = [.int (i + 0)]
    rw [Int.add_zero]
  | s :: r, i, h => by
    have c : cutF dp (i, s) = none := if_neg fun z => h s List.mem_cons_self z.2
    show List.filterMap (cutF dp) ((i, s) :: en (i + 1) (r ++ ((pl dp [], 4) :: B))) = _
    rw [List.filterMap_cons, c]
    refine (cutF_one dp B hB r (i + 1) fun x hx => h x (List.mem_cons_of_mem _ hx)).trans ?_
    rw [List.length_cons]
    exact congrArg (fun z => [PyData.int z]) (by omega)
theorem pre_ne (dp : Nat) {ss : List Stp} (h : ∀ s ∈ ss, s.1.length = 1) : ∀ s ∈ preN dp ss, s.1 ≠ pl dp [] := by
  rw [preN_eq]
  intro s hs
  obtain ⟨x, hx, rfl⟩ := List.mem_map.mp hs
  intro z
  have z' := (pl_inj dp x.1 []).mp z
  have := h x hx
  rw [z'] at this
  cases this
theorem pre_flat (dp : Nat) : ∀ P : List (List Stp), (P.map (preN dp)).flatten = preN dp P.flatten
  | [] => by
    rw [preN_eq]
    rfl
  | x :: r => by
    rw [List.map_cons, List.flatten_cons, List.flatten_cons, pre_flat dp r, preN_app]
theorem V_bound {cf : CF} {e : Fm} {x : T} {i j : Int} (h : V cf e x (.int i)) (hj : i = j) : V cf e x (.int j) := hj ▸ h
section
variable (k : Nat)
variable {s0 s1 s2 s3 s4 s5 s6 s7 s8 s9 s10 s11 s12 s13 s14 s15 s16 s17 s18 s19 s20 s21 s22 s23 s24 s25 s26 s27 s28 s29 s30 s31 s32 s33 : Slot}
variable {w : Bool} {dp : Nat} {t u : D} {ss S : List Stp} {P P' : List (List Stp)}
theorem y26 (hl : S.length ≤ 60) : ev (runF tb (k+120)) s_law_right_26 ((s0) :: (s1) :: (.val (.bool w) : Slot) :: (s3) :: (s4) :: (.val (rowD (pl dp [])) : Slot) :: (.val (runD S) : Slot) :: (s7) :: (s8) :: (s9) :: (s10) :: (.no : Slot) :: (.no : Slot) :: (s13) :: (s14) :: (s15) :: (s16) :: (s17) :: (s18) :: (s19) :: (s20) :: (s21) :: (s22) :: (s23) :: (.no : Slot) :: (s25) :: (s26) :: (s27) :: (s28) :: (s29) :: (s30) :: (s31) :: (s32) :: (.no : Slot) :: ([] : Fm)) = .ok (.fl .nx) ((s0) :: (s1) :: (.val (.bool w) : Slot) :: (s3) :: (s4) :: (.val (rowD (pl dp [])) : Slot) :: (.val (runD S) : Slot) :: (s7) :: (s8) :: (s9) :: (s10) :: (.own false (if w = true then (en 0 S).filterMap (cutF dp) else []) : Slot) :: (.no : Slot) :: (s13) :: (s14) :: (s15) :: (s16) :: (s17) :: (s18) :: (s19) :: (s20) :: (s21) :: (s22) :: (s23) :: (.no : Slot) :: (s25) :: (s26) :: (s27) :: (s28) :: (s29) :: (s30) :: (s31) :: (s32) :: (.no : Slot) :: ([] : Fm)) := by
  cases w with
  | false => exact asg_l (i := 11) (e1 := ((s0) :: (s1) :: (.val (.bool false) : Slot) :: (s3) :: (s4) :: (.val (rowD (pl dp [])) : Slot) :: (.val (runD S) : Slot) :: (s7) :: (s8) :: (s9) :: (s10) :: (.no : Slot) :: (.no : Slot) :: (s13) :: (s14) :: (s15) :: (s16) :: (s17) :: (s18) :: (s19) :: (s20) :: (s21) :: (s22) :: (s23) :: (.no : Slot) :: (s25) :: (s26) :: (s27) :: (s28) :: (s29) :: (s30) :: (s31) :: (s32) :: (.no : Slot) :: ([] : Fm))) (ds := []) (ite_r (x := false) (V_var (i := 2) rfl) (fun z => nomatch z) fun _ => O_lst (ds := []) Vs_nil (Nat.zero_le _)) rfl
  | true =>
    have src : ev (runF tb (k+120)) (.sEnum (.var 6)) ((s0) :: (s1) :: (.val (.bool true) : Slot) :: (s3) :: (s4) :: (.val (rowD (pl dp [])) : Slot) :: (.val (runD S) : Slot) :: (s7) :: (s8) :: (s9) :: (s10) :: (.no : Slot) :: (.no : Slot) :: (s13) :: (s14) :: (s15) :: (s16) :: (s17) :: (s18) :: (s19) :: (s20) :: (s21) :: (s22) :: (s23) :: (.no : Slot) :: (s25) :: (s26) :: (s27) :: (s28) :: (s29) :: (s30) :: (s31) :: (s32) :: (.no : Slot) :: ([] : Fm)) = .ok (.ds ((en 0 S).map fun p => PyData.tuple [.int p.1, encS p.2])) ((s0) :: (s1) :: (.val (.bool true) : Slot) :: (s3) :: (s4) :: (.val (rowD (pl dp [])) : Slot) :: (.val (runD S) : Slot) :: (s7) :: (s8) :: (s9) :: (s10) :: (.no : Slot) :: (.no : Slot) :: (s13) :: (s14) :: (s15) :: (s16) :: (s17) :: (s18) :: (s19) :: (s20) :: (s21) :: (s22) :: (s23) :: (.no : Slot) :: (s25) :: (s26) :: (s27) :: (s28) :: (s29) :: (s30) :: (s31) :: (s32) :: (.no : Slot) :: ([] : Fm)) := by
      rw [← en_enum]
      exact src_enum_t (V_var rfl)
    refine asg_l (i := 11) (e1 := ((s0) :: (s1) :: (.val (.bool true) : Slot) :: (s3) :: (s4) :: (.val (rowD (pl dp [])) : Slot) :: (.val (runD S) : Slot) :: (s7) :: (s8) :: (s9) :: (s10) :: (.no : Slot) :: (.no : Slot) :: (s13) :: (s14) :: (s15) :: (s16) :: (s17) :: (s18) :: (s19) :: (s20) :: (s21) :: (s22) :: (s23) :: (.no : Slot) :: (s25) :: (s26) :: (s27) :: (s28) :: (s29) :: (s30) :: (s31) :: (s32) :: (.no : Slot) :: ([] : Fm))) (ds := (en 0 S).filterMap (cutF dp)) (ite_r (x := true) (V_var (i := 2) rfl) (fun _ => ?_) fun z => nomatch z) rfl
    refine comp_fm (fun p => PyData.tuple [.int p.1, encS p.2]) (cutF dp) src (by rw [en_len]; unfold LINE; omega) rfl fun x hx => ⟨((s0) :: (s1) :: (.val (.bool true) : Slot) :: (s3) :: (s4) :: (.val (rowD (pl dp [])) : Slot) :: (.val (runD S) : Slot) :: (s7) :: (s8) :: (s9) :: (s10) :: (.no : Slot) :: (.no : Slot) :: (s13) :: (s14) :: (s15) :: (s16) :: (s17) :: (s18) :: (s19) :: (s20) :: (s21) :: (s22) :: (s23) :: (.val (.int x.1) : Slot) :: (s25) :: (s26) :: (s27) :: (s28) :: (s29) :: (s30) :: (s31) :: (s32) :: (.val (encS x.2) : Slot) :: ([] : Fm)), rfl, rfl, ?_⟩
    have c1 : V (runF tb (k+120)) ((s0) :: (s1) :: (.val (.bool true) : Slot) :: (s3) :: (s4) :: (.val (rowD (pl dp [])) : Slot) :: (.val (runD S) : Slot) :: (s7) :: (s8) :: (s9) :: (s10) :: (.no : Slot) :: (.no : Slot) :: (s13) :: (s14) :: (s15) :: (s16) :: (s17) :: (s18) :: (s19) :: (s20) :: (s21) :: (s22) :: (s23) :: (.val (.int x.1) : Slot) :: (s25) :: (s26) :: (s27) :: (s28) :: (s29) :: (s30) :: (s31) :: (s32) :: (.val (encS x.2) : Slot) :: ([] : Fm)) (.cmp .Eq (.idx (.var 33) (.const (.int 1))) (.const (.int 4))) (.bool (decide (x.2.2 = 4))) := V_cmp (V_idx (V_var rfl) (V_c _) rfl) (V_c _) (c_eq _ _)
    have c2 : V (runF tb (k+120)) ((s0) :: (s1) :: (.val (.bool true) : Slot) :: (s3) :: (s4) :: (.val (rowD (pl dp [])) : Slot) :: (.val (runD S) : Slot) :: (s7) :: (s8) :: (s9) :: (s10) :: (.no : Slot) :: (.no : Slot) :: (s13) :: (s14) :: (s15) :: (s16) :: (s17) :: (s18) :: (s19) :: (s20) :: (s21) :: (s22) :: (s23) :: (.val (.int x.1) : Slot) :: (s25) :: (s26) :: (s27) :: (s28) :: (s29) :: (s30) :: (s31) :: (s32) :: (.val (encS x.2) : Slot) :: ([] : Fm)) (.one (.cmp .Eq (.idx (.var 33) (.const (.int 0))) (.var 5))) (.bool (decide (x.2.1 = pl dp []))) := V_one (V_cmp (V_idx (V_var rfl) (V_c _) rfl) (V_var rfl) (eq_row _ _))
    by_cases h1 : x.2.2 = 4
    · rw [decide_eq_true h1] at c1
      by_cases h2 : x.2.1 = pl dp []
      · rw [decide_eq_true h2] at c2
        exact .inr ⟨.int x.1, .v (.int x.1), if_pos ⟨h1, h2⟩, evC_and (V_andT c1 c2), V_var rfl, rfl⟩
      · rw [decide_eq_false h2] at c2
        exact .inl ⟨if_neg fun z => h2 z.2, evC_and (V_andT c1 c2)⟩
    · rw [decide_eq_false h1] at c1
      exact .inl ⟨if_neg fun z => h1 z.1, evC_and (V_andF c1)⟩
theorem y27a : ev (runF tb (k+120)) s_law_right_27 ((s0) :: (s1) :: (.val (.bool w) : Slot) :: (s3) :: (s4) :: (.val (rowD (pl dp [])) : Slot) :: (.val (runD S) : Slot) :: (s7) :: (s8) :: (s9) :: (s10) :: (.own false [] : Slot) :: (.no : Slot) :: (s13) :: (s14) :: (s15) :: (s16) :: (s17) :: (s18) :: (s19) :: (s20) :: (s21) :: (s22) :: (s23) :: (.no : Slot) :: (s25) :: (s26) :: (s27) :: (s28) :: (s29) :: (s30) :: (s31) :: (s32) :: (.no : Slot) :: ([] : Fm)) = .ok (.fl .nx) ((s0) :: (s1) :: (.val (.bool w) : Slot) :: (s3) :: (s4) :: (.val (rowD (pl dp [])) : Slot) :: (.val (runD S) : Slot) :: (s7) :: (s8) :: (s9) :: (s10) :: (.own false [] : Slot) :: (.own false [runD S] : Slot) :: (s13) :: (s14) :: (s15) :: (s16) :: (s17) :: (s18) :: (s19) :: (s20) :: (s21) :: (s22) :: (s23) :: (.no : Slot) :: (s25) :: (s26) :: (s27) :: (s28) :: (s29) :: (s30) :: (s31) :: (s32) :: (.no : Slot) :: ([] : Fm)) :=
  asg_l (i := 12) (ite_r (x := false) (V_cmpOb (i := 11) rfl (O_lst (ds := []) Vs_nil (Nat.zero_le _)) (ne_nilL _)) (fun z => nomatch z) fun _ => O_lst (Vs_cons (V_var rfl) Vs_nil) one_line) rfl
theorem y27b {A B : List Stp} {c : Stp} (hS : S = A ++ (c :: B)) : ev (runF tb (k+120)) s_law_right_27 ((s0) :: (s1) :: (.val (.bool w) : Slot) :: (s3) :: (s4) :: (.val (rowD (pl dp [])) : Slot) :: (.val (runD S) : Slot) :: (s7) :: (s8) :: (s9) :: (s10) :: (.own false [.int (0 + (A.length : Nat))] : Slot) :: (.no : Slot) :: (s13) :: (s14) :: (s15) :: (s16) :: (s17) :: (s18) :: (s19) :: (s20) :: (s21) :: (s22) :: (s23) :: (.no : Slot) :: (s25) :: (s26) :: (s27) :: (s28) :: (s29) :: (s30) :: (s31) :: (s32) :: (.no : Slot) :: ([] : Fm)) = .ok (.fl .nx) ((s0) :: (s1) :: (.val (.bool w) : Slot) :: (s3) :: (s4) :: (.val (rowD (pl dp [])) : Slot) :: (.val (runD S) : Slot) :: (s7) :: (s8) :: (s9) :: (s10) :: (.own false [.int (0 + (A.length : Nat))] : Slot) :: (.own false [runD A, runD [c], runD B] : Slot) :: (s13) :: (s14) :: (s15) :: (s16) :: (s17) :: (s18) :: (s19) :: (s20) :: (s21) :: (s22) :: (s23) :: (.no : Slot) :: (s25) :: (s26) :: (s27) :: (s28) :: (s29) :: (s30) :: (s31) :: (s32) :: (.no : Slot) :: ([] : Fm)) := by
  subst hS
  have l1 : (A ++ (c :: B)).length = A.length + (B.length + 1) := by rw [List.length_append, List.length_cons]
  have ix : V (runF tb (k+120)) ((s0) :: (s1) :: (.val (.bool w) : Slot) :: (s3) :: (s4) :: (.val (rowD (pl dp [])) : Slot) :: (.val (runD (A ++ (c :: B))) : Slot) :: (s7) :: (s8) :: (s9) :: (s10) :: (.own false [.int (0 + (A.length : Nat))] : Slot) :: (.no : Slot) :: (s13) :: (s14) :: (s15) :: (s16) :: (s17) :: (s18) :: (s19) :: (s20) :: (s21) :: (s22) :: (s23) :: (.no : Slot) :: (s25) :: (s26) :: (s27) :: (s28) :: (s29) :: (s30) :: (s31) :: (s32) :: (.no : Slot) :: ([] : Fm)) (.idx (.var 11) (.const (.int 0))) (.int (A.length : Nat)) := V_bound (V_idxb (i := 11) rfl (V_c _) (at_zero _ _)) (Int.zero_add _)
  have ip : V (runF tb (k+120)) ((s0) :: (s1) :: (.val (.bool w) : Slot) :: (s3) :: (s4) :: (.val (rowD (pl dp [])) : Slot) :: (.val (runD (A ++ (c :: B))) : Slot) :: (s7) :: (s8) :: (s9) :: (s10) :: (.own false [.int (0 + (A.length : Nat))] : Slot) :: (.no : Slot) :: (s13) :: (s14) :: (s15) :: (s16) :: (s17) :: (s18) :: (s19) :: (s20) :: (s21) :: (s22) :: (s23) :: (.no : Slot) :: (s25) :: (s26) :: (s27) :: (s28) :: (s29) :: (s30) :: (s31) :: (s32) :: (.no : Slot) :: ([] : Fm)) (.bin .Add (.idx (.var 11) (.const (.int 0))) (.const (.int 1))) (.int ((A.length + 1 : Nat) : Int)) := V_bin ix (V_c _) (b_add _ _)
  have e1 : cut ((A ++ (c :: B)).map encS) none (some ((A.length : Nat) : Int)) = A.map encS := by
    rw [cut_lo _ _ (by rw [List.length_map, l1]; omega), ← List.map_take, List.take_left' rfl]
  have e2 : cut ((A ++ (c :: B)).map encS) (some ((A.length : Nat) : Int)) (some ((A.length + 1 : Nat) : Int)) = [c].map encS := by
    rw [cut_mid _ _ _ (by omega) (by rw [List.length_map, l1]; omega), ← List.map_drop, List.drop_left' rfl, Nat.add_sub_cancel_left]
    rfl
  have e3 : cut ((A ++ (c :: B)).map encS) (some ((A.length + 1 : Nat) : Int)) none = B.map encS := by
    rw [cut_hi _ _ (by rw [List.length_map, l1]; omega), ← List.map_drop]
    have : A ++ (c :: B) = (A ++ [c]) ++ B := by rw [List.append_assoc]; rfl
    rw [this, List.drop_left' (by rw [List.length_append]; rfl)]
  refine asg_l (i := 12) (ite_r (x := true) (V_cmpOb (i := 11) rfl (O_lst (ds := []) Vs_nil (Nat.zero_le _)) (ne_nilL _)) (fun _ => O_lst (Vs_cons ?_ (Vs_cons ?_ (Vs_cons ?_ Vs_nil))) three_line) fun z => nomatch z) rfl
  · have h := V_slH (cf := runF tb (k+120)) (e := ((s0) :: (s1) :: (.val (.bool w) : Slot) :: (s3) :: (s4) :: (.val (rowD (pl dp [])) : Slot) :: (.val (runD (A ++ (c :: B))) : Slot) :: (s7) :: (s8) :: (s9) :: (s10) :: (.own false [.int (0 + (A.length : Nat))] : Slot) :: (.no : Slot) :: (s13) :: (s14) :: (s15) :: (s16) :: (s17) :: (s18) :: (s19) :: (s20) :: (s21) :: (s22) :: (s23) :: (.no : Slot) :: (s25) :: (s26) :: (s27) :: (s28) :: (s29) :: (s30) :: (s31) :: (s32) :: (.no : Slot) :: ([] : Fm))) (i := 6) rfl ix
    rw [e1] at h
    exact h
  · have h := V_slB (cf := runF tb (k+120)) (e := ((s0) :: (s1) :: (.val (.bool w) : Slot) :: (s3) :: (s4) :: (.val (rowD (pl dp [])) : Slot) :: (.val (runD (A ++ (c :: B))) : Slot) :: (s7) :: (s8) :: (s9) :: (s10) :: (.own false [.int (0 + (A.length : Nat))] : Slot) :: (.no : Slot) :: (s13) :: (s14) :: (s15) :: (s16) :: (s17) :: (s18) :: (s19) :: (s20) :: (s21) :: (s22) :: (s23) :: (.no : Slot) :: (s25) :: (s26) :: (s27) :: (s28) :: (s29) :: (s30) :: (s31) :: (s32) :: (.no : Slot) :: ([] : Fm))) (i := 6) rfl ix ip
    rw [e2] at h
    exact h
  · have h := V_shi (cf := runF tb (k+120)) (e := ((s0) :: (s1) :: (.val (.bool w) : Slot) :: (s3) :: (s4) :: (.val (rowD (pl dp [])) : Slot) :: (.val (runD (A ++ (c :: B))) : Slot) :: (s7) :: (s8) :: (s9) :: (s10) :: (.own false [.int (0 + (A.length : Nat))] : Slot) :: (.no : Slot) :: (s13) :: (s14) :: (s15) :: (s16) :: (s17) :: (s18) :: (s19) :: (s20) :: (s21) :: (s22) :: (s23) :: (.no : Slot) :: (s25) :: (s26) :: (s27) :: (s28) :: (s29) :: (s30) :: (s31) :: (s32) :: (.no : Slot) :: ([] : Fm))) (i := 6) rfl ip
    rw [e3] at h
    exact h
theorem y27 (h : Kd w t u P P') (hS : S = preN dp P.flatten) (hl : S.length ≤ 60) : ∃ t11 : Slot, ev (runF tb (k+120)) s_law_right_26 ((s0) :: (s1) :: (.val (.bool w) : Slot) :: (s3) :: (s4) :: (.val (rowD (pl dp [])) : Slot) :: (.val (runD S) : Slot) :: (s7) :: (s8) :: (s9) :: (s10) :: (.no : Slot) :: (.no : Slot) :: (s13) :: (s14) :: (s15) :: (s16) :: (s17) :: (s18) :: (s19) :: (s20) :: (s21) :: (s22) :: (s23) :: (.no : Slot) :: (s25) :: (s26) :: (s27) :: (s28) :: (s29) :: (s30) :: (s31) :: (s32) :: (.no : Slot) :: ([] : Fm)) = .ok (.fl .nx) ((s0) :: (s1) :: (.val (.bool w) : Slot) :: (s3) :: (s4) :: (.val (rowD (pl dp [])) : Slot) :: (.val (runD S) : Slot) :: (s7) :: (s8) :: (s9) :: (s10) :: (t11) :: (.no : Slot) :: (s13) :: (s14) :: (s15) :: (s16) :: (s17) :: (s18) :: (s19) :: (s20) :: (s21) :: (s22) :: (s23) :: (.no : Slot) :: (s25) :: (s26) :: (s27) :: (s28) :: (s29) :: (s30) :: (s31) :: (s32) :: (.no : Slot) :: ([] : Fm)) ∧ ev (runF tb (k+120)) s_law_right_27 ((s0) :: (s1) :: (.val (.bool w) : Slot) :: (s3) :: (s4) :: (.val (rowD (pl dp [])) : Slot) :: (.val (runD S) : Slot) :: (s7) :: (s8) :: (s9) :: (s10) :: (t11) :: (.no : Slot) :: (s13) :: (s14) :: (s15) :: (s16) :: (s17) :: (s18) :: (s19) :: (s20) :: (s21) :: (s22) :: (s23) :: (.no : Slot) :: (s25) :: (s26) :: (s27) :: (s28) :: (s29) :: (s30) :: (s31) :: (s32) :: (.no : Slot) :: ([] : Fm)) = .ok (.fl .nx) ((s0) :: (s1) :: (.val (.bool w) : Slot) :: (s3) :: (s4) :: (.val (rowD (pl dp [])) : Slot) :: (.val (runD S) : Slot) :: (s7) :: (s8) :: (s9) :: (s10) :: (t11) :: (.own false (P.map fun x => runD (preN dp x)) : Slot) :: (s13) :: (s14) :: (s15) :: (s16) :: (s17) :: (s18) :: (s19) :: (s20) :: (s21) :: (s22) :: (s23) :: (.no : Slot) :: (s25) :: (s26) :: (s27) :: (s28) :: (s29) :: (s30) :: (s31) :: (s32) :: (.no : Slot) :: ([] : Fm)) := by
  refine ⟨_, y26 k hl, ?_⟩
  cases h with
  | m m h =>
    have e : S = preN dp (sM .p1 0 0 m) := by rw [hS, List.flatten_cons, List.flatten_nil, List.append_nil]
    show ev (runF tb (k + 120)) s_law_right_27 ((s0) :: (s1) :: (.val (.bool false) : Slot) :: (s3) :: (s4) :: (.val (rowD (pl dp [])) : Slot) :: (.val (runD S) : Slot) :: (s7) :: (s8) :: (s9) :: (s10) :: (.own false [] : Slot) :: (.no : Slot) :: (s13) :: (s14) :: (s15) :: (s16) :: (s17) :: (s18) :: (s19) :: (s20) :: (s21) :: (s22) :: (s23) :: (.no : Slot) :: (s25) :: (s26) :: (s27) :: (s28) :: (s29) :: (s30) :: (s31) :: (s32) :: (.no : Slot) :: ([] : Fm)) = .ok (.fl .nx) ((s0) :: (s1) :: (.val (.bool false) : Slot) :: (s3) :: (s4) :: (.val (rowD (pl dp [])) : Slot) :: (.val (runD S) : Slot) :: (s7) :: (s8) :: (s9) :: (s10) :: (.own false [] : Slot) :: (.own false [runD (preN dp (sM .p1 0 0 m))] : Slot) :: (s13) :: (s14) :: (s15) :: (s16) :: (s17) :: (s18) :: (s19) :: (s20) :: (s21) :: (s22) :: (s23) :: (.no : Slot) :: (s25) :: (s26) :: (s27) :: (s28) :: (s29) :: (s30) :: (s31) :: (s32) :: (.no : Slot) :: ([] : Fm))
    rw [← e]
    exact y27a k
  | w m1 m2 h1 h2 h =>
    have e : S = preN dp (sM .p2 0 0 m1) ++ ((pl dp [], 4) :: preN dp (sM .p3 0 0 m2)) := by
      rw [hS]
      simp only [List.flatten_cons, List.flatten_nil, List.append_nil, preN_app]
      have : preN dp [(([] : List Int), (4 : Int))] = [(pl dp [], 4)] := by
        rw [preN_eq]
        rfl
      rw [this]
      rfl
    have q := cutF_one dp (preN dp (sM .p3 0 0 m2)) (pre_ne dp fun s hs => (sM_ne _ _ _ _ s hs).1) (preN dp (sM .p2 0 0 m1)) 0 (pre_ne dp fun s hs => (sM_ne _ _ _ _ s hs).1)
    rw [← e] at q
    rw [q, if_pos rfl]
    have g := y27b k (w := true) (dp := dp) (S := S) (s0 := s0) (s1 := s1) (s3 := s3) (s4 := s4) (s7 := s7) (s8 := s8) (s9 := s9) (s10 := s10) (s13 := s13) (s14 := s14) (s15 := s15) (s16 := s16) (s17 := s17) (s18 := s18) (s19 := s19) (s20 := s20) (s21 := s21) (s22 := s22) (s23 := s23) (s25 := s25) (s26 := s26) (s27 := s27) (s28 := s28) (s29 := s29) (s30 := s30) (s31 := s31) (s32 := s32) e
    have w1 : preN dp [(([] : List Int), (4 : Int))] = [(pl dp [], 4)] := by
      rw [preN_eq]
      rfl
    rw [List.map_cons, List.map_cons, List.map_cons, List.map_nil, w1]
    exact g
end
end L2.Mp
set_option Elab.async false
set_option linter.all false
set_option maxRecDepth 100000
set_option maxHeartbeats 0
namespace L2.Mp
open PySem PySem.Spec PyProof.Rows L2
theorem fm_FM (q : List Int) : ∀ ss : List Stp, (ss.filterMap fun s => if s.1 = q then some (encS s) else none) = (FM q ss).map encS
  | [] => rfl
  | s :: r => by
    have ih := fm_FM q r
    unfold FM at ih ⊢
    by_cases h : s.1 = q
    · simp only [List.filterMap_cons, List.filter_cons, h, if_true, decide_true, List.map_cons, ih]
    · simp only [List.filterMap_cons, List.filter_cons, h, if_false, decide_false, Bool.false_eq_true, ih]
theorem FM_len (q : List Int) (ss : List Stp) : (FM q ss).length ≤ ss.length := List.length_filter_le _ _
theorem fl_cons {cf : CF} {tg body : T} {d : D} {ds : List D} {e e1 e2 : Fm} {r : R Val} (hb : bindT tg d e = some e2) (hs : ev cf body e2 = .ok (.fl .nx) e1) (hr : fLoop (fun d e2 => match bindT tg d e2 with
    | some e3 => ev cf body e3
    | none => .bad) ds e1 = r) : fLoop (fun d e2 => match bindT tg d e2 with
    | some e3 => ev cf body e3
    | none => .bad) (d :: ds) e = r := by
  subst hr
  unfold fLoop
  rw [hb]
  dsimp only
  rw [hs]
  cases ds <;> rfl
section
variable (k : Nat)
variable {s0 s1 s2 s3 s4 s5 s6 s7 s8 s9 s10 s11 s12 s13 s14 s15 s16 s17 s18 s19 s20 s21 s22 s23 s24 s25 s26 s27 s28 s29 s30 s31 s32 s33 : Slot}
variable {w : Bool} {p : Ph} {dp : Nat} {t u d : D} {ss ss' S X acc : List Stp} {P P' : List (List Stp)}
theorem add_acc {q : List Int} (h : acc.length + X.length ≤ 1000) : binD .Add (runD acc) (.tuple ((FM q X).map encS)) = some (.v (runD (acc ++ FM q X))) :=
  run_add acc (FM q X) (by have := FM_len q X; omega)
theorem y_pick (h : acc.length + X.length ≤ 1000) : ev (runF tb (k+120)) (.asg (.tN 13) (.bin .Add (.var 13) (.prim .tuple (.cons c_law_right_11 .nil)))) ((s0) :: (s1) :: (s2) :: (s3) :: (s4) :: (.val (rowD (pl dp [])) : Slot) :: (s6) :: (s7) :: (s8) :: (s9) :: (s10) :: (s11) :: (s12) :: (.val (runD acc) : Slot) :: (.val (runD X) : Slot) :: (s15) :: (s16) :: (s17) :: (s18) :: (s19) :: (s20) :: (s21) :: (s22) :: (s23) :: (s24) :: (s25) :: (s26) :: (s27) :: (s28) :: (s29) :: (s30) :: (s31) :: (s32) :: (.no : Slot) :: ([] : Fm)) = .ok (.fl .nx) ((s0) :: (s1) :: (s2) :: (s3) :: (s4) :: (.val (rowD (pl dp [])) : Slot) :: (s6) :: (s7) :: (s8) :: (s9) :: (s10) :: (s11) :: (s12) :: (.val (runD (acc ++ FM (pl dp []) X)) : Slot) :: (.val (runD X) : Slot) :: (s15) :: (s16) :: (s17) :: (s18) :: (s19) :: (s20) :: (s21) :: (s22) :: (s23) :: (s24) :: (s25) :: (s26) :: (s27) :: (s28) :: (s29) :: (s30) :: (s31) :: (s32) :: (.no : Slot) :: ([] : Fm)) := by
  have c : O (runF tb (k+120)) ((s0) :: (s1) :: (s2) :: (s3) :: (s4) :: (.val (rowD (pl dp [])) : Slot) :: (s6) :: (s7) :: (s8) :: (s9) :: (s10) :: (s11) :: (s12) :: (.val (runD acc) : Slot) :: (.val (runD X) : Slot) :: (s15) :: (s16) :: (s17) :: (s18) :: (s19) :: (s20) :: (s21) :: (s22) :: (s23) :: (s24) :: (s25) :: (s26) :: (s27) :: (s28) :: (s29) :: (s30) :: (s31) :: (s32) :: (.no : Slot) :: ([] : Fm)) c_law_right_11 ((FM (pl dp []) X).map encS) := by
    rw [← fm_FM]
    refine comp_fm encS (fun s => if s.1 = pl dp [] then some (encS s) else none) (src_seq_t (V_var rfl)) (by unfold LINE; omega) rfl fun s hs => ⟨((s0) :: (s1) :: (s2) :: (s3) :: (s4) :: (.val (rowD (pl dp [])) : Slot) :: (s6) :: (s7) :: (s8) :: (s9) :: (s10) :: (s11) :: (s12) :: (.val (runD acc) : Slot) :: (.val (runD X) : Slot) :: (s15) :: (s16) :: (s17) :: (s18) :: (s19) :: (s20) :: (s21) :: (s22) :: (s23) :: (s24) :: (s25) :: (s26) :: (s27) :: (s28) :: (s29) :: (s30) :: (s31) :: (s32) :: (.val (encS s) : Slot) :: ([] : Fm)), rfl, rfl, ?_⟩
    have c : V (runF tb (k+120)) ((s0) :: (s1) :: (s2) :: (s3) :: (s4) :: (.val (rowD (pl dp [])) : Slot) :: (s6) :: (s7) :: (s8) :: (s9) :: (s10) :: (s11) :: (s12) :: (.val (runD acc) : Slot) :: (.val (runD X) : Slot) :: (s15) :: (s16) :: (s17) :: (s18) :: (s19) :: (s20) :: (s21) :: (s22) :: (s23) :: (s24) :: (s25) :: (s26) :: (s27) :: (s28) :: (s29) :: (s30) :: (s31) :: (s32) :: (.val (encS s) : Slot) :: ([] : Fm)) (.cmp .Eq (.idx (.var 33) (.const (.int 0))) (.var 5)) (.bool (decide (s.1 = pl dp []))) := V_cmp (V_idx (V_var rfl) (V_c _) rfl) (V_var rfl) (eq_row _ _)
    by_cases h : s.1 = pl dp []
    · rw [decide_eq_true h] at c
      exact .inr ⟨encS s, .v (encS s), if_pos h, evC_V c, V_var rfl, rfl⟩
    · rw [decide_eq_false h] at c
      exact .inl ⟨if_neg h, evC_V c⟩
  exact asg_v (i := 13) (V_bin (V_var rfl) (V_tupO c) (add_acc h)) rfl
theorem y_pick1 (hd : dp < 3) (q : Int) (h : acc.length + X.length ≤ 1000) : ev (runF tb (k+120)) (.seq (.asg (.tN 13) (.bin .Add (.var 13) (.prim .tuple (.cons c_law_right_10 .nil)))) .done) ((s0) :: (s1) :: (s2) :: (s3) :: (s4) :: (.val (rowD (pl dp [])) : Slot) :: (s6) :: (s7) :: (s8) :: (s9) :: (s10) :: (s11) :: (s12) :: (.val (runD acc) : Slot) :: (.val (runD X) : Slot) :: (s15) :: (s16) :: (s17) :: (s18) :: (s19) :: (s20) :: (s21) :: (s22) :: (s23) :: (.val (.int q) : Slot) :: (s25) :: (s26) :: (s27) :: (s28) :: (s29) :: (s30) :: (s31) :: (s32) :: (.no : Slot) :: ([] : Fm)) = .ok (.fl .nx) ((s0) :: (s1) :: (s2) :: (s3) :: (s4) :: (.val (rowD (pl dp [])) : Slot) :: (s6) :: (s7) :: (s8) :: (s9) :: (s10) :: (s11) :: (s12) :: (.val (runD (acc ++ FM (pl dp [q]) X)) : Slot) :: (.val (runD X) : Slot) :: (s15) :: (s16) :: (s17) :: (s18) :: (s19) :: (s20) :: (s21) :: (s22) :: (s23) :: (.val (.int q) : Slot) :: (s25) :: (s26) :: (s27) :: (s28) :: (s29) :: (s30) :: (s31) :: (s32) :: (.no : Slot) :: ([] : Fm)) := by
  have c : O (runF tb (k+120)) ((s0) :: (s1) :: (s2) :: (s3) :: (s4) :: (.val (rowD (pl dp [])) : Slot) :: (s6) :: (s7) :: (s8) :: (s9) :: (s10) :: (s11) :: (s12) :: (.val (runD acc) : Slot) :: (.val (runD X) : Slot) :: (s15) :: (s16) :: (s17) :: (s18) :: (s19) :: (s20) :: (s21) :: (s22) :: (s23) :: (.val (.int q) : Slot) :: (s25) :: (s26) :: (s27) :: (s28) :: (s29) :: (s30) :: (s31) :: (s32) :: (.no : Slot) :: ([] : Fm)) c_law_right_10 ((FM (pl dp [q]) X).map encS) := by
    rw [← fm_FM]
    refine comp_fm encS (fun s => if s.1 = pl dp [q] then some (encS s) else none) (src_seq_t (V_var rfl)) (by unfold LINE; omega) rfl fun s hs => ⟨((s0) :: (s1) :: (s2) :: (s3) :: (s4) :: (.val (rowD (pl dp [])) : Slot) :: (s6) :: (s7) :: (s8) :: (s9) :: (s10) :: (s11) :: (s12) :: (.val (runD acc) : Slot) :: (.val (runD X) : Slot) :: (s15) :: (s16) :: (s17) :: (s18) :: (s19) :: (s20) :: (s21) :: (s22) :: (s23) :: (.val (.int q) : Slot) :: (s25) :: (s26) :: (s27) :: (s28) :: (s29) :: (s30) :: (s31) :: (s32) :: (.val (encS s) : Slot) :: ([] : Fm)), rfl, rfl, ?_⟩
    have c : V (runF tb (k+120)) ((s0) :: (s1) :: (s2) :: (s3) :: (s4) :: (.val (rowD (pl dp [])) : Slot) :: (s6) :: (s7) :: (s8) :: (s9) :: (s10) :: (s11) :: (s12) :: (.val (runD acc) : Slot) :: (.val (runD X) : Slot) :: (s15) :: (s16) :: (s17) :: (s18) :: (s19) :: (s20) :: (s21) :: (s22) :: (s23) :: (.val (.int q) : Slot) :: (s25) :: (s26) :: (s27) :: (s28) :: (s29) :: (s30) :: (s31) :: (s32) :: (.val (encS s) : Slot) :: ([] : Fm)) (.cmp .Eq (.idx (.var 33) (.const (.int 0))) (.bin .Add (.var 5) (.tup (.cons (.var 24) .nil)))) (.bool (decide (s.1 = pl dp [q]))) := V_cmp (V_idx (V_var rfl) (V_c _) rfl) (V_bin (V_var rfl) (V_tup (Vs_cons (V_var rfl) Vs_nil) one_line) (row_add dp hd [q] (by simp))) (eq_row _ _)
    by_cases h : s.1 = pl dp [q]
    · rw [decide_eq_true h] at c
      exact .inr ⟨encS s, .v (encS s), if_pos h, evC_V c, V_var rfl, rfl⟩
    · rw [decide_eq_false h] at c
      exact .inl ⟨if_neg h, evC_V c⟩
  exact seq_nx (asg_v (i := 13) (V_bin (V_var rfl) (V_tupO c) (add_acc h)) rfl) rfl
theorem y_two (hd : dp < 3) (h24 : storable (some s24) = true) (h : acc.length + 2 * X.length ≤ 1000) : ev (runF tb (k+120)) l_law_right_1 ((s0) :: (s1) :: (s2) :: (s3) :: (s4) :: (.val (rowD (pl dp [])) : Slot) :: (s6) :: (s7) :: (s8) :: (s9) :: (s10) :: (s11) :: (s12) :: (.val (runD acc) : Slot) :: (.val (runD X) : Slot) :: (s15) :: (s16) :: (s17) :: (s18) :: (s19) :: (s20) :: (s21) :: (s22) :: (s23) :: (s24) :: (s25) :: (s26) :: (s27) :: (s28) :: (s29) :: (s30) :: (s31) :: (s32) :: (.no : Slot) :: ([] : Fm)) = .ok (.fl .nx) ((s0) :: (s1) :: (s2) :: (s3) :: (s4) :: (.val (rowD (pl dp [])) : Slot) :: (s6) :: (s7) :: (s8) :: (s9) :: (s10) :: (s11) :: (s12) :: (.val (runD (acc ++ FM (pl dp [0]) X ++ FM (pl dp [1]) X)) : Slot) :: (.val (runD X) : Slot) :: (s15) :: (s16) :: (s17) :: (s18) :: (s19) :: (s20) :: (s21) :: (s22) :: (s23) :: (.val (.int 1) : Slot) :: (s25) :: (s26) :: (s27) :: (s28) :: (s29) :: (s30) :: (s31) :: (s32) :: (.no : Slot) :: ([] : Fm)) := by
  have z0 := bind_st (i := 24) (d := .int 0) (e := ((s0) :: (s1) :: (s2) :: (s3) :: (s4) :: (.val (rowD (pl dp [])) : Slot) :: (s6) :: (s7) :: (s8) :: (s9) :: (s10) :: (s11) :: (s12) :: (.val (runD acc) : Slot) :: (.val (runD X) : Slot) :: (s15) :: (s16) :: (s17) :: (s18) :: (s19) :: (s20) :: (s21) :: (s22) :: (s23) :: (s24) :: (s25) :: (s26) :: (s27) :: (s28) :: (s29) :: (s30) :: (s31) :: (s32) :: (.no : Slot) :: ([] : Fm))) rfl h24
  have z1 := bind_st (i := 24) (d := .int 1) (e := ((s0) :: (s1) :: (s2) :: (s3) :: (s4) :: (.val (rowD (pl dp [])) : Slot) :: (s6) :: (s7) :: (s8) :: (s9) :: (s10) :: (s11) :: (s12) :: (.val (runD (acc ++ FM (pl dp [0]) X)) : Slot) :: (.val (runD X) : Slot) :: (s15) :: (s16) :: (s17) :: (s18) :: (s19) :: (s20) :: (s21) :: (s22) :: (s23) :: (.val (.int 0) : Slot) :: (s25) :: (s26) :: (s27) :: (s28) :: (s29) :: (s30) :: (s31) :: (s32) :: (.no : Slot) :: ([] : Fm))) rfl rfl
  have l0 := FM_len (pl dp [0]) X
  have q0 := y_pick1 k (dp := dp) (X := X) (acc := acc) (s0 := s0) (s1 := s1) (s2 := s2) (s3 := s3) (s4 := s4) (s6 := s6) (s7 := s7) (s8 := s8) (s9 := s9) (s10 := s10) (s11 := s11) (s12 := s12) (s15 := s15) (s16 := s16) (s17 := s17) (s18 := s18) (s19 := s19) (s20 := s20) (s21 := s21) (s22 := s22) (s23 := s23) (s25 := s25) (s26 := s26) (s27 := s27) (s28 := s28) (s29 := s29) (s30 := s30) (s31 := s31) (s32 := s32) hd 0 (by omega)
  have q1 := y_pick1 k (dp := dp) (X := X) (acc := acc ++ FM (pl dp [0]) X) (s0 := s0) (s1 := s1) (s2 := s2) (s3 := s3) (s4 := s4) (s6 := s6) (s7 := s7) (s8 := s8) (s9 := s9) (s10 := s10) (s11 := s11) (s12 := s12) (s15 := s15) (s16 := s16) (s17 := s17) (s18 := s18) (s19 := s19) (s20 := s20) (s21 := s21) (s22 := s22) (s23 := s23) (s25 := s25) (s26 := s26) (s27 := s27) (s28 := s28) (s29 := s29) (s30 := s30) (s31 := s31) (s32 := s32) hd 1 (by rw [List.length_append]; omega)
  have src : ev (runF tb (k+120)) (.sR1 (.const (.int 2))) ((s0) :: (s1) :: (s2) :: (s3) :: (s4) :: (.val (rowD (pl dp [])) : Slot) :: (s6) :: (s7) :: (s8) :: (s9) :: (s10) :: (s11) :: (s12) :: (.val (runD acc) : Slot) :: (.val (runD X) : Slot) :: (s15) :: (s16) :: (s17) :: (s18) :: (s19) :: (s20) :: (s21) :: (s22) :: (s23) :: (s24) :: (s25) :: (s26) :: (s27) :: (s28) :: (s29) :: (s30) :: (s31) :: (s32) :: (.no : Slot) :: ([] : Fm)) = .ok (.ds [.int 0, .int 1]) ((s0) :: (s1) :: (s2) :: (s3) :: (s4) :: (.val (rowD (pl dp [])) : Slot) :: (s6) :: (s7) :: (s8) :: (s9) :: (s10) :: (s11) :: (s12) :: (.val (runD acc) : Slot) :: (.val (runD X) : Slot) :: (s15) :: (s16) :: (s17) :: (s18) :: (s19) :: (s20) :: (s21) :: (s22) :: (s23) :: (s24) :: (s25) :: (s26) :: (s27) :: (s28) :: (s29) :: (s30) :: (s31) :: (s32) :: (.no : Slot) :: ([] : Fm)) := rfl
  exact for_ok src (fl_cons z0 q0 (fl_cons z1 q1 rfl))
theorem len_flat {x : List Stp} : ∀ {P : List (List Stp)}, x ∈ P → x.length ≤ P.flatten.length
  | y :: r, h => by
    rw [List.flatten_cons, List.length_append]
    rcases List.mem_cons.mp h with rfl | h
    · omega
    · have := len_flat h
      omega
theorem due_loop (hd : dp < 3) : ∀ (Q : List (List Stp)) (acc : List Stp) (s14 s24 : Slot), storable (some s14) = true → storable (some s24) = true → acc.length + 3 * Q.flatten.length ≤ 900 → ∃ t14 t24 : Slot, fLoop (fun d e2 => match bindT (.tN 14) d e2 with
    | some e3 => ev (runF tb (k+120)) (.seq (.asg (.tN 13) (.bin .Add (.var 13) (.prim .tuple (.cons c_law_right_11 .nil)))) (.seq l_law_right_1 .done)) e3
    | none => .bad) (Q.map fun x => runD (preN dp x)) ((s0) :: (s1) :: (s2) :: (s3) :: (s4) :: (.val (rowD (pl dp [])) : Slot) :: (s6) :: (s7) :: (s8) :: (s9) :: (s10) :: (s11) :: (s12) :: (.val (runD acc) : Slot) :: (s14) :: (s15) :: (s16) :: (s17) :: (s18) :: (s19) :: (s20) :: (s21) :: (s22) :: (s23) :: (s24) :: (s25) :: (s26) :: (s27) :: (s28) :: (s29) :: (s30) :: (s31) :: (s32) :: (.no : Slot) :: ([] : Fm)) = .ok (.fl .nx) ((s0) :: (s1) :: (s2) :: (s3) :: (s4) :: (.val (rowD (pl dp [])) : Slot) :: (s6) :: (s7) :: (s8) :: (s9) :: (s10) :: (s11) :: (s12) :: (.val (runD (acc ++ (Q.map fun x => Fp dp (preN dp x)).flatten)) : Slot) :: (t14) :: (s15) :: (s16) :: (s17) :: (s18) :: (s19) :: (s20) :: (s21) :: (s22) :: (s23) :: (t24) :: (s25) :: (s26) :: (s27) :: (s28) :: (s29) :: (s30) :: (s31) :: (s32) :: (.no : Slot) :: ([] : Fm))
  | [], acc, s14, s24, _, _, _ => ⟨s14, s24, by
    rw [List.map_nil, List.map_nil, List.flatten_nil, List.append_nil]
    rfl⟩
  | x :: Q, acc, s14, s24, h14, h24, hl => by
    rw [List.flatten_cons, List.length_append] at hl
    have l0 := FM_len (pl dp []) (preN dp x)
    have l1 := FM_len (pl dp [0]) (preN dp x)
    have l2 := FM_len (pl dp [1]) (preN dp x)
    have lx := preN_len dp x
    have z := bind_st (i := 14) (d := runD (preN dp x)) (e := ((s0) :: (s1) :: (s2) :: (s3) :: (s4) :: (.val (rowD (pl dp [])) : Slot) :: (s6) :: (s7) :: (s8) :: (s9) :: (s10) :: (s11) :: (s12) :: (.val (runD acc) : Slot) :: (s14) :: (s15) :: (s16) :: (s17) :: (s18) :: (s19) :: (s20) :: (s21) :: (s22) :: (s23) :: (s24) :: (s25) :: (s26) :: (s27) :: (s28) :: (s29) :: (s30) :: (s31) :: (s32) :: (.no : Slot) :: ([] : Fm))) rfl h14
    have q0 := y_pick k (dp := dp) (X := preN dp x) (acc := acc) (s0 := s0) (s1 := s1) (s2 := s2) (s3 := s3) (s4 := s4) (s6 := s6) (s7 := s7) (s8 := s8) (s9 := s9) (s10 := s10) (s11 := s11) (s12 := s12) (s15 := s15) (s16 := s16) (s17 := s17) (s18 := s18) (s19 := s19) (s20 := s20) (s21 := s21) (s22 := s22) (s23 := s23) (s24 := s24) (s25 := s25) (s26 := s26) (s27 := s27) (s28 := s28) (s29 := s29) (s30 := s30) (s31 := s31) (s32 := s32) (by omega)
    have q1 := y_two k (dp := dp) (X := preN dp x) (acc := acc ++ FM (pl dp []) (preN dp x)) (s0 := s0) (s1 := s1) (s2 := s2) (s3 := s3) (s4 := s4) (s6 := s6) (s7 := s7) (s8 := s8) (s9 := s9) (s10 := s10) (s11 := s11) (s12 := s12) (s15 := s15) (s16 := s16) (s17 := s17) (s18 := s18) (s19 := s19) (s20 := s20) (s21 := s21) (s22 := s22) (s23 := s23) (s24 := s24) (s25 := s25) (s26 := s26) (s27 := s27) (s28 := s28) (s29 := s29) (s30 := s30) (s31 := s31) (s32 := s32) hd h24 (by rw [List.length_append]; omega)
    have ea : acc ++ FM (pl dp []) (preN dp x) ++ FM (pl dp [0]) (preN dp x) ++ FM (pl dp [1]) (preN dp x) = acc ++ Fp dp (preN dp x) := by
      unfold Fp
      rw [List.append_assoc, List.append_assoc]
    rw [ea] at q1
    obtain ⟨t14, t24, g⟩ := due_loop hd Q (acc ++ Fp dp (preN dp x)) (.val (runD (preN dp x))) (.val (.int 1)) rfl rfl (by unfold Fp; simp only [List.length_append]; omega)
    refine ⟨t14, t24, ?_⟩
    rw [List.map_cons, List.map_cons, List.flatten_cons, ← List.append_assoc]
    exact fl_cons z (seq_nx q0 (seq_nx q1 rfl)) g
theorem src_seq_ob {cf : CF} {e : Fm} {i : Nat} {xs : List D} (h : e[i]? = some (.own false xs)) : ev cf (.sSeq (.var i)) e = .ok (.ds xs) (e.set i (.val (.list xs))) := by
  simp only [ev, R.rv, R.rvs, R.dsk, R.bnd, testR, partR, rd, rds, fz, fzs, nrm, optR, keepS, storable, tru, isD, tyN, Ty.sub, List.any_cons, List.any_nil, List.all_cons, List.all_nil, doCall, mkArgs, lent, isOwnS, noDup, putOuts, argsFit, endF, outsF, startF, bindT, bindTs, List.getElem?_cons_zero, List.getElem?_cons_succ, List.getElem?_nil, List.map_cons, List.map_nil, List.length_cons, List.length_nil, List.replicate, List.cons_append, List.nil_append, List.set_cons_zero, List.set_cons_succ, Option.bind, Option.map, Bool.and_true, Bool.true_and, Bool.and_false, Bool.false_and, Bool.or_true, Bool.true_or, Bool.or_false, Bool.false_or, Bool.not_true, Bool.not_false, Bool.not_not, if_true, if_false, Bool.false_eq_true, reduceIte, reduceCtorEq, decide_true, decide_false, List.isEmpty_nil, List.isEmpty_cons, beq_self_eq_true, Nat.reduceAdd, Nat.reduceSub, Nat.reduceLeDiff, Nat.reduceLT, List.contains_nil, it_l, it_t, it_r, ty_r, b_add, b_sub, b_mul, b_mod, b_fdiv, b_addt, b_addl, b_pow3, b_pow6, b_pow12, b_pow18, i_t, i_l, i_r, sl_t, sl_l, p_len_l, p_len_t, p_len_r, p_abs, p_int, p_intB, p_tup_l, p_tup_t, p_lst_l, p_lst_t, p_sum_l, p_sum_t, p_sum_r, p_all, p_any, p_max2, p_min2, isNon, nolistR, nolist, and_self, and_true, true_and, h]
theorem y28 {t13 : Slot} (h : storable (some t13) = true) : ev (runF tb (k+120)) s_law_right_28 ((s0) :: (s1) :: (s2) :: (s3) :: (s4) :: (s5) :: (s6) :: (s7) :: (s8) :: (s9) :: (s10) :: (s11) :: (s12) :: (t13) :: (s14) :: (s15) :: (s16) :: (s17) :: (s18) :: (s19) :: (s20) :: (s21) :: (s22) :: (s23) :: (s24) :: (s25) :: (s26) :: (s27) :: (s28) :: (s29) :: (s30) :: (s31) :: (s32) :: (s33) :: ([] : Fm)) = .ok (.fl .nx) ((s0) :: (s1) :: (s2) :: (s3) :: (s4) :: (s5) :: (s6) :: (s7) :: (s8) :: (s9) :: (s10) :: (s11) :: (s12) :: (.val (runD []) : Slot) :: (s14) :: (s15) :: (s16) :: (s17) :: (s18) :: (s19) :: (s20) :: (s21) :: (s22) :: (s23) :: (s24) :: (s25) :: (s26) :: (s27) :: (s28) :: (s29) :: (s30) :: (s31) :: (s32) :: (s33) :: ([] : Fm)) :=
  asg_v (i := 13) (d := runD []) (V_tup Vs_nil (Nat.zero_le _)) h
theorem y_due (hd : dp < 3) (hl : P.flatten.length ≤ 60) (h14 : storable (some s14) = true) (h24 : storable (some s24) = true) : ∃ t14 t24 : Slot, ev (runF tb (k+120)) l_law_right_2 ((s0) :: (s1) :: (s2) :: (s3) :: (s4) :: (.val (rowD (pl dp [])) : Slot) :: (s6) :: (s7) :: (s8) :: (s9) :: (s10) :: (s11) :: (.own false (P.map fun x => runD (preN dp x)) : Slot) :: (.val (runD []) : Slot) :: (s14) :: (s15) :: (s16) :: (s17) :: (s18) :: (s19) :: (s20) :: (s21) :: (s22) :: (s23) :: (s24) :: (s25) :: (s26) :: (s27) :: (s28) :: (s29) :: (s30) :: (s31) :: (s32) :: (.no : Slot) :: ([] : Fm)) = .ok (.fl .nx) ((s0) :: (s1) :: (s2) :: (s3) :: (s4) :: (.val (rowD (pl dp [])) : Slot) :: (s6) :: (s7) :: (s8) :: (s9) :: (s10) :: (s11) :: (.val (.list (P.map fun x => runD (preN dp x))) : Slot) :: (.val (runD (P.map fun x => Fp dp (preN dp x)).flatten) : Slot) :: (t14) :: (s15) :: (s16) :: (s17) :: (s18) :: (s19) :: (s20) :: (s21) :: (s22) :: (s23) :: (t24) :: (s25) :: (s26) :: (s27) :: (s28) :: (s29) :: (s30) :: (s31) :: (s32) :: (.no : Slot) :: ([] : Fm)) := by
  obtain ⟨t14, t24, g⟩ := due_loop k (s12 := .val (.list (P.map fun x => runD (preN dp x)))) hd P [] s14 s24 h14 h24 (by rw [List.length_nil]; omega)
  exact ⟨t14, t24, for_ok (src_seq_ob (i := 12) rfl) g⟩
theorem y29 {N : Nat} (h : TL p t u ss ss' d N) (hN : N ≤ 100) : ev (runF tb (k+120)) s_law_right_29 ((s0) :: (.val (bk p) : Slot) :: (s2) :: (s3) :: (s4) :: (s5) :: (s6) :: (s7) :: (s8) :: (.val d : Slot) :: (.val (runD ss') : Slot) :: (s11) :: (s12) :: (.val (runD ss') : Slot) :: (s14) :: (s15) :: (s16) :: (s17) :: (s18) :: (s19) :: (s20) :: (.val t : Slot) :: (s22) :: (s23) :: (s24) :: (s25) :: (s26) :: (s27) :: (s28) :: (s29) :: (s30) :: (s31) :: (s32) :: (s33) :: ([] : Fm)) = .ok (.fl (.ret (.v (.bool true)))) ((s0) :: (.val (bk p) : Slot) :: (s2) :: (s3) :: (s4) :: (s5) :: (s6) :: (s7) :: (s8) :: (.val d : Slot) :: (.val (runD ss') : Slot) :: (s11) :: (s12) :: (.val (runD ss') : Slot) :: (s14) :: (s15) :: (s16) :: (s17) :: (s18) :: (s19) :: (s20) :: (.val t : Slot) :: (s22) :: (s23) :: (s24) :: (s25) :: (s26) :: (s27) :: (s28) :: (s29) :: (s30) :: (s31) :: (s32) :: (s33) :: ([] : Fm)) :=
  ret_v (V_call (Vs_consO (O_lst (Vs_cons (V_var rfl) (Vs_cons (V_call (Vs_cons (V_var rfl) (Vs_cons (V_var rfl) (Vs_cons (V_var rfl) Vs_nil))) (s_derivation h.fit' h.md' (k+120) (by omega))) Vs_nil)) two_line) (Vs_consO (O_lst (Vs_cons (V_var rfl) (Vs_cons (V_var rfl) Vs_nil)) two_line) Vs_nil)) (s_same (.list [runD ss', d]) (k+120)
    (by
      show (okD (runD ss') && (okD d && true)) = true
      rw [okD_run (by have := h.fit'.len; omega) h.fit'.nn, h.dr.okd]
      rfl)
    (by
      have h1 := hgt_run ss'
      have h2 := h.dr.hg
      show max (hgt (runD ss')) (max (hgt d) 0) + 1 < k + 120
      omega)))
end
end L2.Mp
set_option Elab.async false
set_option linter.all false
set_option maxRecDepth 100000
set_option maxHeartbeats 0
namespace L2.Mp
open PySem PySem.Spec PyProof.Rows L2
section
variable (k : Nat) {bx : List D}
theorem s_right {n : Nat} (hb : Box n bx) (hn : n + 300 < 2 ^ 30) : ∃ bx' : List D, runF tb (k+121) "_law_right" [.io bx] = .ok (.v (.bool true)) [bx'] ∧ Box (n + 300) bx' := by
  obtain ⟨w, b1, p1, o1⟩ := y1 k hb (by omega)
  obtain ⟨dp, b3, p3, hd, o3⟩ := y3 k o1 (by omega) w
  obtain ⟨t, u, P, P', b16, t19, t20, t25, t26, t27, t28, t29, t30, p16, hk, o16⟩ := y16 k w (dp := dp) o3 (by omega)
  obtain ⟨d, N, hN, tl⟩ := kd_tl hk hd
  obtain ⟨hl, h1⟩ := kd_len hk
  have hS : (preN dp P.flatten).length ≤ 60 := by rw [preN_len]; exact hl
  obtain ⟨t4, pd⟩ := y_deep k (s0 := .own true b16) (p := ph w) (w := w) (t := t) (u := u) (S := P.flatten) (s15 := .val (nm "a")) (s16 := .val (nm "b")) (s17 := .val (nm "c")) (s18 := .val (nm "d")) (s19 := t19) (s20 := t20) (s25 := t25) (s26 := t26) (s27 := t27) (s28 := t28) (s29 := t29) (s30 := t30) hd
  obtain ⟨t11, p26, p27⟩ := y27 k (s0 := .own true b16) (s1 := .val (bk (ph w))) (s3 := .val (.int (dp : Nat))) (s4 := t4) (s7 := .val (rowD (cnt (preN dp P.flatten)))) (s8 := .own false [.tuple [gT dp t, gT dp u], rowD (cnt (preN dp P.flatten)), .list (sortD ((preN dp P.flatten).map encS)), .bool true]) (s9 := .val d) (s10 := .val (runD (preN dp P'.flatten))) (s13 := .no) (s14 := .no) (s21 := .val (gT dp t)) (s22 := .val (gT dp u)) (s23 := .val (runD P.flatten)) (s31 := .no) (s32 := .no) (s15 := .val (nm "a")) (s16 := .val (nm "b")) (s17 := .val (nm "c")) (s18 := .val (nm "d")) (s19 := t19) (s20 := t20) (s25 := t25) (s26 := t26) (s27 := t27) (s28 := t28) (s29 := t29) (s30 := t30) (dp := dp) hk rfl hS
  obtain ⟨t14, t24, pl2⟩ := y_due k (P := P) (dp := dp) (s0 := .own true b16) (s1 := .val (bk (ph w))) (s2 := .val (.bool w)) (s3 := .val (.int (dp : Nat))) (s4 := t4) (s6 := .val (runD (preN dp P.flatten))) (s7 := .val (rowD (cnt (preN dp P.flatten)))) (s8 := .own false [.tuple [gT dp t, gT dp u], rowD (cnt (preN dp P.flatten)), .list (sortD ((preN dp P.flatten).map encS)), .bool true]) (s9 := .val d) (s10 := .val (runD (preN dp P'.flatten))) (s11 := t11) (s14 := .no) (s21 := .val (gT dp t)) (s22 := .val (gT dp u)) (s23 := .val (runD P.flatten)) (s24 := .no) (s31 := .no) (s32 := .no) (s15 := .val (nm "a")) (s16 := .val (nm "b")) (s17 := .val (nm "c")) (s18 := .val (nm "d")) (s19 := t19) (s20 := t20) (s25 := t25) (s26 := t26) (s27 := t27) (s28 := t28) (s29 := t29) (s30 := t30) hd hl rfl rfl
  have due : (P.map fun x => Fp dp (preN dp x)).flatten = preN dp P'.flatten := by rw [kd_parts hk, pre_flat]
  rw [due] at pl2
  have body : ∃ e', ev (runF tb (k+120)) f_law_right.body ((.own true bx : Slot) :: (.no : Slot) :: (.no : Slot) :: (.no : Slot) :: (.no : Slot) :: (.no : Slot) :: (.no : Slot) :: (.no : Slot) :: (.no : Slot) :: (.no : Slot) :: (.no : Slot) :: (.no : Slot) :: (.no : Slot) :: (.no : Slot) :: (.no : Slot) :: (.no : Slot) :: (.no : Slot) :: (.no : Slot) :: (.no : Slot) :: (.no : Slot) :: (.no : Slot) :: (.no : Slot) :: (.no : Slot) :: (.no : Slot) :: (.no : Slot) :: (.no : Slot) :: (.no : Slot) :: (.no : Slot) :: (.no : Slot) :: (.no : Slot) :: (.no : Slot) :: (.no : Slot) :: (.no : Slot) :: (.no : Slot) :: ([] : Fm)) = .ok (.fl (.ret (.v (.bool true)))) e' ∧ outsF [true] 0 e' = some [b16] := by
    refine ⟨((.own true b16 : Slot) :: (.val (bk (ph w)) : Slot) :: (.val (.bool w) : Slot) :: (.val (.int (dp : Nat)) : Slot) :: (t4) :: (.val (rowD (pl dp [])) : Slot) :: (.val (runD (preN dp P.flatten)) : Slot) :: (.val (rowD (cnt (preN dp P.flatten))) : Slot) :: (.own false [.tuple [gT dp t, gT dp u], rowD (cnt (preN dp P.flatten)), .list (sortD ((preN dp P.flatten).map encS)), .bool true] : Slot) :: (.val d : Slot) :: (.val (runD (preN dp P'.flatten)) : Slot) :: (t11) :: (.val (.list (P.map fun x => runD (preN dp x))) : Slot) :: (.val (runD (preN dp P'.flatten)) : Slot) :: (t14) :: (.val (nm "a") : Slot) :: (.val (nm "b") : Slot) :: (.val (nm "c") : Slot) :: (.val (nm "d") : Slot) :: (t19) :: (t20) :: (.val (gT dp t) : Slot) :: (.val (gT dp u) : Slot) :: (.val (runD P.flatten) : Slot) :: (t24) :: (t25) :: (t26) :: (t27) :: (t28) :: (t29) :: (t30) :: (.no : Slot) :: (.no : Slot) :: (.no : Slot) :: ([] : Fm)), ?_, ?_⟩
    · refine seq_nx (y0 k) ?_
      refine seq_nx p1 ?_
      refine seq_nx (y2 k w) ?_
      refine seq_nx p3 ?_
      refine seq_nx p16 ?_
      refine seq_nx pd ?_
      refine seq_nx (y17 k hd) ?_
      refine seq_nx (y18 k hd hl h1) ?_
      refine seq_nx (y19 k hS) ?_
      refine seq_nx (y20 k tl) ?_
      refine seq_nx (y21 k tl) ?_
      refine seq_nx (y22 k tl hN rfl) ?_
      refine seq_nx (y23 k tl hN) ?_
      refine seq_nx (y24 k tl hN rfl) ?_
      refine seq_nx (y25 k tl) ?_
      refine seq_nx p26 ?_
      refine seq_nx p27 ?_
      refine seq_nx (y28 k rfl) ?_
      refine seq_nx pl2 ?_
      exact seq_ret (y29 k tl hN)
    · rfl
  obtain ⟨e', q1, q2⟩ := body
  refine ⟨b16, ?_, box_mono o16 (by omega)⟩
  rw [u_law_right]
  show endF [true] (ev (runF tb (k+120)) f_law_right.body ((.own true bx : Slot) :: (.no : Slot) :: (.no : Slot) :: (.no : Slot) :: (.no : Slot) :: (.no : Slot) :: (.no : Slot) :: (.no : Slot) :: (.no : Slot) :: (.no : Slot) :: (.no : Slot) :: (.no : Slot) :: (.no : Slot) :: (.no : Slot) :: (.no : Slot) :: (.no : Slot) :: (.no : Slot) :: (.no : Slot) :: (.no : Slot) :: (.no : Slot) :: (.no : Slot) :: (.no : Slot) :: (.no : Slot) :: (.no : Slot) :: (.no : Slot) :: (.no : Slot) :: (.no : Slot) :: (.no : Slot) :: (.no : Slot) :: (.no : Slot) :: (.no : Slot) :: (.no : Slot) :: (.no : Slot) :: (.no : Slot) :: ([] : Fm))) = _
  rw [q1]
  show (match outsF [true] 0 e' with
    | some outs => CR.ok (.v (.bool true)) outs
    | none => .bad) = _
  rw [q2]
theorem law_says : LawSays 122 := by
  intro ns hl
  obtain ⟨c, h1⟩ := s_cells 120 ns hl
  obtain ⟨bx, h2, h3⟩ := s_box 120 c
  obtain ⟨b1, h4, h5⟩ := s_right 0 h3 (by omega)
  obtain ⟨b2, h6, h7⟩ := s_right 0 h5 (by omega)
  have body : ev (runF tb 121) f_law.body [.val (.list (ns.map .int)), .no] = .ok (.fl (.ret (.v (.bool true)))) [.val (.list (ns.map .int)), .own false b2] :=
    seq_nx (asg_l (call_r (Vs_consO (call_r (Vs_cons (V_var rfl) (Vs_cons (V_c _) Vs_nil)) h1) (Vs_cons (V_c _) Vs_nil)) h2) rfl) (seq_ret (ret_v (and_e (call_io1 (io := false) rfl h4) (call_io1 (io := false) rfl h6))))
  rw [u_law]
  show endF [false] (ev (runF tb 121) f_law.body [.val (.list (ns.map .int)), .no]) = _
  rw [body]
  rfl
end
end L2.Mp
open PyProof.Rows PySem in
theorem law_room : L2.Room 122 callerA := ⟨rfl, by decide, by decide⟩

set_option maxRecDepth 100000 in
theorem PySem.Challenge.cw_countsandfloors_k95_runs_in_two_parts_at_holds : PySem.Challenge.rw_countsandfloors_k95_runs_in_two_parts_at.Holds := by
  exact law_holds 122 law_room L2.Mp.law_says
